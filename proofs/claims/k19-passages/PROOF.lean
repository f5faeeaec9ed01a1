import PyProof.Rows.All
import Wide.All
import OpenK.AllK
import Wide.FinOn
import HandS.ForMost
import HandS.Walk
import HandS.TupAny
import HandS.Deep
import HandS.Style
import HandS.TupLe
import HandS.Wide
import KE.KDictKeyed
import KE.KNestM
import HandS.IsInst
import HandS.Ends
import HandS.Words
import HandS.TupLen
import HandS.More
import HandS.NoneIn
import HandS.TupMul
import HandS.Conv
import HandS.Zip
import KE.SortData
import PyProof.Rows.TupDisplay
import KE.DataFind
import KE.DataCmp
import KE.DataMinMax
import KE.GoesMore
import PyProof.EnumMake
import PyProof.Claim2Refuses
import HandS.Strs
import PyProof.ReprRoads
import HandS.SetFor
import HandS.Keys
import HandS.Iter
import KE.KDictZip
import KE.KDictWalk
import PyProof.DictMoreH
import KE.DatumOrd
import PyProof.ListIndex
import PyProof.ListIndexNeg
import PyProof.MinMaxWalk
import PyProof.TupleOfSeq
import PyProof.FitsInt
import PyProof.ReprLen
import KE.GoesEnum
import HandS.Zip0
import HandS.Sort
import KE.KDictCopyH
import KE.KDictExact
import HandS.Text
import HandS.Exc
import HandS.TupSets
import KE.KDictList
import KE.KEqDict
import HandS.ExcCtx
import HandS.ExcIs
import PySem.Challenge.RW_flatbody_k19_passages
set_option Elab.async false
set_option linter.all false
set_option maxRecDepth 100000
namespace Ve
open PySem PySem.Spec L2
inductive D where
  | non | bl (b : Bool) | int (i : Int) | str (x : Str) | tup (ds : List D) | ref (n : Nat) | scr (ns : List Int) | wt (ds : List D)
inductive O where
  | lst (xs : List D) | dic (kvs : List (D × D)) | dicL (kvs : List (D × D))
  | dicN (ks : List D) | dicM (ks : List D)
  | ins (c : Str) (kvs : List (D × D))
  | exc (c : Str)
  | tab (x : Str)
abbrev Hd := List O
abbrev Ls := List (Option D)
def TpAt (H : Hp) (a : Addr) (vs : List V) : Prop := H a = some (.tup vs)
def WtAt (K : PySem.W.Frag) (H : Hp) (a : Addr) (vs : List V) : Prop := (∃ o : Obj, o.dict = none ∧ H a = some (.frz o (.tup vs))) ∨ ∃ (o : Obj) (its : Array Value) (n : Nat), K.lookup a = some o ∧ o.cls = .type "tuple" ∧ o.dict = none ∧ o.data = .seq its n ∧ its.size ≤ sizeLine ∧ Vals vs its.toList
theorem TpAt.sq {K : PySem.W.Frag} {H : Hp} {a : Addr} {vs : List V} (h : TpAt H a vs) : SqT K H a vs := .inl (.inl h)
theorem WtAt.sq {K : PySem.W.Frag} {H : Hp} {a : Addr} {vs : List V} (h : WtAt K H a vs) : SqT K H a vs := h.elim (fun ⟨o, _, e⟩ => .inl (.inr ⟨o, e⟩)) fun ⟨o, its, n, h1, h2, _, h3⟩ => .inr ⟨o, its, n, h1, h2, h3⟩
def ScAt (K : PySem.W.Frag) (H : Hp) (a : Addr) (vs : List V) : Prop :=
  (∃ o, H a = some (.frz o (.lst vs))) ∨ ∃ (o : Obj) (its : Array Value) (n : Nat), K.lookup a = some o ∧ o.cls = .type "list" ∧ o.dict = none ∧ o.data = .seq its n ∧ its.size ≤ sizeLine ∧ Vals vs its.toList
theorem ScAt.sq {K : PySem.W.Frag} {H : Hp} {a : Addr} {vs : List V} (h : ScAt K H a vs) : SqL K H a vs := h.elim (fun ⟨o, e⟩ => .inl (.inr ⟨o, e⟩)) .inr
mutual
def Rp (K : PySem.W.Frag) (H : Hp) (μ : List Addr) : D → V → Prop
  | .non, v => v = .non
  | .bl b, v => v = .bl b
  | .int i, v => v = .int i
  | .str x, v => v = .str x
  | .ref n, v => ∃ a, μ[n]? = some a ∧ v = .ref a
  | .scr ns, v => ∃ a, v = .ref a ∧ ScAt K H a (ns.map V.int)
  | .tup ds, v => ∃ a vs, v = .ref a ∧ TpAt H a vs ∧ Rps K H μ ds vs
  | .wt ds, v => ∃ a vs, v = .ref a ∧ WtAt K H a vs ∧ Rps K H μ ds vs
def Rps (K : PySem.W.Frag) (H : Hp) (μ : List Addr) : List D → List V → Prop
  | [], vs => vs = []
  | d :: ds, vs => ∃ v r, vs = v :: r ∧ Rp K H μ d v ∧ Rps K H μ ds r
end
def toKey : D → Option Key
  | .int i => some (.inl i)
  | .str x => some (.inr x)
  | _ => none
def toKeys : List D → Option (List Key)
  | [] => some []
  | d :: ds => match toKey d, toKeys ds with
    | some k, some ks => some (k :: ks)
    | _, _ => none
def RpK (K : PySem.W.Frag) (H : Hp) (μ : List Addr) : List (D × D) → List (Key × V) → Prop
  | [], vs => vs = []
  | p :: ds, vs => ∃ k v r, vs = (k, v) :: r ∧ toKey p.1 = some k ∧ Rp K H μ p.2 v ∧ RpK K H μ ds r
def RpT (K : PySem.W.Frag) (H : Hp) (μ : List Addr) : List (D × D) → List (List Key × V) → Prop
  | [], vs => vs = []
  | p :: ds, vs => ∃ ks k v r, p.1 = .tup ks ∧ vs = (k, v) :: r ∧ toKeys ks = some k ∧ Rp K H μ p.2 v ∧ RpT K H μ ds r
mutual
def toNK : D → Option NestedKey
  | .int i => some (.num i)
  | .tup ds => match toNKs ds with
    | some ks => some (.tup ks)
    | none => none
  | _ => none
def toNKs : List D → Option (List NestedKey)
  | [] => some []
  | d :: ds => match toNK d, toNKs ds with
    | some k, some ks => some (k :: ks)
    | _, _ => none
end
def dnP (a : Addr) (kas : List (NestedKey × Addr)) : Heap → Prop := fun h => kas.length ≤ sizeLine ∧ (a == sysModules) = false ∧ (kas.map (·.1)).Nodup ∧
  ∃ (o : Obj) (es : Array DictEntry) (ep : Nat), h.get? a = some o ∧ o.ExactDict ∧ o.data = .dict es ep ∧ ∀ w : World, es.toList = kas.map fun p => (⟨p.1.hash w, .ref p.2, .bool true⟩ : DictEntry)
def RpN (K : PySem.W.Frag) (H : Hp) (μ : List Addr) : List D → List (NestedKey × Addr) → Prop
  | [], as => as = []
  | d :: ds, as => ∃ k a r, as = (k, a) :: r ∧ toNK d = some k ∧ k.depth ≤ 8 ∧ Rp K H μ d (.ref a) ∧ RpN K H μ ds r
def excP (a C : Addr) : Heap → Prop := fun h => ∃ oe, PySem.W.InstAt h a oe C none
def lamQ (x : Str) : Str := (x ++ ".<locals>.") ++ "<lambda>"
def TabFor (K : PySem.W.Frag) (x : Str) (P : Addr) : Prop := ∃ (f c : Addr) (o : Obj) (fd : FuncData), PySem.W.nsIn K mainGlobals x = some (some (.ref f)) ∧ K.lookup f = some o ∧ o.data = .func fd ∧ fd.code = .ref c ∧ PySem.W.codeHdIn K c P = true
abbrev codeU (oc : Obj) : HO := .frz oc (.ext fun _ => True)
def kName : Key → Str
  | .inr x => x
  | .inl _ => ""
abbrev fsOf (vs : List (Key × V)) : List (Str × V) := vs.map fun p => (kName p.1, p.2)
def KNd : List (D × D) → Prop
  | [] => True
  | p :: r => (∀ q ∈ r, q.1 ≠ p.1) ∧ KNd r
def Ro (K : PySem.W.Frag) (H : Hp) (μ : List Addr) : O → Option HO → Prop
  | .lst xs, h => ∃ vs, h = some (.lst vs) ∧ Rps K H μ xs vs
  | .dic kvs, h => KNd kvs ∧ ((∃ vs, h = some (.dK vs) ∧ RpK K H μ kvs vs) ∨ ∃ vs, h = some (.dT vs) ∧ RpT K H μ kvs vs)
  | .dicN ks, h => ∃ a kas, h = some (.ext (dnP a kas)) ∧ RpN K H μ ks kas
  | .dicM ks, h => ∃ a kas od, h = some (.frz od (.ext (dnP a kas))) ∧ RpN K H μ ks kas
  | .ins c kvs, h => ∃ C dx vs, h = some (.ins C dx (fsOf vs)) ∧ PySem.W.nsIn K mainGlobals c = some (some (.ref C)) ∧ RpK K H μ kvs vs
  | .tab x, h => ∃ ps : Array Value, h = some (.tbl ps) ∧ TriplesOk ps.toList ∧ ∀ (pos : Pos) (cv : Value), codeAmong pos ps.toList = some cv → ∃ (c : Addr) (oc : Obj) (vs : Array Value) (t : Tok), cv = .ref c ∧ H c = some (codeU oc) ∧ oc.data = .fields vs ∧ vs[1]? = some (.str (lamQ x) t)
  | .exc c, h => ∃ a C, h = some (.ext (excP a C)) ∧ PySem.W.nsIn K mainGlobals c = some (some (.ref C))
  | .dicL kvs, h => KNd kvs ∧ ((∃ o vs, h = some (.frz o (.dK vs)) ∧ RpK K H μ kvs vs) ∨ ∃ o vs, h = some (.frz o (.dT vs)) ∧ RpT K H μ kvs vs)
structure RelH (K : PySem.W.Frag) (H : Hp) (μ : List Addr) (hp : Hd) : Prop where
  len : μ.length = hp.length
  nd : μ.Nodup
  obj : ∀ (n : Nat) (o : O) (a : Addr), hp[n]? = some o → μ[n]? = some a → Ro K H μ o (H a)
  tabs : ∀ (n : Nat) (x : Str) (a : Addr), hp[n]? = some (.tab x) → μ[n]? = some a → TabFor K x a
structure Ext (μ : List Addr) (H : Hp) (μ' : List Addr) (H' : Hp) : Prop where
  pre : ∃ ν, μ' = μ ++ ν
  new : ∀ a o, a ∉ μ → H a = some o → a ∉ μ'
  keep : ∀ a o, a ∉ μ → H a = some o → H' a = some o
  tups : ∀ a xs, H a = some (.tup xs) → H' a = some (.tup xs)
  scrs : ∀ a o xs, H a = some (.frz o xs) → H' a = some (.frz o xs)
structure Mon (μ : List Addr) (H : Hp) (μ' : List Addr) (H' : Hp) : Prop where
  pre : ∃ ν, μ' = μ ++ ν
  tups : ∀ a xs, H a = some (.tup xs) → H' a = some (.tup xs)
  scrs : ∀ a o u, ((∃ xs, u = .lst xs) ∨ (∃ xs, u = .tup xs) ∨ ∃ φ, u = .ext φ) → H a = some (.frz o u) → H' a = some (.frz o u)
def Rl (K : PySem.W.Frag) (H : Hp) (μ : List Addr) (ls : Ls) (σ : St) : Prop :=
  σ.length = ls.length ∧ ∀ (i : Nat) (d : D), ls[i]? = some (some d) → ∃ v, σ[i]? = some (some v) ∧ Rp K H μ d v
section
variable {K : PySem.W.Frag} {H H' H2 : Hp} {μ μ' μ2 : List Addr} {hp hp' : Hd} {ls : Ls} {σ : St}
theorem Ext.refl : Ext μ H μ H := ⟨⟨[], by simp⟩, fun _ _ h _ => h, fun _ _ _ h => h, fun _ _ h => h, fun _ _ _ h => h⟩
theorem Ext.trans (x : Ext μ H μ' H') (y : Ext μ' H' μ2 H2) : Ext μ H μ2 H2 := by
  obtain ⟨ν, e1⟩ := x.pre
  obtain ⟨ν2, e2⟩ := y.pre
  exact ⟨⟨ν ++ ν2, by rw [e2, e1, List.append_assoc]⟩, fun a o hn e => y.new a o (x.new a o hn e) (x.keep a o hn e), fun a o hn e => y.keep a o (x.new a o hn e) (x.keep a o hn e),
    fun a xs e => y.tups a xs (x.tups a xs e), fun a o xs e => y.scrs a o xs (x.scrs a o xs e)⟩
theorem Ext.m (x : Ext μ H μ' H') : Mon μ H μ' H' := ⟨x.pre, x.tups, fun a o xs _ e => x.scrs a o _ e⟩
theorem Mon.at_ (x : Mon μ H μ' H') {n : Nat} {a : Addr} (h : μ[n]? = some a) : μ'[n]? = some a := by
  obtain ⟨ν, e⟩ := x.pre
  rw [e, List.getElem?_append_left (List.getElem?_eq_some_iff.mp h).1]
  exact h
theorem TpAt.mon (x : Mon μ H μ' H') {a : Addr} {vs : List V} (h : TpAt H a vs) : TpAt H' a vs := x.tups _ _ h
theorem ScAt.mon (x : Mon μ H μ' H') {a : Addr} {vs : List V} (h : ScAt K H a vs) : ScAt K H' a vs := h.elim (fun ⟨o, e⟩ => .inl ⟨o, x.scrs _ _ _ (.inl ⟨_, rfl⟩) e⟩) .inr
theorem WtAt.mon (x : Mon μ H μ' H') {a : Addr} {vs : List V} (h : WtAt K H a vs) : WtAt K H' a vs := h.elim (fun ⟨o, d, e⟩ => .inl ⟨o, d, x.scrs _ _ _ (.inr (.inl ⟨_, rfl⟩)) e⟩) .inr
mutual
theorem Rp.mon (x : Mon μ H μ' H') : ∀ {d : D} {v : V}, Rp K H μ d v → Rp K H' μ' d v
  | .non, _, h => by rw [Rp] at *; exact h
  | .bl b, _, h => by rw [Rp] at *; exact h
  | .int i, _, h => by rw [Rp] at *; exact h
  | .str s, _, h => by rw [Rp] at *; exact h
  | .ref n, _, h => by
    rw [Rp] at *
    obtain ⟨a, e, r⟩ := h
    exact ⟨a, x.at_ e, r⟩
  | .scr ns, _, h => by
    rw [Rp] at *
    obtain ⟨a, e, r⟩ := h
    exact ⟨a, e, r.mon x⟩
  | .tup ds, _, h => by
    rw [Rp] at *
    obtain ⟨a, vs, e, t, r⟩ := h
    exact ⟨a, vs, e, t.mon x, Rps.mon x r⟩
  | .wt ds, _, h => by
    rw [Rp] at *
    obtain ⟨a, vs, e, t, r⟩ := h
    exact ⟨a, vs, e, t.mon x, Rps.mon x r⟩
theorem Rps.mon (x : Mon μ H μ' H') : ∀ {ds : List D} {vs : List V}, Rps K H μ ds vs → Rps K H' μ' ds vs
  | [], _, h => by rw [Rps] at *; exact h
  | d :: ds, _, h => by
    rw [Rps] at *
    obtain ⟨v, r, e, h1, h2⟩ := h
    exact ⟨v, r, e, Rp.mon x h1, Rps.mon x h2⟩
end
theorem RpK.mon (x : Mon μ H μ' H') : ∀ {ds : List (D × D)} {vs : List (Key × V)}, RpK K H μ ds vs → RpK K H' μ' ds vs
  | [], _, h => by rw [RpK] at *; exact h
  | d :: ds, _, h => by
    rw [RpK] at *
    obtain ⟨k, v, r, e, h1, h2, h3⟩ := h
    exact ⟨k, v, r, e, h1, h2.mon x, RpK.mon x h3⟩
theorem RpT.mon (x : Mon μ H μ' H') : ∀ {ds : List (D × D)} {vs : List (List Key × V)}, RpT K H μ ds vs → RpT K H' μ' ds vs
  | [], _, h => by rw [RpT] at *; exact h
  | d :: ds, _, h => by
    rw [RpT] at *
    obtain ⟨ks, k, v, r, e0, e, h1, h2, h3⟩ := h
    exact ⟨ks, k, v, r, e0, e, h1, h2.mon x, RpT.mon x h3⟩
theorem RpN.mon (x : Mon μ H μ' H') : ∀ {ds : List D} {as : List (NestedKey × Addr)}, RpN K H μ ds as → RpN K H' μ' ds as
  | [], _, h => by rw [RpN] at *; exact h
  | d :: ds, _, h => by
    rw [RpN] at *
    obtain ⟨k, a, r, e, h1, h2, h3, h4⟩ := h
    exact ⟨k, a, r, e, h1, h2, h3.mon x, RpN.mon x h4⟩
theorem Rl.mon (x : Mon μ H μ' H') (h : Rl K H μ ls σ) : Rl K H' μ' ls σ := ⟨h.1, fun i d e => let ⟨v, e1, r⟩ := h.2 i d e; ⟨v, e1, r.mon x⟩⟩
theorem Ro.mon (x : Mon μ H μ' H') {o : O} {h : Option HO} (r : Ro K H μ o h) : Ro K H' μ' o h := by
  cases o with
  | lst xs => obtain ⟨vs, e, q⟩ := r; exact ⟨vs, e, q.mon x⟩
  | dic kvs =>
    rcases r with ⟨nd, ⟨vs, e, q⟩ | ⟨vs, e, q⟩⟩
    · exact ⟨nd, .inl ⟨vs, e, q.mon x⟩⟩
    · exact ⟨nd, .inr ⟨vs, e, q.mon x⟩⟩
  | dicN ks => obtain ⟨a, kas, e, q⟩ := r; exact ⟨a, kas, e, q.mon x⟩
  | dicM ks => obtain ⟨a, kas, od, e, q⟩ := r; exact ⟨a, kas, od, e, q.mon x⟩
  | ins c kvs => obtain ⟨C, dx, vs, e, hc, q⟩ := r; exact ⟨C, dx, vs, e, hc, q.mon x⟩
  | exc c => exact r
  | tab c =>
    obtain ⟨ps, e, t, q⟩ := r
    refine ⟨ps, e, t, fun pos cv hc => ?_⟩
    obtain ⟨c, oc, vs, t, e1, e2, e3⟩ := q pos cv hc
    exact ⟨c, oc, vs, t, e1, x.scrs _ _ _ (.inr (.inr ⟨_, rfl⟩)) e2, e3⟩
  | dicL kvs =>
    rcases r with ⟨nd, ⟨o, vs, e, q⟩ | ⟨o, vs, e, q⟩⟩
    · exact ⟨nd, .inl ⟨o, vs, e, q.mon x⟩⟩
    · exact ⟨nd, .inr ⟨o, vs, e, q.mon x⟩⟩
theorem Ro.some {o : O} {h : Option HO} (r : Ro K H μ o h) : ∃ u, h = some u ∧ ∀ xs, u ≠ .tup xs := by
  cases o with
  | lst xs => obtain ⟨vs, e, q⟩ := r; exact ⟨_, e, fun _ z => nomatch z⟩
  | dic kvs =>
    rcases r with ⟨nd, ⟨vs, e, q⟩ | ⟨vs, e, q⟩⟩ <;> exact ⟨_, e, fun _ z => nomatch z⟩
  | dicN ks => obtain ⟨a, kas, e, q⟩ := r; exact ⟨_, e, fun _ z => nomatch z⟩
  | dicM ks => obtain ⟨a, kas, od, e, q⟩ := r; exact ⟨_, e, fun _ z => nomatch z⟩
  | ins c kvs => obtain ⟨C, dx, vs, e, q⟩ := r; exact ⟨_, e, fun _ z => nomatch z⟩
  | exc c => obtain ⟨a, C, e, q⟩ := r; exact ⟨_, e, fun _ z => nomatch z⟩
  | tab c => obtain ⟨ps, e, q⟩ := r; exact ⟨_, e, fun _ z => nomatch z⟩
  | dicL kvs =>
    rcases r with ⟨nd, ⟨o, vs, e, q⟩ | ⟨o, vs, e, q⟩⟩ <;> exact ⟨_, e, fun _ z => nomatch z⟩
theorem Rp.ext (x : Ext μ H μ' H') {d : D} {v : V} (h : Rp K H μ d v) : Rp K H' μ' d v := h.mon x.m
theorem Rps.ext (x : Ext μ H μ' H') {d : List D} {v : List V} (h : Rps K H μ d v) : Rps K H' μ' d v := h.mon x.m
theorem Rl.ext (x : Ext μ H μ' H') (h : Rl K H μ ls σ) : Rl K H' μ' ls σ := h.mon x.m
theorem TpAt.ext (x : Ext μ H μ' H') {a : Addr} {vs : List V} (h : TpAt H a vs) : TpAt H' a vs := h.mon x.m
theorem RelH.at_ (r : RelH K H μ hp) {n : Nat} {o : O} (h : hp[n]? = some o) : ∃ a, μ[n]? = some a ∧ Ro K H μ o (H a) := by
  have hl := (List.getElem?_eq_some_iff.mp h).1
  rw [← r.len] at hl
  exact ⟨μ[n], List.getElem?_eq_getElem hl, r.obj n o _ h (List.getElem?_eq_getElem hl)⟩
theorem RelH.taken (r : RelH K H μ hp) {a : Addr} (h : a ∈ μ) : ∃ u, H a = some u ∧ ∀ xs, u ≠ .tup xs := by
  obtain ⟨n, hn, e⟩ := List.mem_iff_getElem.mp h
  have hn' : n < hp.length := by rw [← r.len]; exact hn
  exact (r.obj n hp[n] a (List.getElem?_eq_getElem hn') (by rw [List.getElem?_eq_getElem hn, e])).some
theorem RelH.notIn (r : RelH K H μ hp) {a : Addr} (h : H a = none) : a ∉ μ := fun m => by
  obtain ⟨u, e, _⟩ := r.taken m
  rw [h] at e
  cases e
theorem Ext.laid (r : RelH K H μ hp) {p : Addr} {o : HO} (h : H p = none) : Ext μ H μ (upd H p o) :=
  ⟨⟨[], by simp⟩, fun _ _ n _ => n, fun a u _ e => by rw [upd_ne (ne_of_none e h)]; exact e, fun a xs e => by rw [upd_ne (ne_of_none e h)]; exact e, fun a o xs e => by rw [upd_ne (ne_of_none e h)]; exact e⟩
theorem RelH.laid (r : RelH K H μ hp) {p : Addr} {o : HO} (h : H p = none) : RelH K (upd H p o) μ hp :=
  ⟨r.len, r.nd, fun n ob a e1 e2 => by
    have q := r.obj n ob a e1 e2
    obtain ⟨u, e, _⟩ := q.some
    rw [upd_ne (ne_of_none e h)]
    exact q.mon (Ext.laid r h).m, r.tabs⟩
theorem Mon.grow {p : Addr} : Mon μ H (μ ++ [p]) H := ⟨⟨[p], rfl⟩, fun _ _ e => e, fun _ _ _ _ e => e⟩
theorem Ext.place {p : Addr} (x : Ext μ H μ' H') (hp0 : H p = none) : Ext μ H (μ' ++ [p]) H' := by
  obtain ⟨ν, e⟩ := x.pre
  refine ⟨⟨ν ++ [p], by rw [e, List.append_assoc]⟩, fun a o n e1 hm => ?_, x.keep, x.tups, x.scrs⟩
  rcases List.mem_append.mp hm with hm | hm
  · exact x.new a o n e1 hm
  · have : a = p := by simpa using hm
    subst this
    rw [hp0] at e1
    cases e1
theorem RelH.place (r : RelH K H μ hp) {p : Addr} {o : O} (hn : p ∉ μ) (q : Ro K H (μ ++ [p]) o (H p)) (nt : ∀ x, o ≠ .tab x := by intro _ z; exact nomatch z) : RelH K H (μ ++ [p]) (hp ++ [o]) := by
  refine ⟨by simp [r.len], List.nodup_append.mpr ⟨r.nd, by simp, fun a ha b hb => ?_⟩, fun n ob a e1 e2 => ?_, fun n x a e1 e2 => ?_⟩
  · have : b = p := by simpa using hb
    subst this
    intro e
    subst e
    exact hn ha
  · by_cases hl : n < hp.length
    · rw [List.getElem?_append_left hl] at e1
      rw [List.getElem?_append_left (by rw [r.len]; exact hl)] at e2
      exact (r.obj n ob a e1 e2).mon Mon.grow
    · have hl2 : n < (hp ++ [o]).length := (List.getElem?_eq_some_iff.mp e1).1
      have : n = hp.length := by
        simp at hl2
        omega
      subst this
      rw [List.getElem?_append_right (Nat.le_refl _)] at e1
      rw [List.getElem?_append_right (by rw [r.len]; exact Nat.le_refl _)] at e2
      simp [r.len] at e1 e2
      subst e1; subst e2
      exact q
  · by_cases hl : n < hp.length
    · rw [List.getElem?_append_left hl] at e1
      rw [List.getElem?_append_left (by rw [r.len]; exact hl)] at e2
      exact r.tabs n x a e1 e2
    · have hl2 : n < (hp ++ [o]).length := (List.getElem?_eq_some_iff.mp e1).1
      have : n = hp.length := by
        simp at hl2
        omega
      subst this
      rw [List.getElem?_append_right (Nat.le_refl _)] at e1
      simp at e1
      exact absurd e1 (nt x)
theorem RelH.put (r : RelH K H μ hp) {n : Nat} {a : Addr} {o : O} {u : HO} (h : μ[n]? = some a) (q : Ro K (upd H a u) μ o (some u)) {u1 : HO} (e1 : H a = some u1 := by assumption) (nf : ∀ ob w, u1 ≠ .frz ob w := by intro _ _ z; exact nomatch z) (ntb : ∀ x, o ≠ .tab x := by intro _ z; exact nomatch z) : RelH K (upd H a u) μ (hp.set n o) ∧ Ext μ H μ (upd H a u) := by
  have ha : a ∈ μ := List.mem_of_getElem? h
  obtain ⟨u0, e0, nt⟩ := r.taken ha
  have x : Ext μ H μ (upd H a u) := by
    refine ⟨⟨[], by simp⟩, fun _ _ n _ => n, fun b v hb e => ?_, fun b xs e => ?_, fun b ob xs e => ?_⟩
    · rw [upd_ne (show b ≠ a from fun z => hb (by rw [z]; exact ha))]
      exact e
    · rw [upd_ne (fun z => ?_)]
      · exact e
      · subst z
        rw [e0] at e
        exact nt _ (Option.some.inj e)
    · rw [upd_ne (fun z => ?_)]
      · exact e
      · subst z
        rw [e1] at e
        exact nf _ _ (Option.some.inj e)
  refine ⟨⟨by simp [r.len], r.nd, fun m ob b e1 e2 => ?_, fun m y b e1 e2 => ?_⟩, x⟩
  rotate_left
  · by_cases hm : m = n
    · subst hm
      have hl : m < hp.length := by rw [← r.len]; exact (List.getElem?_eq_some_iff.mp h).1
      rw [List.getElem?_set_self hl] at e1
      exact absurd (Option.some.inj e1) (ntb y)
    · rw [List.getElem?_set_ne (Ne.symm hm)] at e1
      exact r.tabs m y b e1 e2
  by_cases hm : m = n
  · subst hm
    rw [h] at e2
    cases e2
    have hl : m < hp.length := by rw [← r.len]; exact (List.getElem?_eq_some_iff.mp h).1
    rw [List.getElem?_set_self hl] at e1
    cases e1
    rw [upd_same]
    exact q
  · rw [List.getElem?_set_ne (Ne.symm hm)] at e1
    have hb : b ≠ a := fun z => by
      subst z
      obtain ⟨h1, h2⟩ := List.getElem?_eq_some_iff.mp h
      obtain ⟨h3, h4⟩ := List.getElem?_eq_some_iff.mp e2
      exact hm ((List.getElem_inj r.nd).mp (h4.trans h2.symm))
    rw [upd_ne hb]
    exact (r.obj m ob b e1 e2).mon x.m
end
end Ve
namespace Ve
open PySem PySem.Spec L2
abbrev AE := Ls → Hd → Option (D × Hd)
abbrev AT := Ls → Hd → Option (Bool × Hd)
abbrev AA := Ls → Hd → Option (List D × Hd)
def tD (K : PySem.W.Frag) (f : AE) : TE := fun σ H Q => ∃ ls hp μ d hp', Rl K H μ ls σ ∧ RelH K H μ hp ∧ f ls hp = some (d, hp') ∧
  ∀ v H' μ', Ext μ H μ' H' → RelH K H' μ' hp' → Rp K H' μ' d v → Q v H'
def tT (K : PySem.W.Frag) (f : AT) : TT := fun σ H Q => ∃ ls hp μ b hp', Rl K H μ ls σ ∧ RelH K H μ hp ∧ f ls hp = some (b, hp') ∧
  ∀ H' μ', Ext μ H μ' H' → RelH K H' μ' hp' → Q b H'
def tAs (K : PySem.W.Frag) (f : AA) : TA := fun σ H Q => ∃ ls hp μ ds hp', Rl K H μ ls σ ∧ RelH K H μ hp ∧ f ls hp = some (ds, hp') ∧
  ∀ vs H' μ', Ext μ H μ' H' → RelH K H' μ' hp' → Rps K H' μ' ds vs → Q vs H'
def tL (K : PySem.W.Frag) (f : AA) : TE := fun σ H Q => ∃ ls hp μ ds hp', Rl K H μ ls σ ∧ RelH K H μ hp ∧ f ls hp = some (ds, hp') ∧
  ∀ a vs H' μ', Ext μ H μ' H' → RelH K H' μ' hp' → H a = none → a ∉ μ' → H' a = some (.lst vs) → Rps K H' μ' ds vs → Q (.ref a) H'
abbrev DE (X : Cx) (e : Expr) (f : AE) : Prop := PE X e (tD X.K f)
abbrev DT (X : Cx) (e : Expr) (f : AT) : Prop := PT X e (tT X.K f)
abbrev DW (X : Cx) (e : Expr) (f : AT) : Prop := PW X e (tT X.K f)
abbrev DA (X : Cx) (es : List Expr) (f : AA) : Prop := PA X es (tAs X.K f)
abbrev LE (X : Cx) (e : Expr) (f : AA) : Prop := PE X e (tL X.K f)
theorem PE.imp {X : Cx} {e : Expr} {t t' : TE} (h : PE X e t) (i : ∀ σ H Q, t' σ H Q → t σ H Q) : PE X e t' := ⟨fun pins s σ H Q I q => h.run pins s σ H Q I (i σ H Q q)⟩
theorem PT.imp {X : Cx} {e : Expr} {t t' : TT} (h : PT X e t) (i : ∀ σ H Q, t' σ H Q → t σ H Q) : PT X e t' := ⟨fun pins s σ H Q I q => h.run pins s σ H Q I (i σ H Q q)⟩
theorem PW.imp {X : Cx} {e : Expr} {t t' : TT} (h : PW X e t) (i : ∀ σ H Q, t' σ H Q → t σ H Q) : PW X e t' := ⟨fun w pins s σ H Q I q => h.run w pins s σ H Q I (i σ H Q q)⟩
theorem PA.imp {X : Cx} {e : List Expr} {t t' : TA} (h : PA X e t) (i : ∀ σ H Q, t' σ H Q → t σ H Q) : PA X e t' := ⟨fun p pins s σ H Q I q => h.run p pins s σ H Q I (i σ H Q q)⟩
theorem PS.imp {X : Cx} {e : Stmt} {t t' : TS} (h : PS X e t) (i : ∀ D σ H, t' D σ H → t D σ H) : PS X e t' := ⟨fun pins s σ H Q I q => h.run pins s σ H Q I (i Q σ H q)⟩
theorem PSs.imp {X : Cx} {e : List Stmt} {t t' : TS} (h : PSs X e t) (i : ∀ D σ H, t' D σ H → t D σ H) : PSs X e t' := ⟨fun pins s σ H Q I q => h.run pins s σ H Q I (i Q σ H q)⟩
def mVar (i : Nat) : AE := fun ls hp => match ls[i]? with
  | some (some d) => some (d, hp)
  | _ => none
def mC (d : D) : AE := fun _ hp => some (d, hp)
def m2 (fa fb : AE) (g : D → D → Hd → Option (D × Hd)) : AE := fun ls hp => match fa ls hp with
  | some (a, hp1) => match fb ls hp1 with
    | some (b, hp2) => g a b hp2
    | none => none
  | none => none
def m1 (fa : AE) (g : D → Hd → Option (D × Hd)) : AE := fun ls hp => match fa ls hp with
  | some (a, hp1) => g a hp1
  | none => none
def mT (fa : AE) : AT := fun ls hp => match fa ls hp with
  | some (.bl b, hp1) => some (b, hp1)
  | _ => none
def mNil : AA := fun _ hp => some ([], hp)
def mCons (fa : AE) (fr : AA) : AA := fun ls hp => match fa ls hp with
  | some (a, hp1) => match fr ls hp1 with
    | some (r, hp2) => some (a :: r, hp2)
    | none => none
  | none => none
def mAs (fa : AA) (g : List D → Hd → Option (D × Hd)) : AE := fun ls hp => match fa ls hp with
  | some (a, hp1) => g a hp1
  | none => none
def mNew (f : AA) : AE := fun ls hp => match f ls hp with
  | some (ds, hp1) => some (.ref hp1.length, hp1 ++ [.lst ds])
  | none => none
section
variable {X : Cx} {e a b : Expr} {es : List Expr} {fa fb : AE} {ft : AT} {fr : AA} {pos : Pos}
theorem de_var (i : Nat) {x : Str} (hN : X.N[i]? = some x := by rfl) (hv : Vis X.env.scope x := by first | exact Or.inl rfl | exact Or.inr (Or.inl rfl) | exact Or.inr (Or.inr rfl))
    (hd : (x == ("__debug__" : Str)) = false := by decide) (hcd : (x == ("__classdict__" : Str)) = false := by decide) : DE X (.Name x pos) (mVar i) :=
  PE.imp (pe_var hN hv hd hcd) fun σ H Q ⟨ls, hp, μ, d, hp', rl, rh, e, q⟩ => by
    unfold mVar at e
    split at e
    · rename_i d' e1
      cases e
      obtain ⟨v, e2, r⟩ := rl.2 i _ e1
      exact ⟨v, e2, q v H μ Ext.refl rh r⟩
    · cases e
theorem de_c {v : V} {d : D} {e : Expr} (h : PE X e (tC v)) (hd : ∀ H μ, Rp X.K H μ d v) : DE X e (mC d) :=
  PE.imp h fun σ H Q ⟨ls, hp, μ, d', hp', rl, rh, e, q⟩ => by
    cases e
    exact q v H μ Ext.refl rh (hd H μ)
theorem de_int {i j} : DE X (.Constant (.int i) j pos) (mC (.int i)) := de_c pe_int fun _ _ => by rw [Rp]
theorem de_bl {c j} : DE X (.Constant (.bool c) j pos) (mC (.bl c)) := de_c pe_bl fun _ _ => by rw [Rp]
theorem de_non {j} : DE X (.Constant .none j pos) (mC .non) := de_c pe_non fun _ _ => by rw [Rp]
def RD (K : PySem.W.Frag) (g : D → D → Hd → Option (D × Hd)) : R2 := fun x y H Q => ∃ hp μ d1 d2 d hp', RelH K H μ hp ∧ Rp K H μ d1 x ∧ Rp K H μ d2 y ∧ g d1 d2 hp = some (d, hp') ∧
  ∀ v H' μ', Ext μ H μ' H' → RelH K H' μ' hp' → Rp K H' μ' d v → Q v H'
def RD1 (K : PySem.W.Frag) (g : D → Hd → Option (D × Hd)) : V → Hp → VK → Prop := fun x H Q => ∃ hp μ d1 d hp', RelH K H μ hp ∧ Rp K H μ d1 x ∧ g d1 hp = some (d, hp') ∧
  ∀ v H' μ', Ext μ H μ' H' → RelH K H' μ' hp' → Rp K H' μ' d v → Q v H'
def RDs (K : PySem.W.Frag) (g : List D → Hd → Option (D × Hd)) : List V → Hp → VK → Prop := fun xs H Q => ∃ hp μ ds d hp', RelH K H μ hp ∧ Rps K H μ ds xs ∧ g ds hp = some (d, hp') ∧
  ∀ v H' μ', Ext μ H μ' H' → RelH K H' μ' hp' → Rp K H' μ' d v → Q v H'
theorem tOp_of {K : PySem.W.Frag} {g : D → D → Hd → Option (D × Hd)} {σ : St} {H : Hp} {Q : VK} (h : tD K (m2 fa fb g) σ H Q) : tOp (RD K g) (tD K fa) (tD K fb) σ H Q := by
  obtain ⟨ls, hp, μ, d, hp', rl, rh, e, q⟩ := h
  unfold m2 at e
  cases e1 : fa ls hp with
  | none => rw [e1] at e; cases e
  | some p1 =>
    obtain ⟨d1, hp1⟩ := p1
    rw [e1] at e
    dsimp only at e
    cases e2 : fb ls hp1 with
    | none => rw [e2] at e; cases e
    | some p2 =>
      obtain ⟨d2, hp2⟩ := p2
      rw [e2] at e
      dsimp only at e
      exact ⟨ls, hp, μ, d1, hp1, rl, rh, e1, fun v1 H1 μ1 x1 rh1 r1 => ⟨ls, hp1, μ1, d2, hp2, rl.ext x1, rh1, e2, fun v2 H2 μ2 x2 rh2 r2 =>
        ⟨hp2, μ2, d1, d2, d, hp', rh2, r1.ext x2, r2, e, fun v H' μ' x3 rh3 r3 => q v H' μ' ((x1.trans x2).trans x3) rh3 r3⟩⟩⟩
theorem tUn_of {K : PySem.W.Frag} {g : D → Hd → Option (D × Hd)} {σ : St} {H : Hp} {Q : VK} (h : tD K (m1 fa g) σ H Q) : tUn (RD1 K g) (tD K fa) σ H Q := by
  obtain ⟨ls, hp, μ, d, hp', rl, rh, e, q⟩ := h
  unfold m1 at e
  cases e1 : fa ls hp with
  | none => rw [e1] at e; cases e
  | some p1 =>
    obtain ⟨d1, hp1⟩ := p1
    rw [e1] at e
    dsimp only at e
    exact ⟨ls, hp, μ, d1, hp1, rl, rh, e1, fun v1 H1 μ1 x1 rh1 r1 => ⟨hp1, μ1, d1, d, hp', rh1, r1, e, fun v H' μ' x3 rh3 r3 => q v H' μ' (x1.trans x3) rh3 r3⟩⟩
theorem tCB_of {K : PySem.W.Frag} {g : List D → Hd → Option (D × Hd)} {σ : St} {H : Hp} {Q : VK} (h : tD K (mAs fr g) σ H Q) : tCB (RDs K g) (tAs K fr) σ H Q := by
  obtain ⟨ls, hp, μ, d, hp', rl, rh, e, q⟩ := h
  unfold mAs at e
  cases e1 : fr ls hp with
  | none => rw [e1] at e; cases e
  | some p1 =>
    obtain ⟨d1, hp1⟩ := p1
    rw [e1] at e
    dsimp only at e
    exact ⟨ls, hp, μ, d1, hp1, rl, rh, e1, fun v1 H1 μ1 x1 rh1 r1 => ⟨hp1, μ1, d1, d, hp', rh1, r1, e, fun v H' μ' x3 rh3 r3 => q v H' μ' (x1.trans x3) rh3 r3⟩⟩
theorem de_op {op : Operator} {g : D → D → Hd → Option (D × Hd)} (ho : OpR X (binaryOp op) (RD X.K g)) (ha : DE X a fa) (hb : DE X b fb) : DE X (.BinOp a op b pos) (m2 fa fb g) :=
  PE.imp (pe_op ho ha hb) fun _ _ _ h => tOp_of h
theorem de_un {op : UnaryOp} {g : D → Hd → Option (D × Hd)} (ho : UnR X (unaryOp op) (RD1 X.K g)) (ha : DE X a fa) : DE X (.UnaryOp op a pos) (m1 fa g) :=
  PE.imp (pe_un ho ha) fun _ _ _ h => tUn_of h
theorem de_cmp {op : CmpOp} {g : D → D → Hd → Option (D × Hd)} (ho : OpR X (compareOp op) (RD X.K g)) (ha : DE X a fa) (hb : DE X b fb) (hm : behindInMarks op b = false) : DE X (.Compare a [op] [b] pos) (m2 fa fb g) :=
  PE.imp (pe_cmpR ho ha hb hm) fun _ _ _ h => tOp_of h
theorem tTest_of {K : PySem.W.Frag} {t : TE} {f : AE} {σ : St} {H : Hp} {Q : Bool → Hp → Prop} (i : ∀ σ H Q, tD K f σ H Q → t σ H Q) (h : tT K (mT f) σ H Q) : tTest t σ H Q := by
  obtain ⟨ls, hp, μ, c, hp', rl, rh, e, q⟩ := h
  unfold mT at e
  split at e
  · rename_i c' hp1 e1
    cases e
    refine i _ _ _ ⟨ls, hp, μ, .bl c, hp', rl, rh, e1, fun v H' μ' x1 rh1 r1 => ?_⟩
    rw [Rp] at r1
    exact ⟨c, r1, q H' μ' x1 rh1⟩
  · cases e
theorem dt_cmp {op : CmpOp} {g : D → D → Hd → Option (D × Hd)} (ho : OpR X (compareOp op) (RD X.K g)) (ha : DE X a fa) (hb : DE X b fb) (hm : behindInMarks op b = false) : DT X (.Compare a [op] [b] pos) (mT (m2 fa fb g)) :=
  PT.imp (pt_cmpR ho ha hb hm) fun _ _ _ h => tTest_of (fun _ _ _ h => tOp_of h) h
theorem da_nil : DA X [] mNil := PA.imp pa_nil fun σ H Q ⟨ls, hp, μ, ds, hp', rl, rh, e, q⟩ => by
  cases e
  exact q [] H μ Ext.refl rh (by rw [Rps])
theorem da_cons (ha : DE X e fa) (hr : DA X es fr) (hs : starEach (e :: es) X.env = (false, eval e X.env) :: starEach es X.env := by rfl) : DA X (e :: es) (mCons fa fr) :=
  PA.imp (pa_cons ha hr hs) fun σ H Q ⟨ls, hp, μ, ds, hp', rl, rh, e, q⟩ => by
    unfold mCons at e
    cases e1 : fa ls hp with
    | none => rw [e1] at e; cases e
    | some p1 =>
      obtain ⟨d1, hp1⟩ := p1
      rw [e1] at e
      dsimp only at e
      cases e2 : fr ls hp1 with
      | none => rw [e2] at e; cases e
      | some p2 =>
        obtain ⟨d2, hp2⟩ := p2
        rw [e2] at e
        cases e
        exact ⟨ls, hp, μ, d1, hp1, rl, rh, e1, fun v1 H1 μ1 x1 rh1 r1 => ⟨ls, hp1, μ1, d2, hp', rl.ext x1, rh1, e2, fun v2 H2 μ2 x2 rh2 r2 =>
          q _ H2 μ2 (x1.trans x2) rh2 (by rw [Rps]; exact ⟨v1, v2, rfl, r1.ext x2, r2⟩)⟩⟩
theorem Rps.len {K : PySem.W.Frag} {H : Hp} {μ : List Addr} : ∀ {ds : List D} {vs : List V}, Rps K H μ ds vs → vs.length = ds.length
  | [], vs, h => by rw [Rps] at h; rw [h]; rfl
  | d :: ds, vs, h => by
    rw [Rps] at h
    obtain ⟨v, r, e, _, h2⟩ := h
    rw [e, List.length_cons, List.length_cons, Rps.len h2]
def mTup (fr : AA) : AE := fun ls hp => match fr ls hp with
  | some (ds, hp1) => if ds.length ≤ sizeLine then some (.tup ds, hp1) else none
  | none => none
def mLst (fr : AA) : AA := fun ls hp => match fr ls hp with
  | some (ds, hp1) => if ds.length ≤ sizeLine then some (ds, hp1) else none
  | none => none
theorem de_tup {x1} (h : DA X es fr) : DE X (.Tuple es x1 pos) (mTup fr) :=
  PE.imp (pe_tup h) fun σ H Q ⟨ls, hp, μ, d, hp', rl, rh, e, q⟩ => by
    unfold mTup at e
    cases e1 : fr ls hp with
    | none => rw [e1] at e; cases e
    | some p1 =>
      obtain ⟨ds, hp1⟩ := p1
      rw [e1] at e
      dsimp only at e
      split at e
      · rename_i hl
        cases e
        refine ⟨ls, hp, μ, ds, hp', rl, rh, e1, fun vs H1 μ1 x1 rh1 r1 => ⟨by rw [r1.len]; exact hl, fun p hp0 => ?_⟩⟩
        have x2 := Ext.laid rh1 (o := .tup vs) hp0
        exact q _ _ μ1 (x1.trans x2) (rh1.laid hp0) (by rw [Rp]; exact ⟨p, vs, rfl, upd_same, r1.ext x2⟩)
      · cases e
theorem le_lst (h : DA X es fr) : LE X (.List es pos) (mLst fr) :=
  PE.imp (pe_lst h) fun σ H Q ⟨ls, hp, μ, d, hp', rl, rh, e, q⟩ => by
    unfold mLst at e
    cases e1 : fr ls hp with
    | none => rw [e1] at e; cases e
    | some p1 =>
      obtain ⟨ds, hp1⟩ := p1
      rw [e1] at e
      dsimp only at e
      split at e
      · rename_i hl
        cases e
        refine ⟨ls, hp, μ, d, hp', rl, rh, e1, fun vs H1 μ1 x1 rh1 r1 => ⟨by rw [r1.len]; exact hl, fun p hp0 => ?_⟩⟩
        have x2 := Ext.laid rh1 (o := .lst vs) hp0
        have h0 : H p = none := by
          cases hh : H p with
          | none => rfl
          | some o =>
            exfalso
            by_cases hm : p ∈ μ
            · exact rh1.notIn hp0 (by
                obtain ⟨ν, e⟩ := x1.pre
                rw [e]
                exact List.mem_append_left _ hm)
            · have := x1.keep p o hm hh
              rw [hp0] at this
              cases this
        exact q p vs _ μ1 (x1.trans x2) (rh1.laid hp0) h0 (rh1.notIn hp0) upd_same (r1.ext x2)
      · cases e
theorem de_new {f : AA} (h : LE X e f) : DE X e (mNew f) :=
  PE.imp h fun σ H Q ⟨ls, hp, μ, d, hp', rl, rh, e, q⟩ => by
    unfold mNew at e
    cases e1 : f ls hp with
    | none => rw [e1] at e; cases e
    | some p1 =>
      obtain ⟨ds, hp1⟩ := p1
      rw [e1] at e
      cases e
      refine ⟨ls, hp, μ, ds, hp1, rl, rh, e1, fun a vs H1 μ1 x1 rh1 h0 hn hl r1 => ?_⟩
      refine q (.ref a) H1 (μ1 ++ [a]) (x1.place h0) (rh1.place hn ⟨vs, hl, r1.mon Mon.grow⟩) ?_
      rw [Rp]
      refine ⟨a, ?_, rfl⟩
      rw [List.getElem?_append_right (by rw [rh1.len]; exact Nat.le_refl _), rh1.len]
      simp
end
end Ve
namespace Ve
open PySem PySem.Spec L2
def gI (c : Int → Int → Bool) (g : Int → Int → D) : D → D → Hd → Option (D × Hd)
  | .int i, .int j, hp => if c i j then some (g i j, hp) else none
  | _, _, _ => none
theorem gI_some {c : Int → Int → Bool} {g : Int → Int → D} {a b d : D} {hp hp' : Hd} (h : gI c g a b hp = some (d, hp')) : ∃ i j, a = .int i ∧ b = .int j ∧ c i j = true ∧ d = g i j ∧ hp' = hp := by
  unfold gI at h
  split at h
  · rename_i i j
    split at h
    · rename_i hc
      cases h
      exact ⟨i, j, rfl, rfl, hc, rfl, rfl⟩
    · cases h
  · cases h
theorem Rp.intE {K : PySem.W.Frag} {H : Hp} {μ : List Addr} {i : Int} {v : V} (h : Rp K H μ (.int i) v) : v = .int i := by rw [Rp] at h; exact h
theorem Rp.blE {K : PySem.W.Frag} {H : Hp} {μ : List Addr} {i : Bool} {v : V} (h : Rp K H μ (.bl i) v) : v = .bl i := by rw [Rp] at h; exact h
theorem Rp.nonE {K : PySem.W.Frag} {H : Hp} {μ : List Addr} {v : V} (h : Rp K H μ .non v) : v = .non := by rw [Rp] at h; exact h
theorem Rp.strE {K : PySem.W.Frag} {H : Hp} {μ : List Addr} {i : Str} {v : V} (h : Rp K H μ (.str i) v) : v = .str i := by rw [Rp] at h; exact h
theorem Rp.refE {K : PySem.W.Frag} {H : Hp} {μ : List Addr} {n : Nat} {v : V} (h : Rp K H μ (.ref n) v) : ∃ a, μ[n]? = some a ∧ v = .ref a := by rw [Rp] at h; exact h
theorem Rp.scrE {K : PySem.W.Frag} {H : Hp} {μ : List Addr} {ns : List Int} {v : V} (h : Rp K H μ (.scr ns) v) : ∃ a, v = .ref a ∧ ScAt K H a (ns.map V.int) := by rw [Rp] at h; exact h
theorem Rp.tupE {K : PySem.W.Frag} {H : Hp} {μ : List Addr} {ds : List D} {v : V} (h : Rp K H μ (.tup ds) v) : ∃ a vs, v = .ref a ∧ TpAt H a vs ∧ Rps K H μ ds vs := by rw [Rp] at h; exact h
theorem Rp.wtE {K : PySem.W.Frag} {H : Hp} {μ : List Addr} {ds : List D} {v : V} (h : Rp K H μ (.wt ds) v) : ∃ a vs, v = .ref a ∧ WtAt K H a vs ∧ Rps K H μ ds vs := by rw [Rp] at h; exact h
theorem Rp.int {K : PySem.W.Frag} {H : Hp} {μ : List Addr} {i : Int} : Rp K H μ (.int i) (.int i) := by rw [Rp]
theorem Rp.bl {K : PySem.W.Frag} {H : Hp} {μ : List Addr} {i : Bool} : Rp K H μ (.bl i) (.bl i) := by rw [Rp]
theorem Rp.non {K : PySem.W.Frag} {H : Hp} {μ : List Addr} : Rp K H μ .non .non := by rw [Rp]
theorem Rp.str {K : PySem.W.Frag} {H : Hp} {μ : List Addr} {i : Str} : Rp K H μ (.str i) (.str i) := by rw [Rp]
section
variable {X : Cx}
theorem op_gI {f : Value → Value → Sem Value} {C : Int → Int → Prop} {c : Int → Int → Bool} {g : Int → Int → Int} (h : OpR X f (rI C fun i j => .int (g i j))) (hc : ∀ i j, c i j = true → C i j) :
    OpR X f (RD X.K (gI c fun i j => .int (g i j))) := fun pins s σ H x y v u Q I rx ry ⟨hp, μ, d1, d2, d, hp', rh, r1, r2, e, q⟩ => by
  obtain ⟨i, j, rfl, rfl, c1, rfl, rfl⟩ := gI_some e
  exact h pins s σ H x y v u Q I rx ry ⟨i, j, r1.intE, r2.intE, hc i j c1, q _ H μ Ext.refl rh Rp.int⟩
theorem op_gI0 {f : Value → Value → Sem Value} {c : Int → Int → Bool} {g : Int → Int → Int} (h : OpR X f (rI0 fun i j => .int (g i j))) :
    OpR X f (RD X.K (gI c fun i j => .int (g i j))) := fun pins s σ H x y v u Q I rx ry ⟨hp, μ, d1, d2, d, hp', rh, r1, r2, e, q⟩ => by
  obtain ⟨i, j, rfl, rfl, c1, rfl, rfl⟩ := gI_some e
  exact h pins s σ H x y v u Q I rx ry ⟨i, j, r1.intE, r2.intE, q _ H μ Ext.refl rh Rp.int⟩
theorem op_gB0 {f : Value → Value → Sem Value} {c : Int → Int → Bool} {g : Int → Int → Bool} (h : OpR X f (rI0 fun i j => .bl (g i j))) :
    OpR X f (RD X.K (gI c fun i j => .bl (g i j))) := fun pins s σ H x y v u Q I rx ry ⟨hp, μ, d1, d2, d, hp', rh, r1, r2, e, q⟩ => by
  obtain ⟨i, j, rfl, rfl, c1, rfl, rfl⟩ := gI_some e
  exact h pins s σ H x y v u Q I rx ry ⟨i, j, r1.intE, r2.intE, q _ H μ Ext.refl rh Rp.bl⟩
def gSub : D → D → Hd → Option (D × Hd) := gI (fun _ _ => true) fun i j => .int (i - j)
def cMul (i j : Int) : Bool := decide (((-(2 ^ 64) < i ∧ i < 2 ^ 64) ∨ (-(2 ^ 64) < j ∧ j < 2 ^ 64)) ∨ i.natAbs.log2 + j.natAbs.log2 < 1000000)
def gMul : D → D → Hd → Option (D × Hd) := gI cMul fun i j => .int (i * j)
def cDiv (_ j : Int) : Bool := decide (0 < j ∧ (j < 1073741824 ∨ j.natAbs.log2 < 9000))
def gDiv : D → D → Hd → Option (D × Hd) := gI cDiv fun i j => .int (i / j)
def gMod : D → D → Hd → Option (D × Hd) := gI (fun _ j => decide (0 < j)) fun i j => .int (i % j)
def cPow (i j : Int) : Bool := decide (0 ≤ j ∧ j ≤ 1000000 ∧ i.natAbs < 2 ^ 64)
def gPow : D → D → Hd → Option (D × Hd) := gI cPow fun i j => .int (i ^ j.toNat)
theorem o_sub : OpR X (binaryOp .Sub) (RD X.K gSub) := op_gI0 op_sub
theorem o_mul : OpR X (binaryOp .Mult) (RD X.K gMul) := fun pins s σ H x y v u Q I rx ry ⟨hp, μ, d1, d2, d, hp', rh, r1, r2, e, q⟩ => by
  obtain ⟨i, j, rfl, rfl, c1, rfl, rfl⟩ := gI_some e
  have q' := q _ H μ Ext.refl rh Rp.int
  rcases of_decide_eq_true c1 with c2 | c2
  · exact op_mul pins s σ H x y v u Q I rx ry ⟨i, j, r1.intE, r2.intE, c2, q'⟩
  · exact op_mulW pins s σ H x y v u Q I rx ry ⟨i, j, r1.intE, r2.intE, c2, q'⟩
theorem o_div : OpR X (binaryOp .FloorDiv) (RD X.K gDiv) := fun pins s σ H x y v u Q I rx ry ⟨hp, μ, d1, d2, d, hp', rh, r1, r2, e, q⟩ => by
  obtain ⟨i, j, rfl, rfl, c1, rfl, rfl⟩ := gI_some e
  have q' := q _ H μ Ext.refl rh Rp.int
  obtain ⟨c0, c2⟩ := of_decide_eq_true c1
  rcases c2 with c2 | c2
  · exact op_fdiv pins s σ H x y v u Q I rx ry ⟨i, j, r1.intE, r2.intE, ⟨c0, c2⟩, q'⟩
  · exact op_fdivW pins s σ H x y v u Q I rx ry ⟨i, j, r1.intE, r2.intE, ⟨c0, c2⟩, q'⟩
theorem o_mod : OpR X (binaryOp .Mod) (RD X.K gMod) := op_gI op_mod fun _ _ h => of_decide_eq_true h
theorem o_pow : OpR X (binaryOp .Pow) (RD X.K gPow) := op_gI op_pow fun i j h => (show 0 ≤ j ∧ j ≤ 1000000 ∧ i.natAbs < 2 ^ 64 from of_decide_eq_true h)
def gNeg : D → Hd → Option (D × Hd)
  | .int i, hp => some (.int (-i), hp)
  | _, _ => none
theorem u_neg : UnR X (unaryOp .USub) (RD1 X.K gNeg) := fun pins s σ H x v Q I rx ⟨hp, μ, d1, d, hp', rh, r1, e, q⟩ => by
  unfold gNeg at e
  split at e
  · rename_i i
    cases e
    exact un_neg pins s σ H x v Q I rx ⟨i, r1.intE, q _ H μ Ext.refl rh Rp.int⟩
  · cases e
def gAdd : D → D → Hd → Option (D × Hd)
  | .int i, .int j, hp => some (.int (i + j), hp)
  | .tup a, .tup b, hp => if a.length + b.length ≤ sizeLine then some (.tup (a ++ b), hp) else none
  | .str a, .str b, hp => if a.length + b.length ≤ sizeLine then some (.str (a ++ b), hp) else none
  | .int i, .bl b, hp => some (.int (i + (if b then 1 else 0)), hp)
  | .wt a, .tup b, hp => if (a.length + b.length ≤ sizeLine ∧ 0 < a.length) ∧ 0 < b.length then some (.tup (a ++ b), hp) else none
  | .tup a, .wt b, hp => if (a.length + b.length ≤ sizeLine ∧ 0 < a.length) ∧ 0 < b.length then some (.tup (a ++ b), hp) else none
  | .wt a, .wt b, hp => if (a.length + b.length ≤ sizeLine ∧ 0 < a.length) ∧ 0 < b.length then some (.tup (a ++ b), hp) else none
  | _, _, _ => none
theorem Rps.append {K : PySem.W.Frag} {H : Hp} {μ : List Addr} : ∀ {a b : List D} {vs ws : List V}, Rps K H μ a vs → Rps K H μ b ws → Rps K H μ (a ++ b) (vs ++ ws)
  | [], b, vs, ws, h, h2 => by rw [Rps] at h; rw [h]; exact h2
  | d :: ds, b, vs, ws, h, h2 => by
    rw [Rps] at h
    obtain ⟨v, r, e, h3, h4⟩ := h
    rw [e, List.cons_append, List.cons_append, Rps]
    exact ⟨v, _, rfl, h3, Rps.append h4 h2⟩
theorem Rps.nil {K : PySem.W.Frag} {H : Hp} {μ : List Addr} : Rps K H μ [] [] := by rw [Rps]
theorem Rps.nil_iff {K : PySem.W.Frag} {H : Hp} {μ : List Addr} {a : List D} {vs : List V} (h : Rps K H μ a vs) : vs = [] ↔ a = [] := by
  have := h.len
  constructor
  · intro e
    rw [e] at this
    exact List.eq_nil_of_length_eq_zero this.symm
  · intro e
    rw [e] at this
    exact List.eq_nil_of_length_eq_zero this
theorem Rp.tup {K : PySem.W.Frag} {H : Hp} {μ : List Addr} {ds : List D} {a : Addr} {vs : List V} (h : H a = some (.tup vs)) (r : Rps K H μ ds vs) : Rp K H μ (.tup ds) (.ref a) := by rw [Rp]; exact ⟨a, vs, rfl, h, r⟩
theorem Rp.tup' {K : PySem.W.Frag} {H : Hp} {μ : List Addr} {ds : List D} {a : Addr} {vs : List V} (h : TpAt H a vs) (r : Rps K H μ ds vs) : Rp K H μ (.tup ds) (.ref a) := by rw [Rp]; exact ⟨a, vs, rfl, h, r⟩
theorem o_add : OpR X (binaryOp .Add) (RD X.K gAdd) := fun pins s σ H x y v u Q I rx ry ⟨hp, μ, d1, d2, d, hp', rh, r1, r2, e, q⟩ => by
  unfold gAdd at e
  split at e
  · rename_i i j
    cases e
    exact op_add pins s σ H x y v u Q I rx ry ⟨i, j, r1.intE, r2.intE, q _ H μ Ext.refl rh Rp.int⟩
  · rename_i a b
    split at e
    · rename_i hl
      cases e
      obtain ⟨p1, vs, e1, t1, q1⟩ := r1.tupE
      obtain ⟨p2, ws, e2, t2, q2⟩ := r2.tupE
      refine op_catA pins s σ H x y v u Q I rx ry ⟨p1, p2, vs, ws, e1, e2, t1.sq, t2.sq, by rw [q1.len, q2.len]; exact hl, fun z => ?_, fun _ z => ?_, fun _ _ p h0 => ?_⟩
      · have := q1.nil_iff.mp z
        subst this
        exact q _ H μ Ext.refl rh (Rp.tup' t2 q2)
      · have := q2.nil_iff.mp z
        subst this
        rw [List.append_nil] at q
        exact q _ H μ Ext.refl rh (Rp.tup' t1 q1)
      · have x2 := Ext.laid rh (o := .tup (vs ++ ws)) h0
        exact q _ _ μ x2 (rh.laid h0) (Rp.tup upd_same ((q1.append q2).ext x2))
    · cases e
  · rename_i a b
    split at e
    · rename_i hl
      cases e
      exact op_add_str pins s σ H x y v u Q I rx ry ⟨a, b, r1.strE, r2.strE, hl, q _ H μ Ext.refl rh Rp.str⟩
    · cases e
  · rename_i i b
    cases e
    exact op_add_ib pins s σ H x y v u Q I rx ry ⟨i, b, r1.intE, r2.blE, q _ H μ Ext.refl rh Rp.int⟩
  · split at e
    · rename_i hl
      cases e
      obtain ⟨p1, vs, e1, t1, q1⟩ := r1.wtE
      obtain ⟨p2, ws, e2, t2, q2⟩ := r2.tupE
      refine op_catA pins s σ H x y v u Q I rx ry ⟨p1, p2, vs, ws, e1, e2, t1.sq, t2.sq, by rw [q1.len, q2.len]; exact hl.1.1, fun z => ?_, fun _ z => ?_, fun _ _ p h0 => ?_⟩
      · have := q1.len; rw [z] at this; simp at this; omega
      · have := q2.len; rw [z] at this; simp at this; omega
      · have x2 := Ext.laid rh (o := .tup (vs ++ ws)) h0
        exact q _ _ μ x2 (rh.laid h0) (Rp.tup upd_same ((q1.append q2).ext x2))
    · cases e
  · split at e
    · rename_i hl
      cases e
      obtain ⟨p1, vs, e1, t1, q1⟩ := r1.tupE
      obtain ⟨p2, ws, e2, t2, q2⟩ := r2.wtE
      refine op_catA pins s σ H x y v u Q I rx ry ⟨p1, p2, vs, ws, e1, e2, t1.sq, t2.sq, by rw [q1.len, q2.len]; exact hl.1.1, fun z => ?_, fun _ z => ?_, fun _ _ p h0 => ?_⟩
      · have := q1.len; rw [z] at this; simp at this; omega
      · have := q2.len; rw [z] at this; simp at this; omega
      · have x2 := Ext.laid rh (o := .tup (vs ++ ws)) h0
        exact q _ _ μ x2 (rh.laid h0) (Rp.tup upd_same ((q1.append q2).ext x2))
    · cases e
  · split at e
    · rename_i hl
      cases e
      obtain ⟨p1, vs, e1, t1, q1⟩ := r1.wtE
      obtain ⟨p2, ws, e2, t2, q2⟩ := r2.wtE
      refine op_catA pins s σ H x y v u Q I rx ry ⟨p1, p2, vs, ws, e1, e2, t1.sq, t2.sq, by rw [q1.len, q2.len]; exact hl.1.1, fun z => ?_, fun _ z => ?_, fun _ _ p h0 => ?_⟩
      · have := q1.len; rw [z] at this; simp at this; omega
      · have := q2.len; rw [z] at this; simp at this; omega
      · have x2 := Ext.laid rh (o := .tup (vs ++ ws)) h0
        exact q _ _ μ x2 (rh.laid h0) (Rp.tup upd_same ((q1.append q2).ext x2))
    · cases e
  · cases e
def gLe : D → D → Hd → Option (D × Hd) := gI (fun _ _ => true) fun i j => .bl (decide (i ≤ j))
def gGt : D → D → Hd → Option (D × Hd) := gI (fun _ _ => true) fun i j => .bl (decide (j < i))
def gGe : D → D → Hd → Option (D × Hd) := gI (fun _ _ => true) fun i j => .bl (decide (j ≤ i))
theorem o_gt : OpR X (compareOp .Gt) (RD X.K gGt) := op_gB0 op_gt
theorem o_ge : OpR X (compareOp .GtE) (RD X.K gGe) := op_gB0 op_ge
def ints? : List D → Option (List Int)
  | [] => some []
  | .int i :: r => (ints? r).map (i :: ·)
  | _ :: _ => none
theorem ints?_eq : ∀ {ds : List D} {ns : List Int}, ints? ds = some ns → ds = ns.map D.int
  | [], ns, h => by cases h; rfl
  | d :: r, ns, h => by
    cases d <;> simp only [ints?] at h <;> try (cases h)
    rename_i i
    cases e : ints? r with
    | none => rw [e] at h; cases h
    | some m =>
      rw [e] at h
      cases h
      rw [ints?_eq e]
      rfl
theorem Rps.ints {K : PySem.W.Frag} {H : Hp} {μ : List Addr} : ∀ {ns : List Int} {vs : List V}, Rps K H μ (ns.map D.int) vs → vs = ns.map V.int
  | [], vs, h => by rw [List.map_nil, Rps] at h; rw [h]; rfl
  | n :: ns, vs, h => by
    rw [List.map_cons, Rps] at h
    obtain ⟨v, r, e, h1, h2⟩ := h
    rw [e, h1.intE, Rps.ints h2]
    rfl
def gLt : D → D → Hd → Option (D × Hd)
  | .int i, .int j, hp => some (.bl (decide (i < j)), hp)
  | .tup a, .tup b, hp => match ints? a, ints? b with
    | some ns, some ms => some (.bl (HT.lexLt ns ms), hp)
    | _, _ => none
  | _, _, _ => none
theorem o_lt (hu : X.A.units < cLine) : OpR X (compareOp .Lt) (RD X.K gLt) := fun pins s σ H x y v u Q I rx ry ⟨hp, μ, d1, d2, d, hp', rh, r1, r2, e, q⟩ => by
  unfold gLt at e
  split at e
  · rename_i i j
    cases e
    exact op_lt pins s σ H x y v u Q I rx ry ⟨i, j, r1.intE, r2.intE, q _ H μ Ext.refl rh Rp.bl⟩
  · rename_i a b
    split at e
    · rename_i ns ms e1 e2
      cases e
      have z1 := ints?_eq e1
      have z2 := ints?_eq e2
      subst z1 z2
      obtain ⟨p1, vs, f1, t1, q1⟩ := r1.tupE
      obtain ⟨p2, ws, f2, t2, q2⟩ := r2.tupE
      have z1 := q1.ints
      have z2 := q2.ints
      subst z1 z2
      exact op_ltT hu pins s σ H x y v u Q I rx ry ⟨p1, p2, ns, ms, f1, f2, t1.sq, t2.sq, q _ H μ Ext.refl rh Rp.bl⟩
    · cases e
  · cases e
def mapO {α β : Type} (f : α → Option β) : List α → Option (List β)
  | [] => some []
  | x :: r => match f x, mapO f r with
    | some y, some ys => some (y :: ys)
    | _, _ => none
def pyF (hp : Hd) : Nat → D → Option PyData
  | 0, _ => none
  | n + 1, d => match d with
    | .non => some .none
    | .bl b => some (.bool b)
    | .int i => some (.int i)
    | .str x => some (.str x)
    | .tup ds => (mapO (pyF hp n) ds).map .tuple
    | .wt ds => (mapO (pyF hp n) ds).map .tuple
    | .scr ns => some (.list (ns.map .int))
    | .ref k => match hp[k]? with
      | some (.lst xs) => (mapO (pyF hp n) xs).map .list
      | _ => none
theorem DpAll.ints {K : PySem.W.Frag} {H : Hp} : ∀ ns : List Int, DpAll K H (ns.map V.int) (ns.map PyData.int)
  | [] => .nil
  | n :: ns => .cons (.int n) (DpAll.ints ns)
theorem pyF_dp {K : PySem.W.Frag} {H : Hp} {μ : List Addr} {hp : Hd} (rh : RelH K H μ hp) : ∀ (n : Nat) (d : D) (p : PyData) (v : V), pyF hp n d = some p → Rp K H μ d v → Dp K H v p
  | 0, d, p, v, h, _ => by simp [pyF] at h
  | n + 1, d, p, v, h, r => by
    have all : ∀ (ds : List D) (ps : List PyData) (vs : List V), mapO (pyF hp n) ds = some ps → Rps K H μ ds vs → DpAll K H vs ps := by
      intro ds
      induction ds with
      | nil =>
        intro ps vs h r
        rw [Rps] at r
        simp only [mapO] at h
        cases h
        subst r
        exact .nil
      | cons d ds ih =>
        intro ps vs h r
        rw [Rps] at r
        obtain ⟨v, w, e, r1, r2⟩ := r
        subst e
        simp only [mapO] at h
        split at h
        · rename_i y ys e1 e2
          cases h
          exact .cons (pyF_dp rh n d y v e1 r1) (ih _ _ e2 r2)
        · cases h
    cases d with
    | non => simp only [pyF] at h; cases h; cases r.nonE; exact .non
    | bl b => simp only [pyF] at h; cases h; cases r.blE; exact .bl b
    | int i => simp only [pyF] at h; cases h; cases r.intE; exact .int i
    | str x => simp only [pyF] at h; cases h; cases r.strE; exact .str x
    | scr ns =>
      simp only [pyF] at h
      cases h
      obtain ⟨a, rfl, s⟩ := r.scrE
      exact .lst s.sq (DpAll.ints ns)
    | tup ds =>
      simp only [pyF] at h
      obtain ⟨a, vs, rfl, t, q⟩ := r.tupE
      cases e : mapO (pyF hp n) ds with
      | none => rw [e] at h; cases h
      | some ps =>
        rw [e] at h
        cases h
        exact .tup t.sq (all _ _ _ e q)
    | wt ds =>
      simp only [pyF] at h
      obtain ⟨a, vs, rfl, t, q⟩ := r.wtE
      cases e : mapO (pyF hp n) ds with
      | none => rw [e] at h; cases h
      | some ps =>
        rw [e] at h
        cases h
        exact .tup t.sq (all _ _ _ e q)
    | ref k =>
      simp only [pyF] at h
      split at h
      · rename_i xs e0
        obtain ⟨a, ea, rfl⟩ := r.refE
        obtain ⟨a2, ea2, vs, eh, q⟩ := rh.at_ e0
        rw [ea] at ea2
        cases ea2
        cases e : mapO (pyF hp n) xs with
        | none => rw [e] at h; cases h
        | some ps =>
          rw [e] at h
          cases h
          exact .lst (.inl (.inl eh)) (all _ _ _ e q)
      · cases h
def eqH (hp : Hd) (x y : D) : Option Bool := match pyF hp 16 x, pyF hp 16 y with
  | some p, some q => if (SeqAt.shaped p && SeqAt.shaped q) = true then some (PyData.eqv p q) else none
  | _, _ => none
def gEq (x y : D) (hp : Hd) : Option (D × Hd) := match eqH hp x y with
  | some b => some (.bl b, hp)
  | none => none
def gNe (x y : D) (hp : Hd) : Option (D × Hd) := match eqH hp x y with
  | some b => some (.bl (!b), hp)
  | none => none
theorem eqH_some {hp : Hd} {x y : D} {b : Bool} (h : eqH hp x y = some b) : ∃ p q, pyF hp 16 x = some p ∧ pyF hp 16 y = some q ∧ SeqAt.shaped p = true ∧ SeqAt.shaped q = true ∧ b = PyData.eqv p q := by
  unfold eqH at h
  split at h
  · rename_i p q e1 e2
    split at h
    · rename_i hs
      rw [Bool.and_eq_true] at hs
      cases h
      exact ⟨p, q, e1, e2, hs.1, hs.2, rfl⟩
    · cases h
  · cases h
theorem o_eq (hu : X.A.units + 64 < cLine) : OpR X (compareOp .Eq) (RD X.K gEq) := fun pins s σ H x y v u Q I rx ry ⟨hp, μ, d1, d2, d, hp', rh, r1, r2, e, q⟩ => by
  unfold gEq at e
  split at e
  · rename_i b eb
    cases e
    obtain ⟨p, q2, e1, e2, s1, s2, rfl⟩ := eqH_some eb
    exact op_eqD hu pins s σ H x y v u Q I rx ry ⟨p, q2, pyF_dp rh _ _ _ _ e1 r1, pyF_dp rh _ _ _ _ e2 r2, s1, s2, q _ H μ Ext.refl rh Rp.bl⟩
  · cases e
theorem o_ne (hu : X.A.units + 64 < cLine) : OpR X (compareOp .NotEq) (RD X.K gNe) := fun pins s σ H x y v u Q I rx ry ⟨hp, μ, d1, d2, d, hp', rh, r1, r2, e, q⟩ => by
  unfold gNe at e
  split at e
  · rename_i b eb
    cases e
    obtain ⟨p, q2, e1, e2, s1, s2, rfl⟩ := eqH_some eb
    exact op_neD hu pins s σ H x y v u Q I rx ry ⟨p, q2, pyF_dp rh _ _ _ _ e1 r1, pyF_dp rh _ _ _ _ e2 r2, s1, s2, q _ H μ Ext.refl rh Rp.bl⟩
  · cases e
end
end Ve
namespace Ve
open PySem PySem.Spec L2
mutual
def D.same : D → D → Bool
  | .non, .non => true
  | .bl a, .bl b => a == b
  | .int a, .int b => decide (a = b)
  | .str a, .str b => decide (a = b)
  | .ref a, .ref b => a == b
  | .scr a, .scr b => decide (a = b)
  | .tup a, .tup b => D.sames a b
  | .wt a, .wt b => D.sames a b
  | _, _ => false
def D.sames : List D → List D → Bool
  | [], [] => true
  | a :: as, b :: bs => D.same a b && D.sames as bs
  | _, _ => false
end
mutual
theorem D.same_eq : ∀ (a b : D), D.same a b = true → a = b
  | .non, b, h => by cases b <;> simp [D.same] at h ⊢
  | .bl x, b, h => by cases b <;> simp [D.same] at h ⊢ <;> exact h
  | .int x, b, h => by cases b <;> simp [D.same] at h ⊢ <;> exact h
  | .str x, b, h => by cases b <;> simp [D.same] at h ⊢ <;> exact h
  | .ref x, b, h => by cases b <;> simp [D.same] at h ⊢ <;> exact h
  | .scr x, b, h => by cases b <;> simp [D.same] at h ⊢ <;> exact h
  | .tup x, b, h => by
    cases b <;> simp [D.same] at h ⊢
    exact D.sames_eq _ _ h
  | .wt x, b, h => by
    cases b <;> simp [D.same] at h ⊢
    exact D.sames_eq _ _ h
theorem D.sames_eq : ∀ (a b : List D), D.sames a b = true → a = b
  | [], b, h => by cases b <;> simp [D.sames] at h ⊢
  | x :: xs, b, h => by
    cases b with
    | nil => simp [D.sames] at h
    | cons y ys =>
      simp [D.sames] at h
      rw [D.same_eq x y h.1, D.sames_eq xs ys h.2]
end
mutual
theorem D.same_self : ∀ a : D, D.same a a = true
  | .non => by simp [D.same]
  | .bl x => by simp [D.same]
  | .int x => by simp [D.same]
  | .str x => by simp [D.same]
  | .ref x => by simp [D.same]
  | .scr x => by simp [D.same]
  | .tup x => by simp [D.same, D.sames_self x]
  | .wt x => by simp [D.same, D.sames_self x]
theorem D.sames_self : ∀ a : List D, D.sames a a = true
  | [] => by simp [D.sames]
  | x :: xs => by simp [D.sames, D.same_self x, D.sames_self xs]
end
inductive Fl where
  | nx | rt (d : D) | bk | ct
abbrev AS := Ls → Hd → Option (Fl × Ls × Hd)
def En (K : PySem.W.Frag) (Dn : Ends) (fl : Fl) (ls' : Ls) (H' : Hp) (μ' : List Addr) : Prop := match fl with
  | .nx => ∀ σ', Rl K H' μ' ls' σ' → Dn.nx σ' H'
  | .rt d => ∀ v, Rp K H' μ' d v → Dn.rt v H'
  | .bk => ∀ σ', Rl K H' μ' ls' σ' → Dn.bk σ' H'
  | .ct => ∀ σ', Rl K H' μ' ls' σ' → Dn.ct σ' H'
def tS (K : PySem.W.Frag) (f : AS) : TS := fun Dn σ H => ∃ ls hp μ fl ls' hp', Rl K H μ ls σ ∧ RelH K H μ hp ∧ f ls hp = some (fl, ls', hp') ∧
  ∀ H' μ', Ext μ H μ' H' → RelH K H' μ' hp' → En K Dn fl ls' H' μ'
abbrev DS (X : Cx) (e : Stmt) (f : AS) : Prop := PS X e (tS X.K f)
abbrev DSs (X : Cx) (e : List Stmt) (f : AS) : Prop := PSs X e (tS X.K f)
def sNext : AS := fun ls hp => some (.nx, ls, hp)
def sSeq (f g : AS) : AS := fun ls hp => match f ls hp with
  | some (.nx, ls1, hp1) => g ls1 hp1
  | r => r
def sBrk : AS := fun ls hp => some (.bk, ls, hp)
def sCnt : AS := fun ls hp => some (.ct, ls, hp)
def sDrop (f : AE) : AS := fun ls hp => match f ls hp with
  | some (_, hp1) => some (.nx, ls, hp1)
  | none => none
def sRet (f : AE) : AS := fun ls hp => match f ls hp with
  | some (d, hp1) => some (.rt d, ls, hp1)
  | none => none
def sRetN : AS := fun ls hp => some (.rt .non, ls, hp)
def sIf (c : AT) (f g : AS) : AS := fun ls hp => match c ls hp with
  | some (true, hp1) => f ls hp1
  | some (false, hp1) => g ls hp1
  | none => none
def sSet (i : Nat) (f : AE) : AS := fun ls hp => match f ls hp with
  | some (d, hp1) => some (.nx, ls.set i (some d), hp1)
  | none => none
inductive Tg where
  | nm (i : Nat) | tp (ts : List Tg)
mutual
def Tg.asg : Tg → D → Ls → Option Ls
  | .nm i, d, ls => some (ls.set i (some d))
  | .tp ts, .tup ds, ls => Tg.asgs ts ds ls
  | .tp ts, .wt ds, ls => Tg.asgs ts ds ls
  | .tp _, _, _ => none
def Tg.asgs : List Tg → List D → Ls → Option Ls
  | [], [], ls => some ls
  | t :: ts, d :: ds, ls => match Tg.asg t d ls with
    | some ls1 => Tg.asgs ts ds ls1
    | none => none
  | _, _, _ => none
end
mutual
def Tg.slots : Tg → List Nat
  | .nm i => [i]
  | .tp ts => Tg.slotss ts
def Tg.slotss : List Tg → List Nat
  | [] => []
  | t :: ts => Tg.slots t ++ Tg.slotss ts
end
def gD (K : PySem.W.Frag) (t : Tg) : TG := fun v σ H Q => ∃ ls μ d ls', Rl K H μ ls σ ∧ Rp K H μ d v ∧ t.asg d ls = some ls' ∧
  ∀ σ', Rl K H μ ls' σ' → (∀ vs : List Nat, (∀ i ∈ t.slots, i ∈ vs) → wipe σ' vs = wipe σ vs) → Q σ' H
def gDs (K : PySem.W.Frag) (t : List Tg) : TGs := fun v σ H Q => ∃ ls μ d ls', Rl K H μ ls σ ∧ Rps K H μ d v ∧ Tg.asgs t d ls = some ls' ∧
  ∀ σ', Rl K H μ ls' σ' → (∀ vs : List Nat, (∀ i ∈ Tg.slotss t, i ∈ vs) → wipe σ' vs = wipe σ vs) → Q σ' H
abbrev DG (X : Cx) (e : Expr) (t : Tg) : Prop := PG X e (gD X.K t)
abbrev DGs (X : Cx) (e : List Expr) (t : List Tg) : Prop := PGs X e (gDs X.K t)
theorem PG.imp {X : Cx} {e : Expr} {t t' : TG} (h : PG X e t) (i : ∀ v σ H Q, t' v σ H Q → t v σ H Q) : PG X e t' := ⟨fun pins s σ H v u Q I r q => h.run pins s σ H v u Q I r (i v σ H Q q)⟩
theorem PGs.imp {X : Cx} {e : List Expr} {t t' : TGs} (h : PGs X e t) (i : ∀ v σ H Q, t' v σ H Q → t v σ H Q) : PGs X e t' := ⟨fun pins s σ H v u Q I r q => h.run pins s σ H v u Q I r (i v σ H Q q)⟩
theorem Rl.set {K : PySem.W.Frag} {H : Hp} {μ : List Addr} {ls : Ls} {σ : St} {i : Nat} {d : D} {v : V} (h : Rl K H μ ls σ) (r : Rp K H μ d v) : Rl K H μ (ls.set i (some d)) (σ.set i (some v)) := by
  refine ⟨by rw [List.length_set, List.length_set, h.1], fun j e hj => ?_⟩
  by_cases hji : i = j
  · subst hji
    by_cases hl : i < ls.length
    · rw [List.getElem?_set_self hl] at hj
      cases hj
      exact ⟨v, List.getElem?_set_self (by rw [h.1]; exact hl), r⟩
    · rw [List.getElem?_eq_none (by simpa using hl)] at hj
      cases hj
  · rw [List.getElem?_set_ne hji] at hj
    rw [List.getElem?_set_ne hji]
    exact h.2 j e hj
theorem wipe_set {σ : St} {i : Nat} {x : Option V} : ∀ {vs : List Nat}, i ∈ vs → wipe (σ.set i x) vs = wipe σ vs
  | [], h => by cases h
  | v :: vs, h => by
    unfold wipe
    by_cases e : i ∈ vs
    · rw [wipe_set e]
    · rcases List.mem_cons.mp h with z | z
      · subst z
        have go : ∀ (ws : List Nat), i ∉ ws → wipe (σ.set i x) ws = (wipe σ ws).set i x := by
          intro ws
          induction ws with
          | nil => intro _; rfl
          | cons w ws ih =>
            intro hn
            unfold wipe
            rw [ih (fun z => hn (List.mem_cons_of_mem _ z)), List.set_comm _ _ (fun z => hn (by rw [z]; exact List.mem_cons_self))]
        rw [go vs e, List.set_set]
      · exact absurd z e
section
variable {X : Cx} {st : Stmt} {sts rest : List Stmt} {e a b : Expr} {f g : AS} {fa fb : AE} {ft : AT} {fr : AA} {pos : Pos}
theorem dss_nil : DSs X [] sNext := PSs.imp pss_nil fun Dn σ H ⟨ls, hp, μ, fl, ls', hp', rl, rh, e, q⟩ => by
  cases e
  exact q H μ Ext.refl rh σ rl
theorem dss_cons (h1 : DS X st f) (h2 : DSs X rest g) : DSs X (st :: rest) (sSeq f g) :=
  PSs.imp (pss_cons h1 h2) fun Dn σ H ⟨ls, hp, μ, fl, ls', hp', rl, rh, e, q⟩ => by
    unfold sSeq at e
    split at e
    · rename_i ls1 hp1 e1
      exact ⟨ls, hp, μ, .nx, ls1, hp1, rl, rh, e1, fun H1 μ1 x1 rh1 σ1 rl1 => ⟨ls1, hp1, μ1, fl, ls', hp', rl1, rh1, e, fun H' μ' x2 rh2 => q H' μ' (x1.trans x2) rh2⟩⟩
    · rename_i hne
      refine ⟨ls, hp, μ, fl, ls', hp', rl, rh, e, fun H1 μ1 x1 rh1 => ?_⟩
      have q' := q H1 μ1 x1 rh1
      cases fl with
      | nx => exact absurd e (hne ls' hp')
      | rt d => exact q'
      | bk => exact q'
      | ct => exact q'
theorem dss_one (h1 : DS X st f) : DSs X [st] f := PSs.imp (pss_one h1) fun _ _ _ h => h
theorem ds_expr (he : DE X e fa) (hs : swapsWith e none pos.line X.env = pure false := by rfl) : DS X (.Expr e pos) (sDrop fa) :=
  PS.imp (ps_expr he hs) fun Dn σ H ⟨ls, hp, μ, fl, ls', hp', rl, rh, e, q⟩ => by
    unfold sDrop at e
    split at e
    · rename_i d hp1 e1
      cases e
      exact ⟨ls, hp, μ, d, hp', rl, rh, e1, fun v H' μ' x1 rh1 r1 => q H' μ' x1 rh1 σ (rl.ext x1)⟩
    · cases e
theorem ds_ret (he : DE X e fa) : DS X (.Return (some e) pos) (sRet fa) :=
  PS.imp (ps_ret he) fun Dn σ H ⟨ls, hp, μ, fl, ls', hp', rl, rh, e, q⟩ => by
    unfold sRet at e
    split at e
    · rename_i d hp1 e1
      cases e
      exact ⟨ls, hp, μ, d, hp', rl, rh, e1, fun v H' μ' x1 rh1 r1 => q H' μ' x1 rh1 v r1⟩
    · cases e
theorem En.seq {K : PySem.W.Frag} {Dn : Ends} {fl : Fl} {ls' : Ls} {H H1 H' : Hp} {μ μ1 μ' : List Addr} (h : En K Dn fl ls' H' μ') : En K Dn fl ls' H' μ' := h
theorem ds_if {c : Expr} {as bs : List Stmt} (hc : DT X c ft) (ha : DSs X as f) (hb : DSs X bs g) : DS X (.If c as bs pos) (sIf ft f g) :=
  PS.imp (ps_if hc ha hb) fun Dn σ H ⟨ls, hp, μ, fl, ls', hp', rl, rh, e, q⟩ => by
    unfold sIf at e
    split at e
    · rename_i hp1 e1
      exact ⟨ls, hp, μ, true, hp1, rl, rh, e1, fun H1 μ1 x1 rh1 => iteT ⟨ls, hp1, μ1, fl, ls', hp', rl.ext x1, rh1, e, fun H' μ' x2 rh2 => q H' μ' (x1.trans x2) rh2⟩⟩
    · rename_i hp1 e1
      exact ⟨ls, hp, μ, false, hp1, rl, rh, e1, fun H1 μ1 x1 rh1 => iteF ⟨ls, hp1, μ1, fl, ls', hp', rl.ext x1, rh1, e, fun H' μ' x2 rh2 => q H' μ' (x1.trans x2) rh2⟩⟩
    · cases e
theorem ds_set {i : Nat} {x : Str} {pos' : Pos} (hN : X.N.Nodup) (hi : X.N[i]? = some x) (hx : Loc X.env.scope x) (he : DE X e fa) (hs : swapsWith e (some (.Name x pos')) pos.line X.env = pure false := by rfl)
    (hf : X.fn x = true ∨ X.env.scope.names.lookup x = some .local := by first | exact .inl rfl | exact .inr rfl | assumption) : DS X (.Assign [.Name x pos'] e pos) (sSet i fa) :=
  PS.imp (ps_set hN hi hx he hs hf) fun Dn σ H ⟨ls, hp, μ, fl, ls', hp', rl, rh, e, q⟩ => by
    unfold sSet at e
    split at e
    · rename_i d hp1 e1
      cases e
      exact ⟨ls, hp, μ, d, hp', rl, rh, e1, fun v H' μ' x1 rh1 r1 => q H' μ' x1 rh1 _ ((rl.ext x1).set r1)⟩
    · cases e
theorem dg_name {i : Nat} {x : Str} (hN : X.N.Nodup) (hi : X.N[i]? = some x) (hx : Loc X.env.scope x) (hf : X.fn x = true ∨ X.env.scope.names.lookup x = some .local := by first | exact .inl rfl | exact .inr rfl | assumption) :
    DG X (.Name x pos) (.nm i) :=
  PG.imp (pg_name hN hi hx hf) fun v σ H Q ⟨ls, μ, d, ls', rl, r, e, q⟩ => by
    simp only [Tg.asg] at e
    cases e
    exact q _ (rl.set r) fun vs hvs => wipe_set (hvs i (by simp [Tg.slots]))
theorem dgs_nil : DGs X [] [] := PGs.imp pgs_nil fun v σ H Q ⟨ls, μ, d, ls', rl, r, e, q⟩ => by
  cases d with
  | nil =>
    simp only [Tg.asgs] at e
    cases e
    rw [Rps] at r
    exact ⟨r, q σ rl fun _ _ => rfl⟩
  | cons x xs => simp [Tg.asgs] at e
theorem dgs_cons {es : List Expr} {t : Tg} {ts : List Tg} (h1 : DG X e t) (h2 : DGs X es ts) (hs : (assignEach (e :: es) X.env).map (·.2) = assign e X.env :: (assignEach es X.env).map (·.2) := by rfl) : DGs X (e :: es) (t :: ts) :=
  PGs.imp (pgs_cons h1 h2 hs) fun v σ H Q ⟨ls, μ, d, ls', rl, r, e, q⟩ => by
    cases d with
    | nil => simp [Tg.asgs] at e
    | cons x xs =>
      simp only [Tg.asgs] at e
      split at e
      · rename_i ls1 e1
        rw [Rps] at r
        obtain ⟨v1, vs, rfl, r1, r2⟩ := r
        refine ⟨v1, vs, rfl, ls, μ, x, ls1, rl, r1, e1, fun σ1 rl1 w1 => ⟨ls1, μ, xs, ls', rl1, r2, e, fun σ2 rl2 w2 => q σ2 rl2 fun vs hvs => ?_⟩⟩
        rw [w2 vs fun i hi => hvs i (by simp [Tg.slotss, hi]), w1 vs fun i hi => hvs i (by simp [Tg.slotss, hi])]
      · cases e
theorem asgs_len : ∀ {ts : List Tg} {ds : List D} {ls ls' : Ls}, Tg.asgs ts ds ls = some ls' → ds.length = ts.length
  | [], [], _, _, _ => rfl
  | [], _ :: _, _, _, h => by simp [Tg.asgs] at h
  | _ :: _, [], _, _, h => by simp [Tg.asgs] at h
  | t :: ts, d :: ds, ls, ls', h => by
    simp only [Tg.asgs] at h
    split at h
    · rw [List.length_cons, List.length_cons, asgs_len h]
    · cases h
theorem dg_tup {es : List Expr} {k : Nat} {ts : List Tg} (hc : X.calm = true) (h : DGs X es ts) (hn : (assignEach es X.env).length = ts.length := by rfl) (hst : (assignEach es X.env).findIdx? (·.1) = none := by rfl) : DG X (.Tuple es k pos) (.tp ts) :=
  PG.imp (pg_tup (n := ts.length) hc h hn hst) fun v σ H Q ⟨ls, μ, d, ls', rl, r, e, q⟩ => by
    cases d <;> try (simp [Tg.asg] at e; done)
    · rename_i ds
      simp only [Tg.asg] at e
      obtain ⟨a, vs, rfl, t, rs⟩ := r.tupE
      exact ⟨a, vs, rfl, t.sq, by rw [rs.len, asgs_len e], ls, μ, ds, ls', rl, rs, e, fun σ' rl' w => q σ' rl' fun vs hvs => w vs fun i hi => hvs i (by simp [Tg.slots, hi])⟩
    · rename_i ds
      simp only [Tg.asg] at e
      obtain ⟨a, vs, rfl, t, rs⟩ := r.wtE
      exact ⟨a, vs, rfl, t.sq, by rw [rs.len, asgs_len e], ls, μ, ds, ls', rl, rs, e, fun σ' rl' w => q σ' rl' fun vs hvs => w vs fun i hi => hvs i (by simp [Tg.slots, hi])⟩
def sAsg (t : Tg) (f : AE) : AS := fun ls hp => match f ls hp with
  | some (d, hp1) => match t.asg d ls with
    | some ls1 => some (.nx, ls1, hp1)
    | none => none
  | none => none
theorem ds_asg {tg : Expr} {t : Tg} (he : DE X e fa) (hg : DG X tg t) (hs : swapsWithSole [tg] e pos.line X.env = pure false := by rfl) (hsw : swappedStores [tg] e X.env = pure none := by rfl) (h1 : (assignEach [tg] X.env).map (·.2) = [assign tg X.env] := by rfl) : DS X (.Assign [tg] e pos) (sAsg t fa) :=
  PS.imp (ps_asg he hg hs hsw h1) fun Dn σ H ⟨ls, hp, μ, fl, ls', hp', rl, rh, e, q⟩ => by
    unfold sAsg at e
    split at e
    · rename_i d hp1 e1
      split at e
      · rename_i ls1 e2
        cases e
        exact ⟨ls, hp, μ, d, hp', rl, rh, e1, fun v H' μ' x1 rh1 r1 => ⟨ls, μ', d, ls', rl.ext x1, r1, e2, fun σ' rl' _ => q H' μ' x1 rh1 σ' rl'⟩⟩
      · cases e
    · cases e
def sPar (i j : Nat) (f : AA) : AS := fun ls hp => match f ls hp with
  | some ([a, b], hp1) => some (.nx, (ls.set i (some a)).set j (some b), hp1)
  | _ => none
theorem ds_par {i j : Nat} {x y : Str} {px py pt : Pos} {kt k2 pt2} (hc : X.calm = true) (hN : X.N.Nodup) (hi : X.N[i]? = some x) (hj : X.N[j]? = some y) (hij : i ≠ j)
    (hx : X.env.scope.names.lookup x = some .local) (hy : X.env.scope.names.lookup y = some .local) (ha : DA X [a, b] fr)
    (hw : swappedStores [.Tuple [.Name x px, .Name y py] kt pt] (.Tuple [a, b] k2 pt2) X.env = pure (some [x, y]))
    (hs : swapsWithSole [.Tuple [.Name x px, .Name y py] kt pt] (.Tuple [a, b] k2 pt2) pos.line X.env = pure false := by rfl) : DS X (.Assign [.Tuple [.Name x px, .Name y py] kt pt] (.Tuple [a, b] k2 pt2) pos) (sPar i j fr) :=
  PS.imp (ps_par hc hN hi hj hij hx hy ha hw hs) fun Dn σ H ⟨ls, hp, μ, fl, ls', hp', rl, rh, e, q⟩ => by
    unfold sPar at e
    split at e
    · rename_i a b hp1 e1
      cases e
      refine ⟨ls, hp, μ, [a, b], hp', rl, rh, e1, fun vs H' μ' x1 rh1 r1 => ?_⟩
      rw [Rps] at r1
      obtain ⟨v, r, rfl, r1, r2⟩ := r1
      rw [Rps] at r2
      obtain ⟨w, r, rfl, r2, r3⟩ := r2
      rw [Rps] at r3
      subst r3
      exact ⟨v, w, rfl, q H' μ' x1 rh1 _ (((rl.ext x1).set r1).set r2)⟩
    · cases e
def sWhile (c : AT) (b : AS) : Nat → AS
  | 0, _, _ => none
  | n + 1, ls, hp => match c ls hp with
    | some (false, hp1) => some (.nx, ls, hp1)
    | some (true, hp1) => match b ls hp1 with
      | some (.nx, ls2, hp2) => sWhile c b n ls2 hp2
      | some (.ct, ls2, hp2) => sWhile c b n ls2 hp2
      | some (.bk, ls2, hp2) => some (.nx, ls2, hp2)
      | some (.rt d, ls2, hp2) => some (.rt d, ls2, hp2)
      | none => none
    | none => none
theorem ds_while (n : Nat) {c : Expr} {body : List Stmt} (hp : PassesOwn (model X.prog X.w) X.A X.env X.xe) (hc : DT X c ft) (hb : DSs X body f) : DS X (.While c body [] pos) (sWhile ft f n) :=
  PS.imp (ps_while hp hc hb) fun Dn σ H ⟨ls, hp, μ, fl, ls', hp', rl, rh, e, q⟩ => by
    refine ⟨fun m σ1 H1 => ∃ ls1 hp1 μ1, Ext μ H μ1 H1 ∧ Rl X.K H1 μ1 ls1 σ1 ∧ RelH X.K H1 μ1 hp1 ∧ sWhile ft f m ls1 hp1 = some (fl, ls', hp'), ⟨n, ls, hp, μ, Ext.refl, rl, rh, e⟩, ?_⟩
    rintro m σ1 H1 ⟨ls1, hp1, μ1, x1, rl1, rh1, e1⟩
    cases m with
    | zero => simp [sWhile] at e1
    | succ m =>
      simp only [sWhile] at e1
      split at e1
      · rename_i hp2 e2
        cases e1
        exact ⟨ls', hp1, μ1, false, hp', rl1, rh1, e2, fun H2 μ2 x2 rh2 => iteF (q H2 μ2 (x1.trans x2) rh2 σ1 (rl1.ext x2))⟩
      · rename_i hp2 e2
        refine ⟨ls1, hp1, μ1, true, hp2, rl1, rh1, e2, fun H2 μ2 x2 rh2 => iteT ?_⟩
        refine ⟨fun σ' H' => ∃ ls1 hp1 μ1, Ext μ H μ1 H' ∧ Rl X.K H' μ1 ls1 σ' ∧ RelH X.K H' μ1 hp1 ∧ sWhile ft f m ls1 hp1 = some (fl, ls', hp'), fun σ' H' h => ⟨m, Nat.lt_succ_self m, h⟩, ?_⟩
        split at e1
        · rename_i ls3 hp3 e3
          exact ⟨ls1, hp2, μ2, .nx, ls3, hp3, rl1.ext x2, rh2, e3, fun H3 μ3 x3 rh3 σ3 rl3 => ⟨ls3, hp3, μ3, (x1.trans x2).trans x3, rl3, rh3, e1⟩⟩
        · rename_i ls3 hp3 e3
          exact ⟨ls1, hp2, μ2, .ct, ls3, hp3, rl1.ext x2, rh2, e3, fun H3 μ3 x3 rh3 σ3 rl3 => ⟨ls3, hp3, μ3, (x1.trans x2).trans x3, rl3, rh3, e1⟩⟩
        · rename_i ls3 hp3 e3
          cases e1
          exact ⟨ls1, hp2, μ2, .bk, _, _, rl1.ext x2, rh2, e3, fun H3 μ3 x3 rh3 σ3 rl3 => q H3 μ3 ((x1.trans x2).trans x3) rh3 σ3 rl3⟩
        · rename_i d ls3 hp3 e3
          cases e1
          exact ⟨ls1, hp2, μ2, .rt d, _, _, rl1.ext x2, rh2, e3, fun H3 μ3 x3 rh3 => q H3 μ3 ((x1.trans x2).trans x3) rh3⟩
        · cases e1
      · cases e1
abbrev Gd := List (Nat × List D)
def gdOk : Gd → Hd → Bool
  | [], _ => true
  | (n, xs) :: r, hp => (match hp[n]? with
    | some (.lst ys) => D.sames ys xs
    | _ => false) && gdOk r hp
abbrev AI := Ls → Hd → Option (List D × Gd × Hd)
def Wk (K : PySem.W.Frag) (J : It) (items : List D) (gd : Gd) (μ : List Addr) (H : Hp) : Prop :=
  ∀ i H2 μ2 hp2, Ext μ H μ2 H2 → RelH K H2 μ2 hp2 → gdOk gd hp2 = true →
    (items.length ≤ i → J.stop i H2) ∧ (i < items.length → J.go i H2 ∧ ∀ x H3, J.yld i H2 x H3 → ∃ d, items[i]? = some d ∧ Ext μ2 H2 μ2 H3 ∧ RelH K H3 μ2 hp2 ∧ Rp K H3 μ2 d x)
def tI (K : PySem.W.Frag) (f : AI) : TI := fun σ H R => ∃ ls hp μ items gd hp', Rl K H μ ls σ ∧ RelH K H μ hp ∧ f ls hp = some (items, gd, hp') ∧
  ∀ J H' μ', Ext μ H μ' H' → RelH K H' μ' hp' → Wk K J items gd μ' H' → R J H'
abbrev DI (X : Cx) (tg e : Expr) (f : AI) : Prop := PI X tg e (tI X.K f)
theorem PI.imp {X : Cx} {tg e : Expr} {t t' : TI} (h : PI X tg e t) (i : ∀ σ H Q, t' σ H Q → t σ H Q) : PI X tg e t' := ⟨fun pins s σ H Q I q => h.run pins s σ H Q I (i σ H Q q)⟩
theorem PI.or {X : Cx} {tg e : Expr} {t t' : TI} (h : PI X tg e t) (h' : PI X tg e t') : PI X tg e (fun σ H Q => t σ H Q ∨ t' σ H Q) := ⟨fun pins s σ H Q I q => q.elim (h.run pins s σ H Q I) (h'.run pins s σ H Q I)⟩
def sFor (t : Tg) (gd : Gd) (b : AS) : List D → AS
  | [], ls, hp => if gdOk gd hp then some (.nx, ls, hp) else none
  | x :: xs, ls, hp => if gdOk gd hp then match t.asg x ls with
    | some ls1 => match b ls1 hp with
      | some (.nx, ls2, hp2) => sFor t gd b xs ls2 hp2
      | some (.ct, ls2, hp2) => sFor t gd b xs ls2 hp2
      | some (.bk, ls2, hp2) => some (.nx, ls2, hp2)
      | some (.rt d, ls2, hp2) => some (.rt d, ls2, hp2)
      | none => none
    | none => none else none
def sForI (fi : AI) (t : Tg) (b : AS) : AS := fun ls hp => match fi ls hp with
  | some (items, gd, hp1) => sFor t gd b items ls hp1
  | none => none
theorem ds_for {iter tg : Expr} {body : List Stmt} {fi : AI} {t : Tg} (hp : PassesOwn (model X.prog X.w) X.A X.env X.xe) (hc : X.calm = true) (hi : DI X tg iter fi) (hg : DG X tg t) (hb : DSs X body f)
    (hs : ∀ x, foldedSetIterable iter X.env x = pure x := by intro _; rfl) : DS X (.For tg iter body [] pos) (sForI fi t f) :=
  PS.imp (ps_for hp hc hi hg hb hs) fun Dn σ H ⟨ls, hp, μ, fl, ls', hp', rl, rh, e, q⟩ => by
    unfold sForI at e
    split at e
    · rename_i items gd hp1 e1
      refine ⟨ls, hp, μ, items, gd, hp1, rl, rh, e1, fun J H1 μ1 x1 rh1 wk => ?_⟩
      refine ⟨fun i m σ2 H2 => m + i = items.length ∧ ∃ ls2 hp2 μ2, Ext μ1 H1 μ2 H2 ∧ Rl X.K H2 μ2 ls2 σ2 ∧ RelH X.K H2 μ2 hp2 ∧ sFor t gd f (items.drop i) ls2 hp2 = some (fl, ls', hp'),
        ⟨items.length, by omega, ls, hp1, μ1, Ext.refl, rl.ext x1, rh1, e⟩, ?_⟩
      rintro i m σ2 H2 ⟨hm, ls2, hp2, μ2, x2, rl2, rh2, e2⟩
      by_cases hi : i < items.length
      · have hd : items.drop i = items[i] :: items.drop (i + 1) := List.drop_eq_getElem_cons hi
        rw [hd] at e2
        simp only [sFor] at e2
        split at e2
        · rename_i hgd
          obtain ⟨_, w2⟩ := wk i H2 μ2 hp2 x2 rh2 hgd
          obtain ⟨w3, w4⟩ := w2 hi
          refine .inr ⟨w3, fun σ' H' => m - 1 + (i + 1) = items.length ∧ ∃ ls2 hp2 μ2, Ext μ1 H1 μ2 H' ∧ Rl X.K H' μ2 ls2 σ' ∧ RelH X.K H' μ2 hp2 ∧ sFor t gd f (items.drop (i + 1)) ls2 hp2 = some (fl, ls', hp'),
            fun σ' H' h => ⟨m - 1, by omega, h⟩, fun x H3 hy => ?_⟩
          obtain ⟨d, ed, x3, rh3, r3⟩ := w4 x H3 hy
          rw [List.getElem?_eq_getElem hi] at ed
          cases ed
          split at e2
          · rename_i ls3 e3
            refine ⟨ls2, μ2, _, ls3, rl2.ext x3, r3, e3, fun σ3 rl3 _ => ?_⟩
            have hm' : m - 1 + (i + 1) = items.length := by omega
            split at e2
            · rename_i ls4 hp4 e4
              exact ⟨ls3, hp2, μ2, .nx, ls4, hp4, rl3, rh3, e4, fun H5 μ5 x5 rh5 σ5 rl5 => ⟨hm', ls4, hp4, μ5, (x2.trans x3).trans x5, rl5, rh5, e2⟩⟩
            · rename_i ls4 hp4 e4
              exact ⟨ls3, hp2, μ2, .ct, ls4, hp4, rl3, rh3, e4, fun H5 μ5 x5 rh5 σ5 rl5 => ⟨hm', ls4, hp4, μ5, (x2.trans x3).trans x5, rl5, rh5, e2⟩⟩
            · rename_i ls4 hp4 e4
              cases e2
              exact ⟨ls3, hp2, μ2, .bk, _, _, rl3, rh3, e4, fun H5 μ5 x5 rh5 σ5 rl5 => q H5 μ5 (x1.trans ((x2.trans x3).trans x5)) rh5 σ5 rl5⟩
            · rename_i d ls4 hp4 e4
              cases e2
              exact ⟨ls3, hp2, μ2, .rt d, _, _, rl3, rh3, e4, fun H5 μ5 x5 rh5 => q H5 μ5 (x1.trans ((x2.trans x3).trans x5)) rh5⟩
            · cases e2
          · cases e2
        · cases e2
      · rw [List.drop_eq_nil_of_le (by omega)] at e2
        simp only [sFor] at e2
        split at e2
        · rename_i hgd
          cases e2
          obtain ⟨w1, _⟩ := wk i H2 μ2 _ x2 rh2 hgd
          exact .inl ⟨w1 (by omega), q H2 μ2 (x1.trans x2) rh2 σ2 rl2⟩
        · cases e2
    · cases e
end
end Ve
namespace Ve
open PySem PySem.Spec L2 PyProof.Rows
structure RoomG (k : Nat) (A : Around) : Prop where
  r : L2.Room k A
  gd : A.guards = some []
theorem RoomG.mono {j k : Nat} {A : Around} (r : RoomG k A) (h : j ≤ k) : RoomG j A := ⟨r.r.mono h, r.gd⟩
theorem RoomG.deeper {k : Nat} {A : Around} (r : RoomG (k + 1) A) (env : Env) : RoomG k (A.deeper env) := ⟨r.r.deeper env, r.gd⟩
theorem RoomG.units {k : Nat} {A : Around} (r : RoomG k A) : A.units + 64 < cLine := r.r.units
theorem RoomG.units0 {k : Nat} {A : Around} (r : RoomG k A) : A.units < cLine := r.r.units0
theorem RoomG.units65 {k : Nat} {A : Around} (r : RoomG k A) : A.units + 65 < cLine := by
  have := r.r.un
  omega
theorem hu_ofG {A : Around} {k : Nat} (hr : RoomG k A) : A.units + 1 < cLine := by
  have := hr.r.un
  omega
structure FnG (P : Program) (w : World) (K : PySem.W.Frag) (mg : Str → Option Value) (base : Heap) (CX : CXT) (k : Nat) (f : Addr) (fd : FuncData) (ps : List Str) (sp : Sp) : Prop where
  len : ∀ vs H Q E, sp vs H Q E → vs.length = ps.length
  run : ∀ (A : Around) (outer : List Env) (s : Shared) (H : Hp) (args : Args) (us : List Value) (vs : List V) (Q : VK) (E : XK), RoomG k A → Env0 P w K mg base A outer s H → BindsTo s fd args (ps.zip us) → Vals vs us → sp vs H Q E →
    codeAny (model P w) A (.call (.ref f) args) (CR CX outer P w H s Q E) s
section
variable {P : Program} {w : World} {K : PySem.W.Frag} {mg : Str → Option Value} {base : Heap} {CX : CXT} {j k : Nat} {f : Addr} {fd : FuncData} {ps : List Str} {sp sp' : Sp}
theorem FnG.mono (F : FnG P w K mg base CX j f fd ps sp) (h : j ≤ k) : FnG P w K mg base CX k f fd ps sp := ⟨F.len, fun A outer s H args us vs Q E hr => F.run A outer s H args us vs Q E (hr.mono h)⟩
theorem FnG.imp (F : FnG P w K mg base CX k f fd ps sp) (h : ∀ vs H Q E, sp' vs H Q E → sp vs H Q E) : FnG P w K mg base CX k f fd ps sp' :=
  ⟨fun vs H Q E q => F.len vs H Q E (h _ _ _ _ q), fun A outer s H args us vs Q E hr he hb hv hs => F.run A outer s H args us vs Q E hr he hb hv (h _ _ _ _ hs)⟩
end
section
variable {X : Cx} {CX : CXT} {k : Nat} {f : Addr} {fd : FuncData} {ps : List Str} {sp : Sp} {dvs : List V} {ds : List Value} {E : XK} {x : Str} {p pos : Pos} {e : Expr} {es : List Expr} {t : TA}
theorem run_fnG {pins : List (Addr × Obj)} {σ : L2.St} {H : Hp} {s : Shared} {Q : VK} {us : List Value} {vs : List V} (F : FnG X.prog X.w X.K X.mg X.base CX k f fd ps sp) (hr : RoomG k X.A) (hb : Binds X.K fd ps ds) (hd : Vals dvs ds) (hx : Passes CX X E)
    (I : Inv X pins σ H s) (r : Vals vs us) (h : sp (vs ++ dvs) H Q E) : wpAny (model X.prog X.w) X.A (call (.ref f) us) (EP X pins σ Q) X.xe s := by
  have r2 := r.append hd
  have hl : (us ++ ds).length = ps.length := r2.length ▸ F.len _ _ _ _ h
  refine wpAny_call (codeAny_mono (F.run X.A X.stack s H ⟨us, []⟩ _ _ Q E hr I.env0 (hb s us I.kIn hl) r2 h) fun r s' hq => ?_)
  match r, hq with
  | .error e, hq => exact hx pins σ H s e s' I hq
  | .ok (.ret u), hq => exact I.after hq
theorem pe_callG (F : FnG X.prog X.w X.K X.mg X.base CX k f fd ps sp) (hr : RoomG k X.A) (hg : Gl X x) (hm : X.mg x = some (.ref f)) (hk : PySem.W.keepIn X.K (.ref f) = true) (hb : Binds X.K fd ps ds) (hd : Vals dvs ds) (hx : Passes CX X E)
    (ha : PA X (e :: es) t) (hdb : (x == ("__debug__" : Str)) = false := by decide) (he : starEach (e :: es) X.env = (false, eval e X.env) :: starEach es X.env := by rfl) (hpl : (backTo pos (starEach es X.env)).any (·.1) = false := by rfl) :
    PE X (.Call (.Name x p) (e :: es) [] pos) (tCall sp dvs E t) :=
  ⟨fun pins s σ H Q I h => wpAny_Call_Name_kw (ld_glob I hg hm (PySem.W.callWith_K (h₀ := X.base) I.ok.mod.kin hk (thn (ha.run pos pins s σ H _ I h) fun us s1 ⟨vs, H1, I1, r, q⟩ => ⟨I1.kIn, run_fnG F hr hb hd hx I1 r q⟩) he hpl) hdb)⟩
end
theorem fnG_of {CX : CXT} {P : Program} {w : World} {K : PySem.W.Frag} {mg : Str → Option Value} {base : Heap} {k : Nat} {f : Addr} {name qual : Str} {params : Arguments} {body : List Stmt} {scope : Scope} {dV kV doc pm cdv ct oc : Value} {an od : Option Addr}
    {osl : Array (Option Value)} {N ps : List Str} {sp : Sp} (lk : K.lookup f = some ⟨oc, od, .func (PySem.W.fnOf name qual params body scope dV kV doc pm an cdv ct), osl⟩) (hcd : PySem.W.codeIn K cdv qual = true) (S : FnScope N ps scope)
    (len : ∀ vs H Q E, sp vs H Q E → vs.length = ps.length)
    (hbody : ∀ (A : Around) (outer : List Env) (s : Shared) (H : Hp) (vs : List V) (Q : VK) (E : XK), RoomG k (A.deeper (envOfC qual scope s.heap.objs.size f cdv)) → sp vs H Q E →
      ∃ t, PSs (cxOf CX P w K mg base N qual scope f cdv A outer s H E) body t ∧ t { nx := fun _ H' => Q .non H', rt := Q } (L2.start N vs) H) :
    FnG P w K mg base CX (k + 1) f (PySem.W.fnOf name qual params body scope dV kV doc pm an cdv ct) ps sp where
  len := len
  run A outer s H args us vs Q E hr e0 hb r hsp := by
    have hl := len _ _ _ _ hsp
    have KX : K.In s.heap := e0.mod.kin.keeps fun b o e => (e0.bs b o e).1
    have lim : s.heap.NoLimit := e0.mod.nolimit.keeps fun b o e => (e0.bs b o e).1
    have kinds : ∀ y ∈ ps.zip us, scope.names.lookup y.1 = some .local ∨ (scope.names.lookup y.1 = some .cell ∧ ((cellsFrom (s.heap.objs.size + 1) scope.names []).lookup y.1).isSome = true) := fun y hy =>
      (S.par y.1 (List.of_mem_zip hy).1).imp id fun q => ⟨q, PySem.W.cellsFrom_some _ _ _ (.inl q)⟩
    refine codeAny_call_function hr.r.depth (KX _ _ lk) rfl S.co S.gen rfl (PySem.W.codeRec_of KX hcd) (hb _ _ _ _ (wpAny_newFunctionEnv_cells S.kind kinds fun env he s1 x => ?_))
    subst he
    obtain ⟨t, ht, hq⟩ := hbody A outer s H vs Q E (hr.deeper _) hsp
    refine ⟨lim.keeps x.toInCall.keep, codeAny_func (wpAny_mono (ht.run [] s1 (L2.start N vs) H _ (inv_start S hr.r.hd e0 hl r x) hq) (fun fl s' hs => ?_) fun _ _ hs => hs)⟩
    cases fl with
    | ret u =>
      obtain ⟨v, σ', H', J, rv, q⟩ := hs
      exact ⟨v, H', J.os, J.bare, J.base, J.hok, rv, q⟩
    | next =>
      obtain ⟨σ', H', J, q⟩ := hs
      exact ⟨V.non, H', J.os, J.bare, J.base, J.hok, rfl, q⟩
    | brk =>
      obtain ⟨_, _, _, q⟩ := hs
      exact False.elim q
    | cont =>
      obtain ⟨_, _, _, q⟩ := hs
      exact False.elim q
theorem Fun.okG {P : Program} {w : World} {K : PySem.W.Frag} {mg : Str → Option Value} {base : Heap} {x qual : Str} {st : Stmt} {f : Addr} {fd : FuncData} {N ps : List Str} {k : Nat} {sp : Sp} (F : Fun K x qual st f fd) (S : FnScope N ps (defScope st)) (len : ∀ vs H Q E, sp vs H Q E → vs.length = ps.length)
    (hbody : ∀ (cdv : Value) (A : Around) (outer : List Env) (s : Shared) (H : Hp) (vs : List V) (Q : VK) (E : XK), RoomG k (A.deeper (envOfC qual (defScope st) s.heap.objs.size f cdv)) → sp vs H Q E →
      ∃ t, PSs (cxOf CX0 P w K mg base N qual (defScope st) f cdv A outer s H E).nox (defBody st) t ∧ t { nx := fun _ H' => Q .non H', rt := Q } (L2.start N vs) H) : FnG P w K mg base CX0 (k + 1) f fd ps sp := by
  obtain ⟨oc, od, kV, doc, pm, an, cdv, ct, osl, rfl, lk, hcd⟩ := F.ex
  exact fnG_of lk hcd S len fun A outer s H vs Q E hr hsp => by
    obtain ⟨t, h, q⟩ := hbody cdv A outer s H vs Q E hr hsp
    exact ⟨t, h.nox, q⟩
theorem law_callG {P : Program} {w : World} {K : PySem.W.Frag} {mg mb : Str → Option Value} {CX : CXT} {k : Nat} {fa a : Addr} {fd : FuncData} {x : Str} {sp : Sp} {s₁ : Shared} {vs : List Value} {ns : List Int}
    (KX : K.In s₁.heap) (hns : s₁.heap.Ns mainGlobals mg) (hb : s₁.heap.Ns builtinsNs mb) (hbb : ∀ x : Str, x ≠ "__name__" → mb x = bootBuiltins x) (hlim : s₁.heap.NoLimit) (hg : s₁.gens = #[])
    (ha : s₁.heap.get? a = some { cls := .type "list", data := .seq vs.toArray }) (hi : IntsAre vs ns) (hl : ns.length ≤ sizeLine) (hr : RoomG k callerA)
    (F : ∀ base : Heap, K.In base → base.Ns mainGlobals mg → FnG P w K mg base CX k fa fd [x] sp) (hbind : ∀ (s : Shared) (u : Value), BindsTo s fd ⟨[u], []⟩ [(x, u)])
    (hsp : ∀ H : Hp, Only H → SqL K H a (ns.map V.int) → sp [.ref a] H (fun v _ => v = .bl true) fun _ _ _ => False)
    (hCX : ∀ H e s', CX [] H s₁ (fun _ _ _ => False) e s' → False) :
    codeAny (model P w) callerA (.call (.ref fa) ⟨[.ref a], []⟩) (fun r s' => r = .ok (.ret (.bool true)) ∧ OldK s₁.heap s'.heap ∧ s'.os = s₁.os ∧ AllBare s'.gens) s₁ := by
  have core : ∀ H : Hp, Only H → SqL K H a (ns.map V.int) → HOk P w H s₁.heap → (∀ b, H b ≠ none → b = a) → (H a ≠ none → K.lookup a = none) →
      codeAny (model P w) callerA (.call (.ref fa) ⟨[.ref a], []⟩) (fun r s' => r = .ok (.ret (.bool true)) ∧ OldK s₁.heap s'.heap ∧ s'.os = s₁.os ∧ AllBare s'.gens) s₁ := by
    intro H hO hS hok hA hK
    have free : ∀ {b : Addr} {o : Obj}, s₁.heap.get? b = some o → (b = a → False) → H b = none := fun {b o} _ hne => Decidable.byContradiction fun z => hne (hA b z)
    have dicFree : ∀ {b : Addr} {o : Obj} {es : Array DictEntry} {ep : Nat}, s₁.heap.get? b = some o → o.data = .dict es ep → H b = none := fun {b o es ep} e d => free e fun z => by
      subst z
      rw [ha] at e
      cases e
      have d' : Data.seq vs.toArray _ = Data.dict es ep := d
      cases d'
    have ns_ : ∀ {b : Addr} {m : Str → Option Value}, s₁.heap.Ns b m → (hidT s₁.heap H).Ns b m := fun {b m} ⟨o, es, ep, e, d, r⟩ => ⟨o, es, ep, hidT_get e (dicFree e d), d, r⟩
    have hKb : K.In (hidT s₁.heap H) := fun b o e => hidT_get (KX b o e) (Decidable.byContradiction fun z => by
      have z2 := hA b z
      subst z2
      rw [hK z] at e
      cases e)
    have hM : Mod K mg (hidT s₁.heap H) := ⟨hKb, ns_ hns, ⟨mb, ns_ hb, hbb⟩, let ⟨mc, h1, h2⟩ := hlim; ⟨mc, ns_ h1, h2⟩⟩
    have e0 : Env0 P w K mg (hidT s₁.heap H) callerA [] s₁ H := ⟨rfl, hM, fun b o e => of_hidT e, Nat.le_of_eq (hidT_size _ _), trivial, fun b hb => absurd (show b ∈ ([] : List Addr) from hb) (by simp), hok, .of_eq hg⟩
    refine codeAny_mono ((F _ hKb (ns_ hns)).run callerA [] s₁ H ⟨[.ref a], []⟩ [.ref a] [.ref a] _ _ hr e0 (hbind s₁ (.ref a)) (.cons rfl .nil) (hsp H hO hS)) fun r s' h => ?_
    match r, h with
    | .error e, h => exact (hCX H e s' h).elim
    | .ok (.ret u), ⟨v, H', os, bare, un, hok', r', q⟩ =>
      have q' : v = .bl true := q
      subst q'
      obtain rfl : u = Value.bool true := r'
      refine ⟨rfl, OldK.of_keep fun b o e => ?_, os, bare⟩
      rcases Classical.em (H b = none) with q | q
      · exact un.keep b o e q (by intro z; exact absurd (show b ∈ ([] : List Addr) from z) (by simp)) (by simp)
      · rcases hO b with z | ⟨ob, xs, z⟩
        · exact absurd z q
        · obtain ⟨e1, _⟩ := hok b _ z
          obtain ⟨e2, _⟩ := hok' b _ (un.frzs b ob _ z)
          rw [e] at e1
          cases e1
          exact e2
  have rv := vals_ints hi
  cases hk : K.lookup a with
  | some o =>
    have e := KX a o hk
    rw [ha] at e
    cases e
    exact core (fun _ => none) (fun _ => .inl rfl) (.inr ⟨_, vs.toArray, _, hk, rfl, rfl, rfl, by rw [List.size_toArray, hi.length]; exact hl, by simpa using rv⟩) (fun b u z => nomatch (show (none : Option HO) = some u from z)) (fun b z => absurd rfl z) fun z => absurd rfl z
  | none =>
    have at_a : ∀ b u, (fun b => if b = a then some (HO.frz { cls := .type "list", data := .seq vs.toArray } (.lst (ns.map V.int))) else none) b = some u → b = a ∧ u = .frz { cls := .type "list", data := .seq vs.toArray } (.lst (ns.map V.int)) := fun b u z => by
      have z : (if b = a then some (HO.frz { cls := .type "list", data := .seq vs.toArray } (.lst (ns.map V.int))) else none) = some u := z
      split at z
      · rename_i h
        cases z
        exact ⟨h, rfl⟩
      · cases z
    refine core (fun b => if b = a then some (.frz { cls := .type "list", data := .seq vs.toArray } (.lst (ns.map V.int))) else none) (fun b => ?_) (.inl (.inr ⟨{ cls := .type "list", data := .seq vs.toArray }, if_pos rfl⟩)) (fun b u z => ?_) (fun b z => ?_) fun _ => hk
    · rcases Decidable.em (b = a) with q | q
      · exact .inr ⟨_, _, if_pos q⟩
      · exact .inl (if_neg q)
    · obtain ⟨rfl, rfl⟩ := at_a b u z
      exact ⟨ha, by rw [List.length_map]; exact hl, vs, _, rv, ha⟩
    · rcases Decidable.em (b = a) with q | q
      · exact q
      · exact absurd (if_neg q) z
theorem walk_ofG {l : PySem.W.OpenLaw} {n k : Nat} {q : Program} {loose : List Str} {XP : (Str → Option Value) → Heap → Prop} {YP : World → Heap → Prop} {d : DefRec} {K : Params → PySem.W.Frag} {CX : World → CXT} {sp : World → Sp} {x : Str}
    (hn : l.most = some n) (hn2 : n ≤ sizeLine) (hdf : d.params.defaults = []) (hr : RoomG k callerA)
    (hY : ∀ (w : World) (h : Heap), YP w h → (K w.params).In h)
    (F : ∀ (w : World) (mg : Str → Option Value) (fa : Addr) (h : Heap), (K w.params).In h → h.Ns mainGlobals mg → mg d.name = some (.ref fa) →
      ∃ fd : FuncData, (∀ (s : Shared) (u : Value), BindsTo s fd ⟨[u], []⟩ [(x, u)]) ∧
        ∀ base : Heap, (K w.params).In base → base.Ns mainGlobals mg → FnG l.prog w (K w.params) mg base (CX w) k fa fd [x] (sp w))
    (hsp : ∀ (w : World) (H : Hp) (a : Addr) (ns : List Int), ns.length ≤ n → Only H → SqL (K w.params) H a (ns.map V.int) → sp w [.ref a] H (fun v _ => v = .bl true) fun _ _ _ => False)
    (hCX : ∀ (w : World) (H : Hp) (s : Shared) (e : Value) (s' : Shared), CX w [] H s (fun _ _ _ => False) e s' → False) :
    PySem.W.WalkO q loose XP YP l.row.toRowW d [] (fun f vs => PySem.call f vs) := by
  refine Att.attach_call hn hdf fun w s₀ s₁ mg mb fa o pm cd doc a vs ns G Y ho hd hcd hmg hobj hints hlen hg => ?_
  have KX := hY w _ Y
  obtain ⟨fd, hb, hF⟩ := F w mg fa _ KX G.T.g hmg
  exact law_callG KX G.T.g G.T.b G.T.builtins G.T.nolimit hg hobj hints (Nat.le_trans hlen hn2) hr hF hb (fun H hO hS => hsp w H a ns hlen hO hS) fun H e s' => hCX w H s₁ e s'
end Ve
namespace Ve
open PySem PySem.Spec L2
section
variable {K : PySem.W.Frag} {H H' H2 : Hp} {μ μ' μ2 : List Addr} {hp hp' : Hd} {ls : Ls} {σ : St}
theorem Ext.back (x : Ext μ H μ' H') (r : RelH K H' μ' hp) {p : Addr} (h : H' p = none) : H p = none := by
  cases hh : H p with
  | none => rfl
  | some o =>
    exfalso
    by_cases hm : p ∈ μ
    · exact r.notIn h (by
        obtain ⟨ν, e⟩ := x.pre
        rw [e]
        exact List.mem_append_left _ hm)
    · have := x.keep p o hm hh
      rw [h] at this
      cases this
theorem Mon.loose {D : Addr} {xs : List V} {o : HO} (h : H D = some (.lst xs)) : Mon μ H μ (upd H D o) :=
  ⟨⟨[], by simp⟩, fun a ys e => by rw [upd_ne (fun z => by subst z; rw [h] at e; cases e)]; exact e, fun a ob ys _ e => by rw [upd_ne (fun z => by subst z; rw [h] at e; cases e)]; exact e⟩
theorem RelH.loose (r : RelH K H μ hp) {D : Addr} {xs : List V} {o : HO} (h : H D = some (.lst xs)) (hn : D ∉ μ) : RelH K (upd H D o) μ hp :=
  ⟨r.len, r.nd, fun n ob a e1 e2 => by
    rw [upd_ne (fun z => hn (by rw [← z]; exact List.mem_of_getElem? e2))]
    exact (r.obj n ob a e1 e2).mon (Mon.loose h), r.tabs⟩
theorem Ext.loose (x : Ext μ H μ' H') {D : Addr} {o : HO} (h : H D = none) : Ext μ H μ' (upd H' D o) :=
  ⟨x.pre, x.new, fun a u n e => by rw [upd_ne (ne_of_none e h)]; exact x.keep a u n e, fun a xs e => by rw [upd_ne (ne_of_none e h)]; exact x.tups a xs e, fun a ob xs e => by rw [upd_ne (ne_of_none e h)]; exact x.scrs a ob xs e⟩
end
def wipeL (ls : Ls) : List Nat → Ls
  | [] => ls
  | v :: vs => (wipeL ls vs).set v none
theorem Rl.wipe {K : PySem.W.Frag} {H : Hp} {μ : List Addr} {ls : Ls} {σ : St} (h : Rl K H μ ls σ) : ∀ vs : List Nat, Rl K H μ (wipeL ls vs) (wipe σ vs)
  | [] => h
  | v :: vs => by
    have ih := Rl.wipe h vs
    unfold wipeL L2.wipe
    refine ⟨by rw [List.length_set, List.length_set, ih.1], fun j e hj => ?_⟩
    by_cases hv : v = j
    · subst hv
      by_cases hl : v < (wipeL ls vs).length
      · rw [List.getElem?_set_self hl] at hj
        cases hj
      · rw [List.getElem?_eq_none (by simpa using hl)] at hj
        cases hj
    · rw [List.getElem?_set_ne hv] at hj
      rw [List.getElem?_set_ne hv]
      exact ih.2 j e hj
theorem wipe_none {σ : St} {v : Nat} : ∀ us : List Nat, v ∈ us → (wipe σ us).set v none = wipe σ us
  | [], h => by cases h
  | u :: us, h => by
    show ((wipe σ us).set u none).set v none = (wipe σ us).set u none
    by_cases hu : v = u
    · subst hu
      rw [List.set_set]
    · rcases List.mem_cons.mp h with z | z
      · exact absurd z hu
      · rw [List.set_comm _ _ (Ne.symm hu), wipe_none us z]
theorem wipe_key {σ : St} (vs : List Nat) : ∀ ws : List Nat, (∀ i ∈ ws, i ∈ vs) → wipe (wipe σ vs) ws = wipe σ vs
  | [], _ => rfl
  | v :: ws, hv => by
    show (wipe (wipe σ vs) ws).set v none = wipe σ vs
    rw [wipe_key vs ws fun i hi => hv i (List.mem_cons_of_mem _ hi)]
    exact wipe_none vs (hv v List.mem_cons_self)
theorem wipe_idem {σ : St} (vs : List Nat) : wipe (wipe σ vs) vs = wipe σ vs := wipe_key vs vs fun _ h => h
def tYesD : AT := fun _ hp => some (true, hp)
abbrev DTs (X : Cx) (es : List Expr) (f : AT) : Prop := PTs X es (tT X.K f)
def lcGo (t : Tg) (gd : Gd) (tt : AT) (te : AE) (ls0 : Ls) : List D → Hd → Option (List D × Hd)
  | [], hp => if gdOk gd hp then some ([], hp) else none
  | x :: xs, hp => if gdOk gd hp then match t.asg x ls0 with
    | some ls1 => match tt ls1 hp with
      | some (true, hp1) => match te ls1 hp1 with
        | some (d, hp2) => match lcGo t gd tt te ls0 xs hp2 with
          | some (r, hp3) => some (d :: r, hp3)
          | none => none
        | none => none
      | some (false, hp1) => lcGo t gd tt te ls0 xs hp1
      | none => none
    | none => none else none
def mLc (fi : AI) (t : Tg) (own : List Nat) (tt : AT) (te : AE) : AA := fun ls hp => match fi ls hp with
  | some (items, gd, hp1) => if items.length ≤ sizeLine then lcGo t gd tt te (wipeL ls own) items hp1 else none
  | none => none
theorem PTs.imp {X : Cx} {e : List Expr} {t t' : TT} (h : PTs X e t) (i : ∀ σ H Q, t' σ H Q → t σ H Q) : PTs X e t' := ⟨fun pins s σ H Q I q => h.run pins s σ H Q I (i σ H Q q)⟩
section
variable {X : Cx} {e elt tg iter : Expr} {es ifs : List Expr} {fi : AI} {t : Tg} {tt : AT} {te fa : AE} {fr : AA} {pos : Pos}
theorem dts_nil : DTs X [] tYesD := PTs.imp pts_nil fun σ H Q ⟨ls, hp, μ, b, hp', rl, rh, e, q⟩ => by
  cases e
  exact q H μ Ext.refl rh
theorem dts_one {c : Expr} (h : DT X c tt) : DTs X [c] tt := pts_one h
theorem tLc_of {K : PySem.W.Frag} {own : List Nat} {σ : St} {H : Hp} {Q : VK} (ho : ∀ i ∈ t.slots, i ∈ own) (h : tL K (mLc fi t own tt te) σ H Q) : tLc (tI K fi) (gD K t) (tT K tt) (tD K te) own σ H Q := by
  obtain ⟨ls, hp, μ, ds, hp', rl, rh, e, q⟩ := h
  unfold mLc at e
  split at e
  · rename_i items gd hp1 e1
    split at e
    · rename_i hsz
      refine ⟨ls, hp, μ, items, gd, hp1, rl, rh, e1, fun J H1 μ1 x1 rh1 wk D hD => ?_⟩
      have hD0 : H D = none := x1.back rh1 hD
      refine ⟨fun i m H2 => m + i = items.length ∧ ∃ acc accV r hp2 μ2, Ext μ1 H1 μ2 H2 ∧ D ∉ μ2 ∧ RelH K H2 μ2 hp2 ∧ H2 D = some (.lst accV) ∧ Rps K H2 μ2 acc accV ∧ acc.length ≤ i ∧
        lcGo t gd tt te (wipeL ls own) (items.drop i) hp2 = some (r, hp') ∧ acc ++ r = ds,
        ⟨items.length, by omega, [], [], ds, hp1, μ1, Ext.laid rh1 hD, rh1.notIn hD, rh1.laid hD, upd_same, Rps.nil, Nat.le_refl _, e, rfl⟩, ?_⟩
      rintro i m H2 ⟨hm, acc, accV, r, hp2, μ2, x2, nD, rh2, eD, ra, hl, e2, er⟩
      by_cases hi : i < items.length
      · have hd : items.drop i = items[i] :: items.drop (i + 1) := List.drop_eq_getElem_cons hi
        rw [hd] at e2
        simp only [lcGo] at e2
        split at e2
        · rename_i hgd
          obtain ⟨_, w2⟩ := wk i H2 μ2 hp2 x2 rh2 hgd
          obtain ⟨w3, w4⟩ := w2 hi
          refine .inr ⟨w3, fun H' => m - 1 + (i + 1) = items.length ∧ ∃ acc accV r hp2 μ2, Ext μ1 H1 μ2 H' ∧ D ∉ μ2 ∧ RelH K H' μ2 hp2 ∧ H' D = some (.lst accV) ∧ Rps K H' μ2 acc accV ∧ acc.length ≤ i + 1 ∧
            lcGo t gd tt te (wipeL ls own) (items.drop (i + 1)) hp2 = some (r, hp') ∧ acc ++ r = ds, fun H' h => ⟨m - 1, by omega, h⟩, fun x H3 hy => ?_⟩
          have hm' : m - 1 + (i + 1) = items.length := by omega
          obtain ⟨d, ed, x3, rh3, r3⟩ := w4 x H3 hy
          rw [List.getElem?_eq_getElem hi] at ed
          cases ed
          have eD3 : H3 D = some (.lst accV) := x3.keep _ _ nD eD
          split at e2
          · rename_i ls3 e3
            have rl3 := ((((rl.ext x1).ext x2).ext x3).wipe own)
            refine ⟨wipeL ls own, μ2, _, ls3, rl3, r3, e3, fun σ3 rl4 w => ⟨?_, ls3, hp2, μ2, ?_⟩⟩
            · rw [w own ho]
              exact wipe_idem own
            · split at e2
              · rename_i hp4 e4
                refine ⟨true, hp4, rl4, rh3, e4, fun H4 μ4 x4 rh4 => iteT ?_⟩
                have nD4 : D ∉ μ4 := x4.new _ _ nD eD3
                have eD4 : H4 D = some (.lst accV) := x4.keep _ _ nD eD3
                split at e2
                · rename_i d5 hp5 e5
                  split at e2
                  · rename_i r6 hp6 e6
                    cases e2
                    refine ⟨ls3, hp4, μ4, d5, hp5, rl4.ext x4, rh4, e5, fun y H5 μ5 x5 rh5 r5 => ?_⟩
                    have nD5 : D ∉ μ5 := x5.new _ _ nD4 eD4
                    have eD5 : H5 D = some (.lst accV) := x5.keep _ _ nD4 eD4
                    have x15 := (((x2.trans x3).trans x4).trans x5)
                    have ra5 := ((ra.ext x3).ext x4).ext x5
                    refine ⟨accV, eD5, ?_, hm', acc ++ [d5], accV ++ [y], r6, hp5, μ5, x15.loose hD, nD5, rh5.loose eD5 nD5, upd_same, ?_, ?_, e6, ?_⟩
                    · rw [ra.len]
                      omega
                    · have mo : Mon μ5 H5 μ5 (upd H5 D (.lst (accV ++ [y]))) := Mon.loose eD5
                      refine (ra5.append ?_).mon mo
                      rw [Rps]
                      exact ⟨y, [], rfl, r5, Rps.nil⟩
                    · rw [List.length_append]
                      simp
                      omega
                    · rw [← er, List.append_assoc]
                      rfl
                  · cases e2
                · cases e2
              · rename_i hp4 e4
                refine ⟨false, hp4, rl4, rh3, e4, fun H4 μ4 x4 rh4 => iteF ⟨hm', acc, accV, r, hp4, μ4, (x2.trans x3).trans x4, x4.new _ _ nD eD3, rh4, x4.keep _ _ nD eD3, (ra.ext x3).ext x4, by omega, e2, er⟩⟩
              · cases e2
          · cases e2
        · cases e2
      · rw [List.drop_eq_nil_of_le (by omega)] at e2
        simp only [lcGo] at e2
        split at e2
        · rename_i hgd
          cases e2
          obtain ⟨w1, _⟩ := wk i H2 μ2 _ x2 rh2 hgd
          rw [List.append_nil] at er
          subst er
          exact .inl ⟨w1 (by omega), q D accV H2 μ2 (x1.trans x2) rh2 hD0 nD eD ra⟩
        · cases e2
    · cases e
  · cases e
theorem le_lc {ifs : List Expr} {scope : Scope} {own : List (Str × Nat)} (hc : X.calm = true) (hN : X.N.Nodup) (hi : DI X tg iter fi) (ok : BlkOk X.N X.env.scope scope own)
    (hg : ∀ (s : Shared) (H : Hp) (C : Addr) (cl : List (Str × Addr)) (fp : List Addr), DG (X.blk s H scope (compEnvC scope cl C X.env) fp) tg t) (ht : ∀ (s : Shared) (H : Hp) (C : Addr) (cl : List (Str × Addr)) (fp : List Addr), DTs (X.blk s H scope (compEnvC scope cl C X.env) fp) ifs tt)
    (he : ∀ (s : Shared) (H : Hp) (C : Addr) (cl : List (Str × Addr)) (fp : List Addr), DE (X.blk s H scope (compEnvC scope cl C X.env) fp) elt te) (ho : ∀ i ∈ t.slots, i ∈ own.map (·.2) := by decide) (hs : ∀ x, foldedSetIterable iter X.env x = pure x := by intro _; rfl) :
    LE X (.ListComp elt [⟨tg, iter, ifs, 0⟩] scope pos) (mLc fi t (own.map (·.2)) tt te) :=
  PE.imp (pe_lc hc hN hi ok hg ht he hs) fun _ _ _ h => tLc_of ho h
theorem ds_setLc {i : Nat} {y : Str} {py spos : Pos} {scope : Scope} {own : List (Str × Nat)} (hc : X.calm = true) (hN : X.N.Nodup) (hy : X.N[i]? = some y) (hyl : X.env.scope.names.lookup y = some .local)
    (hsw : swapsWith (.ListComp elt [⟨tg, iter, ifs, 0⟩] scope pos) (some (.Name y py)) spos.line X.env = pure true) (hi : DI X tg iter fi) (ok : BlkOk X.N X.env.scope scope own)
    (hg : ∀ (s : Shared) (H : Hp) (C : Addr) (cl : List (Str × Addr)) (fp : List Addr), DG (X.blk s H scope (compEnvC scope cl C X.env) fp) tg t) (ht : ∀ (s : Shared) (H : Hp) (C : Addr) (cl : List (Str × Addr)) (fp : List Addr), DTs (X.blk s H scope (compEnvC scope cl C X.env) fp) ifs tt)
    (he : ∀ (s : Shared) (H : Hp) (C : Addr) (cl : List (Str × Addr)) (fp : List Addr), DE (X.blk s H scope (compEnvC scope cl C X.env) fp) elt te) (ho : ∀ i ∈ t.slots, i ∈ own.map (·.2) := by decide) (hs : ∀ x, foldedSetIterable iter X.env x = pure x := by intro _; rfl) :
    DS X (.Assign [.Name y py] (.ListComp elt [⟨tg, iter, ifs, 0⟩] scope pos) spos) (sSet i (mNew (mLc fi t (own.map (·.2)) tt te))) :=
  PS.imp (ps_setLc (g := gD X.K t) (tt := tT X.K tt) (te := tD X.K te) hc hN hy hyl hsw hi ok hg ht he hs) fun Dn σ H ⟨ls, hp, μ, fl, ls', hp', rl, rh, e, q⟩ => by
    refine tLc_of (K := X.K) (tt := tt) (te := te) ho ?_
    unfold sSet mNew at e
    cases e1 : mLc fi t (own.map (·.2)) tt te ls hp with
    | none => rw [e1] at e; cases e
    | some p1 =>
      obtain ⟨ds, hp1⟩ := p1
      rw [e1] at e
      cases e
      refine ⟨ls, hp, μ, ds, hp1, rl, rh, e1, fun a vs H1 μ1 x1 rh1 h0 hn hl r1 => ?_⟩
      refine q H1 (μ1 ++ [a]) (x1.place h0) (rh1.place hn ⟨vs, hl, r1.mon Mon.grow⟩) _ ((rl.ext (x1.place h0)).set ?_)
      rw [Rp]
      refine ⟨a, ?_, rfl⟩
      rw [List.getElem?_append_right (by rw [rh1.len]; exact Nat.le_refl _), rh1.len]
      simp
def spD (K : PySem.W.Frag) (n : Nat) (g : List D → Hd → Option (D × Hd)) : Sp := fun vs H Q _ => ∃ hp μ ds d hp', ds.length = n ∧ RelH K H μ hp ∧ Rps K H μ ds vs ∧ g ds hp = some (d, hp') ∧
  ∀ v H' μ', Ext μ H μ' H' → RelH K H' μ' hp' → Rp K H' μ' d v → Q v H'
def ar (n : Nat) (g : List D → Hd → Option (D × Hd)) : List D → Hd → Option (D × Hd) := fun ds hp => if ds.length = n then g ds hp else none
theorem de_call {k : Nat} {f : Addr} {fd : FuncData} {ps : List Str} {n : Nat} {g : List D → Hd → Option (D × Hd)} {x : Str} {p : Pos} (F : FnG X.prog X.w X.K X.mg X.base CX0 k f fd ps (spD X.K n g)) (hr : RoomG k X.A) (hg : Gl X x) (hm : X.mg x = some (.ref f)) (hk : PySem.W.keepIn X.K (.ref f) = true)
    (hb : Binds X.K fd ps []) (ha : DA X (e :: es) fr) (hdb : (x == ("__debug__" : Str)) = false := by decide) (he : starEach (e :: es) X.env = (false, eval e X.env) :: starEach es X.env := by rfl) (hpl : (backTo pos (starEach es X.env)).any (·.1) = false := by rfl) :
    DE X (.Call (.Name x p) (e :: es) [] pos) (mAs fr (ar n g)) :=
  PE.imp (pe_callG F hr hg hm hk hb .nil pass0 ha hdb he hpl) fun σ H Q h => by
    obtain ⟨ls, hp, μ, d, hp', rl, rh, e, q⟩ := h
    unfold mAs at e
    cases e1 : fr ls hp with
    | none => rw [e1] at e; cases e
    | some p1 =>
      obtain ⟨ds, hp1⟩ := p1
      rw [e1] at e
      simp only [ar] at e
      split at e
      · rename_i hn
        refine ⟨ls, hp, μ, ds, hp1, rl, rh, e1, fun vs H1 μ1 x1 rh1 r1 => ?_⟩
        show spD X.K n g (vs ++ []) H1 Q E0
        rw [List.append_nil]
        exact ⟨hp1, μ1, ds, d, hp', hn, rh1, r1, e, fun v H' μ' x2 rh2 r2 => q v H' μ' (x1.trans x2) rh2 r2⟩
      · cases e
def stD (n : Nat) (ds : List D) : Ls := ds.map some ++ List.replicate (n - ds.length) none
def mDef (n : Nat) (f : AS) : List D → Hd → Option (D × Hd) := fun ds hp => match f (stD n ds) hp with
  | some (.rt d, _, hp') => some (d, hp')
  | some (.nx, _, hp') => some (.non, hp')
  | _ => none
theorem Rps.get {K : PySem.W.Frag} {H : Hp} {μ : List Addr} : ∀ {ds : List D} {vs : List V} {i : Nat} {d : D}, Rps K H μ ds vs → ds[i]? = some d → ∃ v, vs[i]? = some v ∧ Rp K H μ d v
  | [], _, _, _, _, e => by simp at e
  | x :: xs, vs, i, d, h, e => by
    rw [Rps] at h
    obtain ⟨v, r, rfl, h1, h2⟩ := h
    cases i with
    | zero =>
      simp at e
      subst e
      exact ⟨v, rfl, h1⟩
    | succ i =>
      obtain ⟨w, e1, e2⟩ := Rps.get h2 (by simpa using e)
      exact ⟨w, by simpa using e1, e2⟩
theorem Rl.start {K : PySem.W.Frag} {H : Hp} {μ : List Addr} {N : List Str} {ds : List D} {vs : List V} (r : Rps K H μ ds vs) : Rl K H μ (stD N.length ds) (L2.start N vs) := by
  refine ⟨by simp [stD, L2.start, r.len], fun i d hd => ?_⟩
  unfold stD at hd
  by_cases hi : i < ds.length
  · rw [List.getElem?_append_left (by simpa using hi), List.getElem?_map] at hd
    cases hx : ds[i]? with
    | none => rw [hx] at hd; cases hd
    | some d' =>
      rw [hx] at hd
      cases hd
      obtain ⟨v, e1, r1⟩ := r.get hx
      refine ⟨v, ?_, r1⟩
      unfold L2.start
      rw [List.getElem?_append_left (by simpa [r.len] using hi), List.getElem?_map, e1]
      rfl
  · rw [List.getElem?_append_right (by simpa using hi)] at hd
    rw [List.getElem?_replicate] at hd
    split at hd <;> cases hd
theorem fn_def {P : Program} {w : World} {K : PySem.W.Frag} {mg : Str → Option Value} {base : Heap} {x qual : Str} {st : Stmt} {f : Addr} {fd : FuncData} {N ps : List Str} {k : Nat} {fb : AS} (F : Fun K x qual st f fd) (S : FnScope N ps (defScope st))
    (body : ∀ (cdv : Value) (A : Around) (outer : List Env) (s : Shared) (H : Hp) (E : XK), RoomG k (A.deeper (PyProof.Rows.envOfC qual (defScope st) s.heap.objs.size f cdv)) →
      DSs (cxOf CX0 P w K mg base N qual (defScope st) f cdv A outer s H E).nox (defBody st) fb) : FnG P w K mg base CX0 (k + 1) f fd ps (spD K ps.length (mDef N.length fb)) := by
  refine Fun.okG F S (fun vs H Q E h => ?_) (fun cdv A outer s H vs Q E hr h => ⟨_, body cdv A outer s H E hr, ?_⟩)
  · obtain ⟨hp, μ, ds, d, hp', hn, rh, r, e, q⟩ := h
    rw [r.len, hn]
  · obtain ⟨hp, μ, ds, d, hp', hn, rh, r, e, q⟩ := h
    show tS K fb _ _ _
    unfold mDef at e
    split at e
    · rename_i d' ls' hp1 e1
      cases e
      exact ⟨stD N.length ds, hp, μ, .rt d, ls', hp', Rl.start r, rh, e1, fun H' μ' x1 rh1 v rv => q v H' μ' x1 rh1 rv⟩
    · rename_i ls' hp1 e1
      cases e
      exact ⟨stD N.length ds, hp, μ, .nx, ls', hp', Rl.start r, rh, e1, fun H' μ' x1 rh1 σ' rl' => q .non H' μ' x1 rh1 Rp.non⟩
    · cases e
theorem Wk.range {K : PySem.W.Frag} {lo : Int} {n : Nat} {μ : List Addr} {H : Hp} : Wk K (Itr lo n) ((List.range n).map fun i => D.int (lo + (i : Nat))) [] μ H := by
  intro i H2 μ2 hp2 x2 rh2 _
  refine ⟨fun hi => ?_, fun hi => ⟨?_, fun x H3 hy => ?_⟩⟩
  · show n ≤ i
    simpa using hi
  · show i < n
    simpa using hi
  · obtain ⟨rfl, rfl⟩ := hy
    refine ⟨.int (lo + (i : Nat)), ?_, Ext.refl, rh2, Rp.int⟩
    have : i < n := by simpa using hi
    rw [List.getElem?_map, List.getElem?_range this]
    rfl
def mR1 (fr : AA) : AI := fun ls hp => match fr ls hp with
  | some ([.int j], hp1) => if -(2 ^ 62) ≤ j ∧ j < 2 ^ 62 then some ((List.range j.toNat).map fun i => D.int (i : Nat), [], hp1) else none
  | _ => none
def mR2 (fr : AA) : AI := fun ls hp => match fr ls hp with
  | some ([.int i, .int j], hp1) => if -(2 ^ 62) ≤ i ∧ i < 2 ^ 62 ∧ -(2 ^ 62) ≤ j ∧ j < 2 ^ 62 then some ((List.range (j - i).toNat).map fun k => D.int (i + (k : Nat)), [], hp1) else none
  | _ => none
theorem di_range1 {a : Expr} {p : Pos} (hg : Gl X "range") (hm : X.mg "range" = none) (ha : DA X [a] fr) (hs : starEach [a] X.env = [(false, eval a X.env)] := by rfl) : DI X tg (.Call (.Name "range" p) [a] [] pos) (mR1 fr) :=
  PI.imp (pi_range1 hg hm ha hs) fun σ H R ⟨ls, hp, μ, items, gd, hp', rl, rh, e, q⟩ => by
    unfold mR1 at e
    split at e
    · rename_i j hp1 e1
      split at e
      · rename_i hj
        cases e
        refine ⟨ls, hp, μ, [.int j], hp', rl, rh, e1, fun vs H' μ' x1 rh1 r1 => ?_⟩
        rw [Rps] at r1
        obtain ⟨v, r, rfl, r1, r2⟩ := r1
        rw [Rps] at r2
        subst r2
        refine ⟨j, by rw [r1.intE], hj.1, hj.2, q _ H' μ' x1 rh1 ?_⟩
        have := Wk.range (K := X.K) (lo := 0) (n := j.toNat) (μ := μ') (H := H')
        simpa using this
      · cases e
    · cases e
theorem di_range2 {a b : Expr} {p : Pos} (hg : Gl X "range") (hm : X.mg "range" = none) (ha : DA X [a, b] fr) (hs : starEach [a, b] X.env = [(false, eval a X.env), (false, eval b X.env)] := by rfl) (hs2 : starEach [b] X.env = [(false, eval b X.env)] := by rfl) : DI X tg (.Call (.Name "range" p) [a, b] [] pos) (mR2 fr) :=
  PI.imp (pi_range2 hg hm ha hs hs2) fun σ H R ⟨ls, hp, μ, items, gd, hp', rl, rh, e, q⟩ => by
    unfold mR2 at e
    split at e
    · rename_i i j hp1 e1
      split at e
      · rename_i hj
        cases e
        refine ⟨ls, hp, μ, [.int i, .int j], hp', rl, rh, e1, fun vs H' μ' x1 rh1 r1 => ?_⟩
        rw [Rps] at r1
        obtain ⟨v, r, rfl, r1, r2⟩ := r1
        rw [Rps] at r2
        obtain ⟨v2, r, rfl, r2, r3⟩ := r2
        rw [Rps] at r3
        subst r3
        exact ⟨i, j, by rw [r1.intE, r2.intE], hj, q _ H' μ' x1 rh1 Wk.range⟩
      · cases e
    · cases e
def mIL (f : AA) : AI := fun ls hp => match f ls hp with
  | some (ds, hp1) => some (ds, [], hp1)
  | none => none
theorem di_le {l : Expr} {f : AA} (h : LE X l f) : DI X tg l (mIL f) :=
  PI.imp (pi_list h) fun σ H R ⟨ls, hp, μ, items, gd, hp', rl, rh, e, q⟩ => by
    unfold mIL at e
    split at e
    · rename_i ds hp1 e1
      cases e
      refine ⟨ls, hp, μ, items, hp', rl, rh, e1, fun a vs H1 μ1 x1 rh1 h0 hn hl r1 => ⟨a, rfl, ⟨vs, .inl (.inl hl)⟩, q _ H1 μ1 x1 rh1 ?_⟩⟩
      intro i H2 μ2 hp2 x2 rh2 _
      have h2 : H2 a = some (.lst vs) := x2.keep _ _ hn hl
      have hlen := r1.len
      refine ⟨fun hi => ⟨vs, .inl (.inl h2), by omega⟩, fun hi => ?_⟩
      obtain ⟨v, ev, rv⟩ := r1.get (List.getElem?_eq_getElem hi)
      refine ⟨⟨vs, v, .inl (.inl h2), ev⟩, fun x H3 hy => ?_⟩
      obtain ⟨rfl, hx⟩ := hy
      have := hx vs (.inl (.inl h2))
      rw [ev] at this
      cases this
      exact ⟨_, List.getElem?_eq_getElem hi, Ext.refl, rh2, rv.ext x2⟩
    · cases e
def itOf : D → Hd → Option (List D × Gd)
  | .tup ds, _ => some (ds, [])
  | .wt ds, _ => some (ds, [])
  | .scr ns, _ => some (ns.map .int, [])
  | .str x, _ => some (x.cps.toList.map fun c => .str ⟨#[c]⟩, [])
  | .ref n, hp => match hp[n]? with
    | some (.lst xs) => some (xs, [(n, xs)])
    | _ => none
  | _, _ => none
def mIS (f : AE) : AI := fun ls hp => match f ls hp with
  | some (d, hp1) => match itOf d hp1 with
    | some (items, gd) => some (items, gd, hp1)
    | none => none
  | none => none
theorem RelH.lst {K : PySem.W.Frag} {H : Hp} {μ : List Addr} {hp : Hd} (r : RelH K H μ hp) {n : Nat} {a : Addr} {xs : List D} (h : μ[n]? = some a) (e : hp[n]? = some (.lst xs)) : ∃ vs, H a = some (.lst vs) ∧ Rps K H μ xs vs := by
  obtain ⟨a2, e2, vs, q1, q2⟩ := r.at_ e
  rw [h] at e2
  cases e2
  exact ⟨vs, q1, q2⟩
theorem gdOk_one {n : Nat} {xs : List D} {hp : Hd} (h : gdOk [(n, xs)] hp = true) : hp[n]? = some (.lst xs) := by
  simp only [gdOk, Bool.and_true] at h
  split at h
  · rename_i ys e
    rw [e, D.sames_eq _ _ h]
  · cases h
theorem di_seq {l : Expr} (h : DE X l fa) : DI X tg l (mIS fa) :=
  PI.imp (PI.or (PI.or (pi_list h) (pi_tup h)) (pi_str h)) fun σ H R ⟨ls, hp, μ, items, gd, hp', rl, rh, e, q⟩ => by
    unfold mIS at e
    split at e
    · rename_i d hp1 e1
      split at e
      · rename_i items' gd' e2
        cases e
        cases d <;> simp only [itOf] at e2 <;> try (cases e2; done)
        · rename_i x
          cases e2
          refine .inr ⟨ls, hp, μ, _, hp', rl, rh, e1, fun v H1 μ1 x1 rh1 r1 => ⟨x, r1.strE, q _ H1 μ1 x1 rh1 ?_⟩⟩
          intro i H2 μ2 hp2 x2 rh2 _
          refine ⟨fun hi => ?_, fun hi => ⟨?_, fun y H3 hy => ?_⟩⟩
          · show x.cps.size ≤ i
            simpa using hi
          · show i < x.cps.size
            simpa using hi
          · obtain ⟨rfl, c, ec, rfl⟩ := hy
            refine ⟨.str ⟨#[c]⟩, ?_, Ext.refl, rh2, Rp.str⟩
            rw [List.getElem?_map]
            simp [ec]
        · rename_i ds
          cases e2
          refine .inl (.inr ⟨ls, hp, μ, _, hp', rl, rh, e1, fun v H1 μ1 x1 rh1 r1 => ?_⟩)
          obtain ⟨a, vs, rfl, ta, ra⟩ := r1.tupE
          refine ⟨a, rfl, ⟨vs, ta.sq⟩, q _ H1 μ1 x1 rh1 ?_⟩
          intro i H2 μ2 hp2 x2 rh2 _
          have h2 : SqT X.K H2 a vs := (ta.ext x2).sq
          have hlen := ra.len
          refine ⟨fun hi => ⟨vs, h2, by omega⟩, fun hi => ?_⟩
          obtain ⟨v, ev, rv⟩ := ra.get (List.getElem?_eq_getElem hi)
          refine ⟨⟨vs, v, h2, ev⟩, fun x H3 hy => ?_⟩
          obtain ⟨rfl, hx⟩ := hy
          have := hx vs h2
          rw [ev] at this
          cases this
          exact ⟨_, List.getElem?_eq_getElem hi, Ext.refl, rh2, rv.ext x2⟩
        · rename_i n
          split at e2
          · rename_i xs e3
            cases e2
            refine .inl (.inl ⟨ls, hp, μ, _, hp', rl, rh, e1, fun v H1 μ1 x1 rh1 r1 => ?_⟩)
            obtain ⟨a, ea, rfl⟩ := r1.refE
            obtain ⟨vs, ev, _⟩ := rh1.lst ea e3
            refine ⟨a, rfl, ⟨vs, .inl (.inl ev)⟩, q _ H1 μ1 x1 rh1 ?_⟩
            intro i H2 μ2 hp2 x2 rh2 hg
            obtain ⟨vs2, ev2, ra⟩ := rh2.lst (x2.m.at_ ea) (gdOk_one hg)
            have hlen := ra.len
            refine ⟨fun hi => ⟨vs2, .inl (.inl ev2), by omega⟩, fun hi => ?_⟩
            obtain ⟨v, ev, rv⟩ := ra.get (List.getElem?_eq_getElem hi)
            refine ⟨⟨vs2, v, .inl (.inl ev2), ev⟩, fun x H3 hy => ?_⟩
            obtain ⟨rfl, hx⟩ := hy
            have := hx vs2 (.inl (.inl ev2))
            rw [ev] at this
            cases this
            exact ⟨_, List.getElem?_eq_getElem hi, Ext.refl, rh2, rv⟩
          · cases e2
        · rename_i ns
          cases e2
          refine .inl (.inl ⟨ls, hp, μ, _, hp', rl, rh, e1, fun v H1 μ1 x1 rh1 r1 => ?_⟩)
          obtain ⟨a, rfl, sa⟩ := r1.scrE
          refine ⟨a, rfl, ⟨_, sa.sq⟩, q _ H1 μ1 x1 rh1 ?_⟩
          intro i H2 μ2 hp2 x2 rh2 hg
          have h2 : SqL X.K H2 a (ns.map V.int) := (sa.mon x2.m).sq
          refine ⟨fun hi => ⟨_, h2, by simpa using hi⟩, fun hi => ?_⟩
          have hi' : i < ns.length := by simpa using hi
          refine ⟨⟨_, .int ns[i], h2, by simp [hi']⟩, fun x H3 hy => ?_⟩
          obtain ⟨rfl, hx⟩ := hy
          have := hx _ h2
          refine ⟨.int ns[i], by simp [hi'], Ext.refl, rh2, ?_⟩
          simp [hi'] at this
          subst this
          exact Rp.int
        · rename_i ds
          cases e2
          refine .inl (.inr ⟨ls, hp, μ, _, hp', rl, rh, e1, fun v H1 μ1 x1 rh1 r1 => ?_⟩)
          obtain ⟨a, vs, rfl, ta, ra⟩ := r1.wtE
          refine ⟨a, rfl, ⟨vs, ta.sq⟩, q _ H1 μ1 x1 rh1 ?_⟩
          intro i H2 μ2 hp2 x2 rh2 _
          have h2 : SqT X.K H2 a vs := (ta.mon x2.m).sq
          have hlen := ra.len
          refine ⟨fun hi => ⟨vs, h2, by omega⟩, fun hi => ?_⟩
          obtain ⟨v, ev, rv⟩ := ra.get (List.getElem?_eq_getElem hi)
          refine ⟨⟨vs, v, h2, ev⟩, fun x H3 hy => ?_⟩
          obtain ⟨rfl, hx⟩ := hy
          have := hx vs h2
          rw [ev] at this
          cases this
          exact ⟨_, List.getElem?_eq_getElem hi, Ext.refl, rh2, rv.ext x2⟩
      · cases e
    · cases e
end
end Ve
namespace Ve
open PySem PySem.Spec L2
theorem toKey_inj : ∀ {a b : D} {k : Key}, toKey a = some k → toKey b = some k → a = b := by
  intro a b k h1 h2
  cases a <;> simp only [toKey] at h1 <;> try (cases h1; done)
  · cases h1
    cases b <;> simp only [toKey] at h2 <;> try (cases h2; done)
    cases h2
    rfl
  · cases h1
    cases b <;> simp only [toKey] at h2 <;> try (cases h2; done)
    cases h2
    rfl
theorem toKeys_inj : ∀ {a b : List D} {k : List Key}, toKeys a = some k → toKeys b = some k → a = b
  | [], b, k, h1, h2 => by
    simp only [toKeys] at h1
    cases h1
    cases b with
    | nil => rfl
    | cons x xs =>
      simp only [toKeys] at h2
      split at h2 <;> cases h2
  | x :: xs, b, k, h1, h2 => by
    simp only [toKeys] at h1
    split at h1
    · rename_i k1 ks e1 e2
      cases h1
      cases b with
      | nil => simp [toKeys] at h2
      | cons y ys =>
        simp only [toKeys] at h2
        split at h2
        · rename_i k2 ks2 e3 e4
          cases h2
          rw [toKey_inj e1 e3, toKeys_inj e2 e4]
        · cases h2
    · cases h1
def look : List (D × D) → D → Option D
  | [], _ => none
  | (a, v) :: r, k => if D.same a k = true then some v else look r k
def putD : List (D × D) → D → D → List (D × D)
  | [], k, v => [(k, v)]
  | (a, x) :: r, k, v => if D.same a k = true then (a, v) :: r else (a, x) :: putD r k v
theorem same_iff {a b : D} : D.same a b = true ↔ a = b := ⟨D.same_eq a b, fun e => by rw [e]; exact D.same_self b⟩
section
variable {K : PySem.W.Frag} {H H' : Hp} {μ μ' : List Addr}
def RpO (K : PySem.W.Frag) (H : Hp) (μ : List Addr) : Option D → Option V → Prop
  | some d, some v => Rp K H μ d v
  | none, none => True
  | _, _ => False
theorem RpK.look {k : D} {k' : Key} (hk : toKey k = some k') : ∀ {kvs : List (D × D)} {vs : List (Key × V)}, RpK K H μ kvs vs → RpO K H μ (look kvs k) (valV vs k')
  | [], _, h => by
    rw [RpK] at h
    subst h
    exact True.intro
  | (a, v) :: r, _, h => by
    rw [RpK] at h
    obtain ⟨ka, w, rs, rfl, h1, h2, h3⟩ := h
    unfold Ve.look
    by_cases e : a = k
    · subst e
      rw [hk] at h1
      cases h1
      rw [if_pos (D.same_self a), valV_pos (p := (k', w)) rfl]
      exact h2
    · have e2 : ¬ ka = k' := fun z => e (toKey_inj h1 (by rw [hk, z]))
      rw [if_neg (fun z => e (same_iff.mp z)), valV_neg (p := (ka, w)) e2]
      exact RpK.look hk h3
theorem RpT.look {k : List D} {k' : List Key} (hk : toKeys k = some k') : ∀ {kvs : List (D × D)} {vs : List (List Key × V)}, RpT K H μ kvs vs → RpO K H μ (look kvs (.tup k)) (valV vs k')
  | [], _, h => by
    rw [RpT] at h
    subst h
    exact True.intro
  | (a, v) :: r, _, h => by
    rw [RpT] at h
    obtain ⟨ds, ka, w, rs, e0, rfl, h1, h2, h3⟩ := h
    have e0 : a = .tup ds := e0
    subst e0
    unfold Ve.look
    by_cases e : ds = k
    · subst e
      rw [hk] at h1
      cases h1
      rw [if_pos (D.same_self _), valV_pos (p := (k', w)) rfl]
      exact h2
    · have e2 : ¬ ka = k' := fun z => e (toKeys_inj h1 (by rw [hk, z]))
      rw [if_neg (fun z => e (D.tup.inj (same_iff.mp z))), valV_neg (p := (ka, w)) e2]
      exact RpT.look hk h3
theorem putK_cons {κ : Type} [DecidableEq κ] {a k : κ} {x v : V} {r : List (κ × V)} : putK ((a, x) :: r) k v = if a = k then (a, v) :: r.map (fun kv => if kv.1 = k then (kv.1, v) else kv) else (a, x) :: putK r k v := by
  unfold putK
  by_cases e : a = k
  · simp [e]
  · simp only [List.any_cons, e, decide_false, Bool.false_or, List.map_cons, if_neg, not_false_eq_true, ite_false]
    split <;> simp
theorem map_none {κ : Type} [DecidableEq κ] {k : κ} {v : V} : ∀ {r : List (κ × V)}, (∀ p ∈ r, p.1 ≠ k) → r.map (fun kv => if kv.1 = k then (kv.1, v) else kv) = r
  | [], _ => rfl
  | p :: r, h => by
    rw [List.map_cons, if_neg (h p List.mem_cons_self), map_none fun q hq => h q (List.mem_cons_of_mem _ hq)]
theorem RpK.keys : ∀ {kvs : List (D × D)} {vs : List (Key × V)}, RpK K H μ kvs vs → ∀ p ∈ vs, ∃ q ∈ kvs, toKey q.1 = some p.1
  | [], _, h, p, hp => by
    rw [RpK] at h
    subst h
    cases hp
  | x :: xs, _, h, p, hp => by
    rw [RpK] at h
    obtain ⟨ka, w, rs, rfl, h1, h2, h3⟩ := h
    rcases List.mem_cons.mp hp with e | e
    · subst e
      exact ⟨x, List.mem_cons_self, h1⟩
    · obtain ⟨q, hq, e2⟩ := RpK.keys h3 p e
      exact ⟨q, List.mem_cons_of_mem _ hq, e2⟩
theorem RpT.keys : ∀ {kvs : List (D × D)} {vs : List (List Key × V)}, RpT K H μ kvs vs → ∀ p ∈ vs, ∃ q ∈ kvs, ∃ ds, q.1 = .tup ds ∧ toKeys ds = some p.1
  | [], _, h, p, hp => by
    rw [RpT] at h
    subst h
    cases hp
  | x :: xs, _, h, p, hp => by
    rw [RpT] at h
    obtain ⟨ds, ka, w, rs, e0, rfl, h1, h2, h3⟩ := h
    rcases List.mem_cons.mp hp with e | e
    · subst e
      exact ⟨x, List.mem_cons_self, ds, e0, h1⟩
    · obtain ⟨q, hq, e2⟩ := RpT.keys h3 p e
      exact ⟨q, List.mem_cons_of_mem _ hq, e2⟩
theorem RpK.put {k d : D} {k' : Key} {v : V} (hk : toKey k = some k') (rv : Rp K H μ d v) : ∀ {kvs : List (D × D)} {vs : List (Key × V)}, KNd kvs → RpK K H μ kvs vs → RpK K H μ (putD kvs k d) (putK vs k' v)
  | [], _, _, h => by
    rw [RpK] at h
    subst h
    unfold putD
    rw [RpK]
    exact ⟨k', v, [], rfl, hk, rv, by rw [RpK]⟩
  | (a, x) :: r, _, nd, h => by
    rw [RpK] at h
    obtain ⟨ka, w, rs, rfl, h1, h2, h3⟩ := h
    have h1 : toKey a = some ka := h1
    unfold putD
    rw [putK_cons]
    by_cases e : a = k
    · subst e
      rw [hk] at h1
      cases h1
      rw [if_pos (D.same_self a), if_pos rfl, RpK, map_none]
      · exact ⟨k', v, rs, rfl, hk, rv, h3⟩
      · intro p hp z
        obtain ⟨q, hq, e2⟩ := RpK.keys h3 p hp
        rw [z] at e2
        exact nd.1 q hq (toKey_inj e2 hk)
    · rw [if_neg (fun z => e (same_iff.mp z)), if_neg (fun z => e (toKey_inj h1 (by rw [hk, z]))), RpK]
      exact ⟨ka, w, _, rfl, h1, h2, RpK.put hk rv nd.2 h3⟩
theorem RpT.put {k : List D} {d : D} {k' : List Key} {v : V} (hk : toKeys k = some k') (rv : Rp K H μ d v) : ∀ {kvs : List (D × D)} {vs : List (List Key × V)}, KNd kvs → RpT K H μ kvs vs → RpT K H μ (putD kvs (.tup k) d) (putK vs k' v)
  | [], _, _, h => by
    rw [RpT] at h
    subst h
    unfold putD
    rw [RpT]
    exact ⟨k, k', v, [], rfl, rfl, hk, rv, by rw [RpT]⟩
  | (a, x) :: r, _, nd, h => by
    rw [RpT] at h
    obtain ⟨ds, ka, w, rs, e0, rfl, h1, h2, h3⟩ := h
    have e0 : a = .tup ds := e0
    subst e0
    unfold putD
    rw [putK_cons]
    by_cases e : ds = k
    · subst e
      rw [hk] at h1
      cases h1
      rw [if_pos (D.same_self _), if_pos rfl, RpT, map_none]
      · exact ⟨ds, k', v, rs, rfl, rfl, hk, rv, h3⟩
      · intro p hp z
        obtain ⟨q, hq, ds2, e3, e2⟩ := RpT.keys h3 p hp
        rw [z] at e2
        exact nd.1 q hq (by rw [e3, toKeys_inj e2 hk])
    · rw [if_neg (fun z => e (D.tup.inj (same_iff.mp z))), if_neg (fun z => e (toKeys_inj h1 (by rw [hk, z]))), RpT]
      exact ⟨ds, ka, w, _, rfl, rfl, h1, h2, RpT.put hk rv nd.2 h3⟩
theorem putD_mem {k v : D} : ∀ {kvs : List (D × D)} {p : D × D}, p ∈ putD kvs k v → p = (k, v) ∨ p ∈ kvs ∨ (p.1 = k ∧ ∃ q ∈ kvs, q.1 = k)
  | [], p, h => by
    simp [putD] at h
    exact .inl h
  | (a, x) :: r, p, h => by
    unfold putD at h
    split at h
    · rename_i e
      have e := same_iff.mp e
      subst e
      rcases List.mem_cons.mp h with z | z
      · exact .inl z
      · exact .inr (.inl (List.mem_cons_of_mem _ z))
    · rcases List.mem_cons.mp h with z | z
      · exact .inr (.inl (by rw [z]; exact List.mem_cons_self))
      · rcases putD_mem z with z | z | ⟨z1, q, hq, z2⟩
        · exact .inl z
        · exact .inr (.inl (List.mem_cons_of_mem _ z))
        · exact .inr (.inr ⟨z1, q, List.mem_cons_of_mem _ hq, z2⟩)
theorem putD_key {k v : D} : ∀ {kvs : List (D × D)} {p : D × D}, p ∈ putD kvs k v → p.1 = k ∨ ∃ q ∈ kvs, q.1 = p.1 := fun h => by
  rcases putD_mem h with z | z | ⟨z1, _⟩
  · exact .inl (by rw [z])
  · exact .inr ⟨_, z, rfl⟩
  · exact .inl z1
theorem KNd.put {k v : D} : ∀ {kvs : List (D × D)}, KNd kvs → KNd (putD kvs k v)
  | [], _ => by
    unfold putD
    exact ⟨(fun q h => nomatch h), True.intro⟩
  | (a, x) :: r, nd => by
    unfold putD
    split
    · exact nd
    · rename_i e
      refine ⟨fun q hq z => ?_, KNd.put nd.2⟩
      rcases putD_key hq with w | ⟨q2, h2, w⟩
      · exact e (same_iff.mpr (by rw [← w, z]))
      · exact nd.1 q2 h2 (by rw [w, z])
theorem RpK.len : ∀ {kvs : List (D × D)} {vs : List (Key × V)}, RpK K H μ kvs vs → vs.length = kvs.length
  | [], _, h => by
    rw [RpK] at h
    subst h
    rfl
  | _ :: _, _, h => by
    rw [RpK] at h
    obtain ⟨ka, w, rs, rfl, h1, h2, h3⟩ := h
    rw [List.length_cons, List.length_cons, RpK.len h3]
theorem RpT.len : ∀ {kvs : List (D × D)} {vs : List (List Key × V)}, RpT K H μ kvs vs → vs.length = kvs.length
  | [], _, h => by
    rw [RpT] at h
    subst h
    rfl
  | _ :: _, _, h => by
    rw [RpT] at h
    obtain ⟨ds, ka, w, rs, e0, rfl, h1, h2, h3⟩ := h
    rw [List.length_cons, List.length_cons, RpT.len h3]
theorem Rp.keyV {k : D} {k' : Key} {v : V} (hk : toKey k = some k') (r : Rp K H μ k v) : v = kV k' := by
  cases k <;> simp only [toKey] at hk <;> try (cases hk; done)
  · cases hk
    exact r.intE
  · cases hk
    exact r.strE
theorem Rps.keysV : ∀ {ks : List D} {k' : List Key} {vs : List V}, toKeys ks = some k' → Rps K H μ ks vs → vs = k'.map kV
  | [], k', vs, hk, r => by
    simp only [toKeys] at hk
    cases hk
    rw [Rps] at r
    exact r
  | d :: ds, k', vs, hk, r => by
    simp only [toKeys] at hk
    split at hk
    · rename_i k ks e1 e2
      cases hk
      rw [Rps] at r
      obtain ⟨v, w, rfl, r1, r2⟩ := r
      rw [List.map_cons, r1.keyV e1, Rps.keysV e2 r2]
    · cases hk
end
section
variable {X : Cx} {pins : List (Addr × Obj)} {σ : St} {H : Hp} {s : Shared} {a : Addr}
theorem inv_dT (I : Inv X pins σ H s) (e : H a = some (.dK [])) : Inv X pins σ (upd H a (.dT [])) s := by
  obtain ⟨z, hd, vs, rel, o, es, ep, h1, h2, h3, h4, h5, h6⟩ := dk_of I.hok e
  have hv : vs = [] := by
    cases rel
    rfl
  subst hv
  have he : es.toList = [] := by
    generalize es.toList = l at h5
    cases h5
    rfl
  exact d_write (t' := s.toks) (h' := s.heap) I (by rw [e]; exact True.intro) ⟨rfl, fun _ _ => rfl⟩ ⟨o, h1⟩ ⟨Nat.zero_le _, hd, [], .nil, o, es, ep, h1, h2, h3, by rw [he]; rfl, by simp⟩
end
end Ve
namespace Ve
open PySem PySem.Spec L2
def dKind (kvs : List (D × D)) : D → Bool
  | .tup ks => (toKeys ks).isSome && (match kvs with
    | [] => true
    | (.tup _, _) :: _ => true
    | _ => false)
  | k => (toKey k).isSome && (match kvs with
    | [] => true
    | (.tup _, _) :: _ => false
    | _ => true)
section
variable {X : Cx} {pins : List (Addr × Obj)} {σ : St} {H : Hp} {s : Shared} {a : Addr} {μ : List Addr} {hp : Hd} {n : Nat}
theorem inv_dK (I : Inv X pins σ H s) (e : H a = some (.dT [])) : Inv X pins σ (upd H a (.dK [])) s := by
  obtain ⟨z, hd, xs, rel, o, es, ep, h1, h2, h3, h4, h5, h6⟩ := dt_of I.hok e
  have hv : xs = [] := by
    cases rel
    rfl
  subst hv
  have he : es.toList = [] := by
    first
      | exact h4
      | exact h5
  exact d_write (t' := s.toks) (h' := s.heap) I (by rw [e]; exact True.intro) ⟨rfl, fun _ _ => rfl⟩ ⟨o, h1⟩ ⟨Nat.zero_le _, hd, [], .nil, o, es, ep, h1, h2, h3, by
    have : es = #[] := by
      cases es
      simp at he
      subst he
      rfl
    subst this
    exact ⟨fun i hi => by simp at hi, by exact .nil, by simp⟩⟩
theorem RelH.dic (r : RelH X.K H μ hp) {kvs : List (D × D)} (h : μ[n]? = some a) (e : hp[n]? = some (.dic kvs)) : KNd kvs ∧ ((∃ vs, H a = some (.dK vs) ∧ RpK X.K H μ kvs vs) ∨ ∃ vs, H a = some (.dT vs) ∧ RpT X.K H μ kvs vs) := by
  obtain ⟨a2, e2, q⟩ := r.at_ e
  rw [h] at e2
  cases e2
  exact q
theorem RelH.dicL (r : RelH X.K H μ hp) {kvs : List (D × D)} (h : μ[n]? = some a) (e : hp[n]? = some (.dicL kvs)) : KNd kvs ∧ ((∃ o vs, H a = some (.frz o (.dK vs)) ∧ RpK X.K H μ kvs vs) ∨ ∃ o vs, H a = some (.frz o (.dT vs)) ∧ RpT X.K H μ kvs vs) := by
  obtain ⟨a2, e2, q⟩ := r.at_ e
  rw [h] at e2
  cases e2
  exact q
theorem set_same {α : Type} {l : List α} {n : Nat} {x : α} (h : l[n]? = some x) : l.set n x = l := by
  obtain ⟨hl, e⟩ := List.getElem?_eq_some_iff.mp h
  rw [← e]
  exact List.set_getElem_self hl
theorem dKind_leaf {kvs : List (D × D)} {k : D} (h : dKind kvs k = true) (nt : ∀ ks, k ≠ .tup ks) : ∃ k', toKey k = some k' := by
  cases k <;> simp only [dKind] at h <;> try (simp [toKey] at h; done)
  · exact ⟨_, rfl⟩
  · exact ⟨_, rfl⟩
  · exact absurd rfl (nt _)
theorem dKind_leaf2 {p : D × D} {r : List (D × D)} {k : D} (h : dKind (p :: r) k = true) (nt : ∀ ks, k ≠ .tup ks) : ∀ ks, p.1 ≠ .tup ks := by
  obtain ⟨a, b⟩ := p
  cases k <;> cases a <;> simp [dKind] at h ⊢ <;> exact absurd rfl (nt _)
theorem dKind_tup {kvs : List (D × D)} {ks : List D} (h : dKind kvs (.tup ks) = true) : (∃ k', toKeys ks = some k') ∧ ∀ p r, kvs = p :: r → ∃ ds, p.1 = .tup ds := by
  simp only [dKind, Bool.and_eq_true] at h
  refine ⟨Option.isSome_iff_exists.mp h.1, fun p r e => ?_⟩
  subst e
  obtain ⟨a, b⟩ := p
  cases a <;> simp at h ⊢
theorem RpK.tupNot {kvs : List (D × D)} {vs : List (Key × V)} {p : D × D} {r : List (D × D)} {ds : List D} (h : RpK X.K H μ kvs vs) (e : kvs = p :: r) (e2 : p.1 = .tup ds) : False := by
  subst e
  rw [RpK] at h
  obtain ⟨ka, w, rs, rfl, h1, h2, h3⟩ := h
  rw [e2] at h1
  simp [toKey] at h1
theorem RpT.leafNot {kvs : List (D × D)} {vs : List (List Key × V)} {p : D × D} {r : List (D × D)} (h : RpT X.K H μ kvs vs) (e : kvs = p :: r) (e2 : ∀ ks, p.1 ≠ .tup ks) : False := by
  subst e
  rw [RpT] at h
  obtain ⟨ds, ka, w, rs, e0, rfl, h1, h2, h3⟩ := h
  exact e2 _ e0
theorem dic_kind (I : Inv X pins σ H s) (rh : RelH X.K H μ hp) {kvs : List (D × D)} {k : D} (ha : μ[n]? = some a) (eh : hp[n]? = some (.dic kvs)) (hk : dKind kvs k = true) :
    ∃ H', Inv X pins σ H' s ∧ Ext μ H μ H' ∧ RelH X.K H' μ hp ∧ KNd kvs ∧ (((∀ ks, k ≠ .tup ks) ∧ ∃ vs, H' a = some (.dK vs) ∧ RpK X.K H' μ kvs vs) ∨ ((∃ ks, k = .tup ks) ∧ ∃ vs, H' a = some (.dT vs) ∧ RpT X.K H' μ kvs vs)) := by
  obtain ⟨nd, q⟩ := rh.dic ha eh
  by_cases hkt : ∃ ks, k = .tup ks
  · obtain ⟨ks, rfl⟩ := hkt
    obtain ⟨_, h2⟩ := dKind_tup hk
    rcases q with ⟨vs, e, r⟩ | ⟨vs, e, r⟩
    · cases kvs with
      | nil =>
        rw [RpK] at r
        subst r
        obtain ⟨r1, x1⟩ := rh.put (o := .dic []) (u := .dT []) ha ⟨True.intro, .inr ⟨[], rfl, by rw [RpT]⟩⟩
        rw [set_same eh] at r1
        exact ⟨_, inv_dT I e, x1, r1, nd, .inr ⟨⟨ks, rfl⟩, [], upd_same, by rw [RpT]⟩⟩
      | cons p kr =>
        obtain ⟨ds, e3⟩ := h2 p kr rfl
        exact (r.tupNot rfl e3).elim
    · exact ⟨H, I, Ext.refl, rh, nd, .inr ⟨⟨ks, rfl⟩, vs, e, r⟩⟩
  · have nt : ∀ ks, k ≠ .tup ks := fun ks e => hkt ⟨ks, e⟩
    rcases q with ⟨vs, e, r⟩ | ⟨vs, e, r⟩
    · exact ⟨H, I, Ext.refl, rh, nd, .inl ⟨nt, vs, e, r⟩⟩
    · cases kvs with
      | nil =>
        rw [RpT] at r
        subst r
        obtain ⟨r1, x1⟩ := rh.put (o := .dic []) (u := .dK []) ha ⟨True.intro, .inl ⟨[], rfl, by rw [RpK]⟩⟩
        rw [set_same eh] at r1
        exact ⟨_, inv_dK I e, x1, r1, nd, .inl ⟨nt, [], upd_same, by rw [RpK]⟩⟩
      | cons p kr => exact (r.leafNot rfl (dKind_leaf2 hk nt)).elim
def dicOf : O → Option (List (D × D))
  | .dic kvs => some kvs
  | .dicL kvs => if kvs.isEmpty then none else some kvs
  | _ => none
theorem dic_get (I : Inv X pins σ H s) (rh : RelH X.K H μ hp) {o : O} {kvs : List (D × D)} {k : D} {y : V} (ha : μ[n]? = some a) (eh : hp[n]? = some o) (eo : dicOf o = some kvs) (hk : dKind kvs k = true) (ry : Rp X.K H μ k y) :
    ∃ H' r, Inv X pins σ H' s ∧ Ext μ H μ H' ∧ RelH X.K H' μ hp ∧ DGet H' a y r ∧ RpO X.K H' μ (look kvs k) r := by
  cases o with
  | lst xs => simp [dicOf] at eo
  | dicN ks => simp [dicOf] at eo
  | dicM ks => simp [dicOf] at eo
  | ins c kvs => simp [dicOf] at eo
  | exc c => simp [dicOf] at eo
  | tab c => simp [dicOf] at eo
  | dic kvs' =>
    simp only [dicOf] at eo
    cases eo
    obtain ⟨H', I', x, rh', nd, q⟩ := dic_kind I rh ha eh hk
    rcases q with ⟨nt, vs, e, r⟩ | ⟨⟨ks, rfl⟩, vs, e, r⟩
    · obtain ⟨k', e1⟩ := dKind_leaf hk nt
      exact ⟨H', _, I', x, rh', .inl ⟨vs, k', .inl e, ry.keyV e1, rfl⟩, r.look e1⟩
    · obtain ⟨⟨k', e1⟩, _⟩ := dKind_tup hk
      obtain ⟨b, ws, rfl, hb, rs⟩ := (ry.ext x).tupE
      have := rs.keysV e1
      subst this
      exact ⟨H', _, I', x, rh', .inr ⟨vs, k', b, .inl e, rfl, hb, rfl⟩, r.look e1⟩
  | dicL kvs' =>
    simp only [dicOf] at eo
    split at eo
    · cases eo
    · rename_i ne
      cases eo
      obtain ⟨nd, q⟩ := rh.dicL ha eh
      cases kvs with
      | nil => exact absurd rfl ne
      | cons p kr =>
        by_cases hkt : ∃ ks, k = .tup ks
        · obtain ⟨ks, rfl⟩ := hkt
          obtain ⟨⟨k', e1⟩, h2⟩ := dKind_tup hk
          rcases q with ⟨o, vs, e, r⟩ | ⟨o, vs, e, r⟩
          · obtain ⟨ds, e3⟩ := h2 p kr rfl
            exact (r.tupNot rfl e3).elim
          · obtain ⟨b, ws, rfl, hb, rs⟩ := ry.tupE
            have := rs.keysV e1
            subst this
            exact ⟨H, _, I, Ext.refl, rh, .inr ⟨vs, k', b, .inr ⟨o, e⟩, rfl, hb, rfl⟩, r.look e1⟩
        · have nt : ∀ ks, k ≠ .tup ks := fun ks e => hkt ⟨ks, e⟩
          obtain ⟨k', e1⟩ := dKind_leaf hk nt
          rcases q with ⟨o, vs, e, r⟩ | ⟨o, vs, e, r⟩
          · exact ⟨H, _, I, Ext.refl, rh, .inl ⟨vs, k', .inr ⟨o, e⟩, ry.keyV e1, rfl⟩, r.look e1⟩
          · exact (r.leafNot rfl (dKind_leaf2 hk nt)).elim
end
def inL (hp : Hd) (x : D) (ys : List D) : Option Bool := match pyF hp 16 x, mapO (pyF hp 15) ys with
  | some d, some ds => if (SeqAt.shaped d && SeqAt.shaped (.list ds)) = true then some (ds.any fun z => PyData.eqv z d) else none
  | _, _ => none
def flatD : D → Bool
  | .non => true
  | .bl _ => true
  | .int _ => true
  | .str _ => true
  | _ => false
def eqF : D → D → Bool
  | .non, .non => true
  | .bl a, .bl b => a == b
  | .bl a, .int b => (if a then 1 else 0) == b
  | .int a, .bl b => a == (if b then 1 else 0)
  | .int a, .int b => a == b
  | .str a, .str b => a == b
  | _, _ => false
def inB (x y : D) (hp : Hd) : Option Bool := match y with
  | .ref n => match hp[n]? with
    | some (.lst ys) => inL hp x ys
    | some o => match dicOf o with
      | some kvs => if dKind kvs x = true then some (look kvs x).isSome else none
      | none => none
    | none => none
  | .tup ys => if (flatD x && ys.all flatD) = true then some (ys.any fun z => eqF z x) else inL hp x ys
  | .wt ys => inL hp x ys
  | .str z => match x with
    | .str c => some (!(Builtin.Str.occurrences z c 0 z.length 1).isEmpty)
    | _ => none
  | _ => none
def gIn (x y : D) (hp : Hd) : Option (D × Hd) := match inB x y hp with
  | some b => some (.bl b, hp)
  | none => none
def gNotIn (x y : D) (hp : Hd) : Option (D × Hd) := match inB x y hp with
  | some b => some (.bl (!b), hp)
  | none => none
section
variable {X : Cx}
theorem Rp.flat {K : PySem.W.Frag} {H : Hp} {μ : List Addr} {d : D} {v : V} (f : flatD d = true) (r : Rp K H μ d v) : flatV v = true ∧ ∀ e w, flatD e = true → Rp K H μ e w → eqV v w = eqF d e := by
  cases d <;> simp only [flatD] at f <;> try (cases f; done)
  · cases r.nonE
    refine ⟨rfl, fun e w fe re => ?_⟩
    cases e <;> simp only [flatD] at fe <;> try (cases fe; done)
    · cases re.nonE; rfl
    · cases re.blE; rfl
    · cases re.intE; rfl
    · cases re.strE; rfl
  · cases r.blE
    refine ⟨rfl, fun e w fe re => ?_⟩
    cases e <;> simp only [flatD] at fe <;> try (cases fe; done)
    · cases re.nonE; rfl
    · cases re.blE; rfl
    · cases re.intE; rfl
    · cases re.strE; rfl
  · cases r.intE
    refine ⟨rfl, fun e w fe re => ?_⟩
    cases e <;> simp only [flatD] at fe <;> try (cases fe; done)
    · cases re.nonE; rfl
    · cases re.blE; rfl
    · cases re.intE; rfl
    · cases re.strE; rfl
  · cases r.strE
    refine ⟨rfl, fun e w fe re => ?_⟩
    cases e <;> simp only [flatD] at fe <;> try (cases fe; done)
    · cases re.nonE; rfl
    · cases re.blE; rfl
    · cases re.intE; rfl
    · cases re.strE; rfl
theorem Rps.flats {K : PySem.W.Frag} {H : Hp} {μ : List Addr} {e : D} {w : V} (fe : flatD e = true) (re : Rp K H μ e w) : ∀ {ds : List D} {vs : List V}, ds.all flatD = true → Rps K H μ ds vs → vs.all flatV = true ∧ (vs.any fun y => eqV y w) = ds.any fun z => eqF z e
  | [], vs, _, r => by
    rw [Rps] at r
    subst r
    exact ⟨rfl, rfl⟩
  | d :: ds, vs, f, r => by
    rw [Rps] at r
    obtain ⟨v, x, rfl, r1, r2⟩ := r
    rw [List.all_cons, Bool.and_eq_true] at f
    obtain ⟨h1, h2⟩ := r1.flat f.1
    obtain ⟨h3, h4⟩ := Rps.flats fe re f.2 r2
    exact ⟨by rw [List.all_cons, h1, h3]; rfl, by rw [List.any_cons, List.any_cons, h4, h2 e w fe re]⟩
theorem dpAll_of {K : PySem.W.Frag} {H : Hp} {μ : List Addr} {hp : Hd} (rh : RelH K H μ hp) {n : Nat} : ∀ (ds : List D) (ps : List PyData) (vs : List V), mapO (pyF hp n) ds = some ps → Rps K H μ ds vs → DpAll K H vs ps
  | [], ps, vs, h, r => by
    rw [Rps] at r
    simp only [mapO] at h
    cases h
    subst r
    exact .nil
  | d :: ds, ps, vs, h, r => by
    rw [Rps] at r
    obtain ⟨v, w, e, r1, r2⟩ := r
    subst e
    simp only [mapO] at h
    split at h
    · rename_i y ys e1 e2
      cases h
      exact .cons (pyF_dp rh n d y v e1 r1) (dpAll_of rh _ _ _ e2 r2)
    · cases h
theorem inL_some {hp : Hd} {x : D} {ys : List D} {b : Bool} (h : inL hp x ys = some b) : ∃ d ds, pyF hp 16 x = some d ∧ mapO (pyF hp 15) ys = some ds ∧ SeqAt.shaped d = true ∧ SeqAt.shaped (.list ds) = true ∧ b = ds.any fun z => PyData.eqv z d := by
  unfold inL at h
  split at h
  · rename_i d ds e1 e2
    split at h
    · rename_i hs
      rw [Bool.and_eq_true] at hs
      cases h
      exact ⟨d, ds, e1, e2, hs.1, hs.2, rfl⟩
    · cases h
  · cases h
theorem o_in (hu : X.A.units + 65 < cLine) : OpR X (compareOp .In) (RD X.K gIn) := fun pins s σ H x y v u Q I rx ry ⟨hp, μ, d1, d2, d, hp', rh, r1, r2, e, q⟩ => by
  unfold gIn at e
  split at e
  · rename_i b eb
    cases e
    unfold inB at eb
    split at eb
    · rename_i n
      obtain ⟨a, ea, rfl⟩ := r2.refE
      split at eb
      · rename_i ys e2
        obtain ⟨d, ds, e3, e4, s1, s2, rfl⟩ := inL_some eb
        obtain ⟨vs, ev, rv⟩ := rh.lst ea e2
        exact op_inD hu pins s σ H x _ v u Q I rx ry ⟨d, ds, pyF_dp rh _ _ _ _ e3 r1, .lst (.inl (.inl ev)) (dpAll_of rh _ _ _ e4 rv), s1, s2, q _ H μ Ext.refl rh Rp.bl⟩
      · rename_i o e2
        split at eb
        · rename_i kvs eo
          split at eb
          · rename_i hk
            cases eb
            obtain ⟨H', r, I', x', rh', g, ro⟩ := dic_get I rh ea e2 eo hk r1
            obtain rfl : u = Value.ref a := ry
            refine d_in (by omega) I' g rx fun s' I2 => ?_
            have hr : r.isSome = (look kvs d1).isSome := by
              cases h1 : look kvs d1 <;> cases h2 : r <;> rw [h1, h2] at ro <;> first | rfl | exact ro.elim
            rw [hr]
            exact ⟨.bl _, H', I2, rfl, q _ H' μ x' rh' Rp.bl⟩
          · cases eb
        · cases eb
      · cases eb
    · rename_i ys
      split at eb
      · rename_i hf
        rw [Bool.and_eq_true] at hf
        cases eb
        obtain ⟨a, vs, rfl, ta, ra⟩ := r2.tupE
        obtain ⟨f1, _⟩ := r1.flat hf.1
        obtain ⟨f2, f3⟩ := Rps.flats hf.1 r1 hf.2 ra
        refine op_in_seq pins s σ H x _ v u Q I rx ry ⟨a, vs, rfl, .inr ta.sq, f1, f2, ?_⟩
        rw [if_neg (by decide)]
        unfold inV
        rw [f3]
        exact q _ H μ Ext.refl rh Rp.bl
      · obtain ⟨d, ds, e3, e4, s1, s2, rfl⟩ := inL_some eb
        obtain ⟨a, vs, rfl, ta, ra⟩ := r2.tupE
        have dp2 : Dp X.K H (.ref a) (.tuple ds) := .tup ta.sq (dpAll_of rh _ _ _ e4 ra)
        obtain ⟨as, q1⟩ := Dp.reads I d x v (pyF_dp rh _ _ _ _ e3 r1) rx
        obtain ⟨bs, q2⟩ := Dp.reads I (.tuple ds) _ u dp2 ry
        exact SeqAt.in_tuple_reads q2 q1 (SeqAt.canLay_of_shaped s2) (SeqAt.canLay_of_shaped s1) (PyProof.Rows.room_in_shaped s1 hu) ⟨.bl _, H, I, rfl, q _ H μ Ext.refl rh Rp.bl⟩
    · rename_i ys
      obtain ⟨d, ds, e3, e4, s1, s2, rfl⟩ := inL_some eb
      obtain ⟨a, vs, rfl, ta, ra⟩ := r2.wtE
      have dp2 : Dp X.K H (.ref a) (.tuple ds) := .tup ta.sq (dpAll_of rh _ _ _ e4 ra)
      obtain ⟨as, q1⟩ := Dp.reads I d x v (pyF_dp rh _ _ _ _ e3 r1) rx
      obtain ⟨bs, q2⟩ := Dp.reads I (.tuple ds) _ u dp2 ry
      exact SeqAt.in_tuple_reads q2 q1 (SeqAt.canLay_of_shaped s2) (SeqAt.canLay_of_shaped s1) (PyProof.Rows.room_in_shaped s1 hu) ⟨.bl _, H, I, rfl, q _ H μ Ext.refl rh Rp.bl⟩
    · rename_i z
      split at eb
      · rename_i c
        cases eb
        exact op_in_str pins s σ H x y v u Q I rx ry ⟨_, _, r1.strE, r2.strE, q _ H μ Ext.refl rh Rp.bl⟩
      · cases eb
    · cases eb
  · cases e
theorem o_notIn (hu : X.A.units + 65 < cLine) : OpR X (compareOp .NotIn) (RD X.K gNotIn) := fun pins s σ H x y v u Q I rx ry ⟨hp, μ, d1, d2, d, hp', rh, r1, r2, e, q⟩ => by
  unfold gNotIn at e
  split at e
  · rename_i b eb
    cases e
    unfold inB at eb
    split at eb
    · rename_i n
      obtain ⟨a, ea, rfl⟩ := r2.refE
      split at eb
      · rename_i ys e2
        obtain ⟨d, ds, e3, e4, s1, s2, rfl⟩ := inL_some eb
        obtain ⟨vs, ev, rv⟩ := rh.lst ea e2
        exact op_notInD hu pins s σ H x _ v u Q I rx ry ⟨d, ds, pyF_dp rh _ _ _ _ e3 r1, .lst (.inl (.inl ev)) (dpAll_of rh _ _ _ e4 rv), s1, s2, q _ H μ Ext.refl rh Rp.bl⟩
      · rename_i o e2
        split at eb
        · rename_i kvs eo
          split at eb
          · rename_i hk
            cases eb
            obtain ⟨H', r, I', x', rh', g, ro⟩ := dic_get I rh ea e2 eo hk r1
            obtain rfl : u = Value.ref a := ry
            refine d_notIn (by omega) I' g rx fun s' I2 => ?_
            have hr : r.isSome = (look kvs d1).isSome := by
              cases h1 : look kvs d1 <;> cases h2 : r <;> rw [h1, h2] at ro <;> first | rfl | exact ro.elim
            rw [hr]
            exact ⟨.bl _, H', I2, rfl, q _ H' μ x' rh' Rp.bl⟩
          · cases eb
        · cases eb
      · cases eb
    · rename_i ys
      split at eb
      · rename_i hf
        rw [Bool.and_eq_true] at hf
        cases eb
        obtain ⟨a, vs, rfl, ta, ra⟩ := r2.tupE
        obtain ⟨f1, _⟩ := r1.flat hf.1
        obtain ⟨f2, f3⟩ := Rps.flats hf.1 r1 hf.2 ra
        refine op_notIn_seq pins s σ H x _ v u Q I rx ry ⟨a, vs, rfl, .inr ta.sq, f1, f2, ?_⟩
        rw [if_pos rfl]
        unfold inV
        rw [f3]
        exact q _ H μ Ext.refl rh Rp.bl
      · obtain ⟨d, ds, e3, e4, s1, s2, rfl⟩ := inL_some eb
        obtain ⟨a, vs, rfl, ta, ra⟩ := r2.tupE
        have dp2 : Dp X.K H (.ref a) (.tuple ds) := .tup ta.sq (dpAll_of rh _ _ _ e4 ra)
        obtain ⟨as, q1⟩ := Dp.reads I d x v (pyF_dp rh _ _ _ _ e3 r1) rx
        obtain ⟨bs, q2⟩ := Dp.reads I (.tuple ds) _ u dp2 ry
        exact SeqAt.notIn_tuple_reads q2 q1 (SeqAt.canLay_of_shaped s2) (SeqAt.canLay_of_shaped s1) (PyProof.Rows.room_in_shaped s1 hu) ⟨.bl _, H, I, rfl, q _ H μ Ext.refl rh Rp.bl⟩
    · rename_i ys
      obtain ⟨d, ds, e3, e4, s1, s2, rfl⟩ := inL_some eb
      obtain ⟨a, vs, rfl, ta, ra⟩ := r2.wtE
      have dp2 : Dp X.K H (.ref a) (.tuple ds) := .tup ta.sq (dpAll_of rh _ _ _ e4 ra)
      obtain ⟨as, q1⟩ := Dp.reads I d x v (pyF_dp rh _ _ _ _ e3 r1) rx
      obtain ⟨bs, q2⟩ := Dp.reads I (.tuple ds) _ u dp2 ry
      exact SeqAt.notIn_tuple_reads q2 q1 (SeqAt.canLay_of_shaped s2) (SeqAt.canLay_of_shaped s1) (PyProof.Rows.room_in_shaped s1 hu) ⟨.bl _, H, I, rfl, q _ H μ Ext.refl rh Rp.bl⟩
    · rename_i z
      split at eb
      · rename_i c
        cases eb
        exact op_notin_str pins s σ H x y v u Q I rx ry ⟨_, _, r1.strE, r2.strE, q _ H μ Ext.refl rh Rp.bl⟩
      · cases eb
    · cases eb
  · cases e
end
end Ve
namespace Ve
open PySem PySem.Spec L2
theorem PE.or {X : Cx} {e : Expr} {t t' : TE} (h : PE X e t) (h' : PE X e t') : PE X e (fun σ H Q => t σ H Q ∨ t' σ H Q) := ⟨fun pins s σ H Q I q => q.elim (h.run pins s σ H Q I) (h'.run pins s σ H Q I)⟩
def gIx (x y : D) (hp : Hd) : Option (D × Hd) := match x with
  | .tup ds => match y with
    | .int i => match atI ds i with
      | some d => some (d, hp)
      | none => none
    | _ => none
  | .wt ds => match y with
    | .int i => match atI ds i with
      | some d => some (d, hp)
      | none => none
    | _ => none
  | .scr ns => match y with
    | .int i => match atI ns i with
      | some d => some (.int d, hp)
      | none => none
    | _ => none
  | .str z => match y with
    | .int i => if z.length ≤ sizeLine then match atI z.cps.toList i with
      | some c => some (.str ⟨#[c]⟩, hp)
      | none => none else none
    | _ => none
  | .ref n => match hp[n]? with
    | some (.lst ds) => match y with
      | .int i => match atI ds i with
        | some d => some (d, hp)
        | none => none
      | _ => none
    | some o => match dicOf o with
      | some kvs => if dKind kvs y = true then match look kvs y with
        | some d => some (d, hp)
        | none => none else none
      | none => none
    | none => none
  | _ => none
theorem atI_rps {K : PySem.W.Frag} {H : Hp} {μ : List Addr} {ds : List D} {vs : List V} {i : Int} {d : D} (r : Rps K H μ ds vs) (h : atI ds i = some d) : ∃ v, atI vs i = some v ∧ Rp K H μ d v := by
  unfold atI at h ⊢
  rw [r.len]
  cases e : ixN ds.length i with
  | none => rw [e] at h; cases h
  | some j =>
    rw [e] at h
    obtain ⟨v, e2, r2⟩ := r.get h
    exact ⟨v, e2, r2⟩
theorem atI_map {α β : Type} (f : α → β) {xs : List α} {i : Int} {x : α} (h : atI xs i = some x) : atI (xs.map f) i = some (f x) := by
  unfold atI at h ⊢
  rw [List.length_map]
  cases e : ixN xs.length i with
  | none => rw [e] at h; cases h
  | some j =>
    rw [e] at h
    show (xs.map f)[j]? = _
    rw [List.getElem?_map, show xs[j]? = some x from h]
    rfl
section
variable {X : Cx} {e a b : Expr} {es : List Expr} {fa fb : AE} {fl : AA} {ft : AT} {fr : AA} {pos : Pos}
theorem m2_some {g : D → D → Hd → Option (D × Hd)} {ls : Ls} {hp hp' : Hd} {d : D} (h : m2 fa fb g ls hp = some (d, hp')) : ∃ d1 hp1 d2 hp2, fa ls hp = some (d1, hp1) ∧ fb ls hp1 = some (d2, hp2) ∧ g d1 d2 hp2 = some (d, hp') := by
  unfold m2 at h
  cases e1 : fa ls hp with
  | none => rw [e1] at h; cases h
  | some p1 =>
    obtain ⟨d1, hp1⟩ := p1
    rw [e1] at h
    dsimp only at h
    cases e2 : fb ls hp1 with
    | none => rw [e2] at h; cases h
    | some p2 =>
      obtain ⟨d2, hp2⟩ := p2
      rw [e2] at h
      exact ⟨d1, hp1, d2, hp2, rfl, e2, h⟩
theorem de_ix (hu : X.A.units + 1 < cLine) (ha : DE X a fa) (hb : DE X b fb) (hs : PlainIx b := by intro _ _; rfl) : DE X (.Subscript a b pos) (m2 fa fb gIx) :=
  PE.imp (PE.or (pe_ix ix_seq ha hb hs) (pe_dget hu ha hb hs)) fun σ H Q ⟨ls, hp, μ, d, hp', rl, rh, e, q⟩ => by
    obtain ⟨d1, hp1, d2, hp2, e1, e2, e3⟩ := m2_some e
    unfold gIx at e3
    cases d1 <;> try (cases e3; done)
    · rename_i z
      dsimp only at e3
      cases d2 <;> try (cases e3; done)
      rename_i i
      dsimp only at e3
      split at e3
      · rename_i hz
        split at e3
        · rename_i c ec
          cases e3
          refine .inl ⟨ls, hp, μ, _, hp1, rl, rh, e1, fun v1 H1 μ1 x1 rh1 r1 => ⟨ls, hp1, μ1, _, _, rl.ext x1, rh1, e2, fun v2 H2 μ2 x2 rh2 r2 => .inr (.inr ⟨z, i, c, r1.strE, r2.intE, hz, ec, q _ H2 μ2 (x1.trans x2) rh2 Rp.str⟩)⟩⟩
        · cases e3
      · cases e3
    · rename_i ds
      dsimp only at e3
      cases d2 <;> try (cases e3; done)
      rename_i i
      dsimp only at e3
      split at e3
      · rename_i d' ed
        cases e3
        refine .inl ⟨ls, hp, μ, _, hp1, rl, rh, e1, fun v1 H1 μ1 x1 rh1 r1 => ⟨ls, hp1, μ1, _, _, rl.ext x1, rh1, e2, fun v2 H2 μ2 x2 rh2 r2 => ?_⟩⟩
        obtain ⟨p, vs, rfl, t, rs⟩ := (r1.ext x2).tupE
        obtain ⟨v, ev, rv⟩ := atI_rps rs ed
        exact .inr (.inl ⟨p, vs, i, v, rfl, r2.intE, t.sq, ev, q _ H2 μ2 (x1.trans x2) rh2 rv⟩)
      · cases e3
    · rename_i n
      dsimp only at e3
      split at e3
      · rename_i ds eh
        cases d2 <;> try (cases e3; done)
        rename_i i
        dsimp only at e3
        split at e3
        · rename_i d' ed
          cases e3
          refine .inl ⟨ls, hp, μ, _, hp1, rl, rh, e1, fun v1 H1 μ1 x1 rh1 r1 => ⟨ls, hp1, μ1, _, _, rl.ext x1, rh1, e2, fun v2 H2 μ2 x2 rh2 r2 => ?_⟩⟩
          obtain ⟨p, ep, rfl⟩ := (r1.ext x2).refE
          obtain ⟨vs, evs, rs⟩ := rh2.lst ep eh
          obtain ⟨v, ev, rv⟩ := atI_rps rs ed
          exact .inl ⟨p, vs, i, v, rfl, r2.intE, .inl (.inl evs), ev, q _ H2 μ2 (x1.trans x2) rh2 rv⟩
        · cases e3
      · rename_i o _ eh
        split at e3
        · rename_i kvs eo
          split at e3
          · rename_i hk
            split at e3
            · rename_i d' ed
              cases e3
              refine .inr ⟨ls, hp, μ, _, hp1, rl, rh, e1, fun v1 H1 μ1 x1 rh1 r1 => ⟨ls, hp1, μ1, _, _, rl.ext x1, rh1, e2, fun v2 H2 μ2 x2 rh2 r2 => ?_⟩⟩
              obtain ⟨p, ep, rfl⟩ := (r1.ext x2).refE
              have ne : kvs ≠ [] := fun z => by
                subst z
                simp [look] at ed
              have key : ∃ v, DGet H2 p v2 (some v) ∧ Rp X.K H2 μ2 d v := by
                cases o with
                | lst xs => simp [dicOf] at eo
                | dicN ks => simp [dicOf] at eo
                | dicM ks => simp [dicOf] at eo
                | ins c kvs => simp [dicOf] at eo
                | exc c => simp [dicOf] at eo
                | tab c => simp [dicOf] at eo
                | dic kvs' =>
                  simp only [dicOf] at eo
                  cases eo
                  obtain ⟨nd, qd⟩ := rh2.dic ep eh
                  cases kvs with
                  | nil => exact absurd rfl ne
                  | cons pr kr =>
                    by_cases hkt : ∃ ks, d2 = .tup ks
                    · obtain ⟨ks, rfl⟩ := hkt
                      obtain ⟨⟨k', ek⟩, h2⟩ := dKind_tup hk
                      rcases qd with ⟨vs, ev, r⟩ | ⟨vs, ev, r⟩
                      · obtain ⟨ds, e5⟩ := h2 pr kr rfl
                        exact (r.tupNot rfl e5).elim
                      · obtain ⟨b, ws, rfl, hb, rs⟩ := r2.tupE
                        have := rs.keysV ek
                        subst this
                        have ro := r.look ek
                        rw [ed] at ro
                        cases h : valV vs k' with
                        | none => rw [h] at ro; exact ro.elim
                        | some v =>
                          rw [h] at ro
                          exact ⟨v, .inr ⟨vs, k', b, .inl ev, rfl, hb, h.symm⟩, ro⟩
                    · have nt : ∀ ks, d2 ≠ .tup ks := fun ks z => hkt ⟨ks, z⟩
                      obtain ⟨k', ek⟩ := dKind_leaf hk nt
                      rcases qd with ⟨vs, ev, r⟩ | ⟨vs, ev, r⟩
                      · have ro := r.look ek
                        rw [ed] at ro
                        cases h : valV vs k' with
                        | none => rw [h] at ro; exact ro.elim
                        | some v =>
                          rw [h] at ro
                          exact ⟨v, .inl ⟨vs, k', .inl ev, r2.keyV ek, h.symm⟩, ro⟩
                      · exact (r.leafNot rfl (dKind_leaf2 hk nt)).elim
                | dicL kvs' =>
                  simp only [dicOf] at eo
                  split at eo
                  · cases eo
                  · cases eo
                    obtain ⟨nd, qd⟩ := rh2.dicL ep eh
                    cases kvs with
                    | nil => exact absurd rfl ne
                    | cons pr kr =>
                      by_cases hkt : ∃ ks, d2 = .tup ks
                      · obtain ⟨ks, rfl⟩ := hkt
                        obtain ⟨⟨k', ek⟩, h2⟩ := dKind_tup hk
                        rcases qd with ⟨ob, vs, ev, r⟩ | ⟨ob, vs, ev, r⟩
                        · obtain ⟨ds, e5⟩ := h2 pr kr rfl
                          exact (r.tupNot rfl e5).elim
                        · obtain ⟨b, ws, rfl, hb, rs⟩ := r2.tupE
                          have := rs.keysV ek
                          subst this
                          have ro := r.look ek
                          rw [ed] at ro
                          cases h : valV vs k' with
                          | none => rw [h] at ro; exact ro.elim
                          | some v =>
                            rw [h] at ro
                            exact ⟨v, .inr ⟨vs, k', b, .inr ⟨ob, ev⟩, rfl, hb, h.symm⟩, ro⟩
                      · have nt : ∀ ks, d2 ≠ .tup ks := fun ks z => hkt ⟨ks, z⟩
                        obtain ⟨k', ek⟩ := dKind_leaf hk nt
                        rcases qd with ⟨ob, vs, ev, r⟩ | ⟨ob, vs, ev, r⟩
                        · have ro := r.look ek
                          rw [ed] at ro
                          cases h : valV vs k' with
                          | none => rw [h] at ro; exact ro.elim
                          | some v =>
                            rw [h] at ro
                            exact ⟨v, .inl ⟨vs, k', .inr ⟨ob, ev⟩, r2.keyV ek, h.symm⟩, ro⟩
                        · exact (r.leafNot rfl (dKind_leaf2 hk nt)).elim
              obtain ⟨v, g, rv⟩ := key
              exact ⟨p, v, rfl, g, q v H2 μ2 (x1.trans x2) rh2 rv⟩
            · cases e3
          · cases e3
        · cases e3
      · cases e3
    · rename_i ns
      dsimp only at e3
      cases d2 <;> try (cases e3; done)
      rename_i i
      dsimp only at e3
      split at e3
      · rename_i d' ed
        cases e3
        refine .inl ⟨ls, hp, μ, _, hp1, rl, rh, e1, fun v1 H1 μ1 x1 rh1 r1 => ⟨ls, hp1, μ1, _, _, rl.ext x1, rh1, e2, fun v2 H2 μ2 x2 rh2 r2 => ?_⟩⟩
        obtain ⟨p, rfl, sc⟩ := (r1.ext x2).scrE
        exact .inl ⟨p, _, i, .int d', rfl, r2.intE, sc.sq, atI_map V.int ed, q _ H2 μ2 (x1.trans x2) rh2 Rp.int⟩
      · cases e3
    · rename_i ds
      dsimp only at e3
      cases d2 <;> try (cases e3; done)
      rename_i i
      dsimp only at e3
      split at e3
      · rename_i d' ed
        cases e3
        refine .inl ⟨ls, hp, μ, _, hp1, rl, rh, e1, fun v1 H1 μ1 x1 rh1 r1 => ⟨ls, hp1, μ1, _, _, rl.ext x1, rh1, e2, fun v2 H2 μ2 x2 rh2 r2 => ?_⟩⟩
        obtain ⟨p, vs, rfl, t, rs⟩ := (r1.ext x2).wtE
        obtain ⟨v, ev, rv⟩ := atI_rps rs ed
        exact .inr (.inl ⟨p, vs, i, v, rfl, r2.intE, t.sq, ev, q _ H2 μ2 (x1.trans x2) rh2 rv⟩)
      · cases e3
def gSet (x y v : D) (hp : Hd) : Option Hd := match x with
  | .ref n => match hp[n]? with
    | some (.lst ds) => match y with
      | .int i => match ixN ds.length i with
        | some j => some (hp.set n (.lst (ds.set j v)))
        | none => none
      | _ => none
    | some (.dic kvs) => if (dKind kvs y && decide (kvs.length < sizeLine)) = true then some (hp.set n (.dic (putD kvs y v))) else none
    | _ => none
  | _ => none
def rSetD (K : PySem.W.Frag) : TSet := fun x y v H Q => ∃ hp μ dx dy dv hp', RelH K H μ hp ∧ Rp K H μ dx x ∧ Rp K H μ dy y ∧ Rp K H μ dv v ∧ gSet dx dy dv hp = some hp' ∧
  ∀ H', Ext μ H μ H' → RelH K H' μ hp' → Q H'
theorem Rps.set {K : PySem.W.Frag} {H : Hp} {μ : List Addr} {d : D} {v : V} (rv : Rp K H μ d v) : ∀ {ds : List D} {vs : List V} (j : Nat), Rps K H μ ds vs → Rps K H μ (ds.set j d) (vs.set j v)
  | [], vs, j, h => by
    rw [Rps] at h
    subst h
    exact Rps.nil
  | x :: xs, vs, j, h => by
    rw [Rps] at h
    obtain ⟨w, r, rfl, h1, h2⟩ := h
    cases j with
    | zero =>
      rw [List.set_cons_zero, List.set_cons_zero, Rps]
      exact ⟨v, r, rfl, rv, h2⟩
    | succ j =>
      rw [List.set_cons_succ, List.set_cons_succ, Rps]
      exact ⟨w, _, rfl, h1, Rps.set rv j h2⟩
theorem set_any (hu : X.A.units + 1 < cLine) : PSet X (rSetD X.K) := by
  intro pins s σ H o i v ov iv u Q I ro ri rv h
  obtain ⟨hp, μ, dx, dy, dv, hp', rh, rx, ry, rw', e, q⟩ := h
  unfold gSet at e
  cases dx <;> try (cases e; done)
  rename_i n
  dsimp only at e
  obtain ⟨a, ea, rfl⟩ := rx.refE
  split at e
  · rename_i ds eh
    cases dy <;> try (cases e; done)
    rename_i k
    dsimp only at e
    split at e
    · rename_i j ej
      cases e
      obtain ⟨vs, ev, rs⟩ := rh.lst ea eh
      have x0 : Mon μ H μ (upd H a (.lst (vs.set j v))) := Mon.loose ev
      obtain ⟨r1, x1⟩ := rh.put (o := .lst (ds.set j dv)) (u := .lst (vs.set j v)) ea ⟨_, rfl, (rs.set rw' j).mon x0⟩
      exact set_list pins s σ H _ i v ov iv u Q I ro ri rv ⟨a, vs, k, j, rfl, ry.intE, ev, by rw [rs.len]; exact ej, q _ x1 r1⟩
    · cases e
  · rename_i kvs eh
    split at e
    · rename_i hk
      rw [Bool.and_eq_true] at hk
      have hl := of_decide_eq_true hk.2
      cases e
      obtain ⟨H1, I1, x1, rh1, nd, c⟩ := dic_kind I rh ea eh hk.1
      obtain rfl : ov = Value.ref a := ro
      rcases c with ⟨nt, vs, ev, r⟩ | ⟨⟨ks, rfl⟩, vs, ev, r⟩
      · obtain ⟨k', ek⟩ := dKind_leaf hk.1 nt
        have hv := ry.keyV ek
        subst hv
        have x0 : Mon μ H1 μ (upd H1 a (.dK (putK vs k' v))) := ⟨⟨[], by simp⟩, fun b xs e => by rw [upd_ne (fun z => by subst z; rw [ev] at e; cases e)]; exact e, fun b ob xs _ e => by rw [upd_ne (fun z => by subst z; rw [ev] at e; cases e)]; exact e⟩
        obtain ⟨r2, x2⟩ := rh1.put (o := .dic (putD kvs dy dv)) (u := .dK (putK vs k' v)) ea ⟨nd.put, .inl ⟨_, rfl, (r.put ek (rw'.ext x1) nd).mon x0⟩⟩
        exact d_setItem hu I1 (DPut.k ev (by rw [r.len]; exact hl)) ri rv fun s' I2 => ⟨_, I2, q _ (x1.trans x2) r2⟩
      · obtain ⟨⟨k', ek⟩, _⟩ := dKind_tup hk.1
        obtain ⟨b, ws, rfl, hb, rs⟩ := (ry.ext x1).tupE
        have := rs.keysV ek
        subst this
        have x0 : Mon μ H1 μ (upd H1 a (.dT (putK vs k' v))) := ⟨⟨[], by simp⟩, fun b xs e => by rw [upd_ne (fun z => by subst z; rw [ev] at e; cases e)]; exact e, fun b ob xs _ e => by rw [upd_ne (fun z => by subst z; rw [ev] at e; cases e)]; exact e⟩
        obtain ⟨r2, x2⟩ := rh1.put (o := .dic (putD kvs (.tup ks) dv)) (u := .dT (putK vs k' v)) ea ⟨nd.put, .inr ⟨_, rfl, (r.put ek (rw'.ext x1) nd).mon x0⟩⟩
        exact d_setItem hu I1 (DPut.t ev hb (by rw [r.len]; exact hl)) ri rv fun s' I2 => ⟨_, I2, q _ (x1.trans x2) r2⟩
    · cases e
  · cases e
def sStore (fe fo fi : AE) : AS := fun ls hp => match fe ls hp with
  | some (v, hp1) => match fo ls hp1 with
    | some (x, hp2) => match fi ls hp2 with
      | some (y, hp3) => match gSet x y v hp3 with
        | some hp4 => some (.nx, ls, hp4)
        | none => none
      | none => none
    | none => none
  | none => none
theorem ds_store {o i : Expr} {fe fo fi : AE} {pos' : Pos} (hu : X.A.units + 1 < cLine) (he : DE X e fe) (ho : DE X o fo) (hi : DE X i fi) (hs : swapsWithSole [.Subscript o i pos'] e pos.line X.env = pure false := by rfl)
    (hsw : swappedStores [.Subscript o i pos'] e X.env = pure none := by rfl) (h1 : (assignEach [.Subscript o i pos'] X.env).map (·.2) = [assign (.Subscript o i pos') X.env] := by rfl)
    (ha : ∀ v, assign (.Subscript o i pos') X.env v = (do
      let ov ← holding [v] (eval o X.env)
      let iv ← holding [v, ov] (eval i X.env)
      standAt pos'
      holding [v, ov, iv] (setItem ov iv v)
      release [v, ov, iv] []) := by intro _; rfl) : DS X (.Assign [.Subscript o i pos'] e pos) (sStore fe fo fi) :=
  PS.imp (ps_asg he (pg_sub ho hi (set_any hu) ha) hs hsw h1) fun Dn σ H ⟨ls, hp, μ, fl, ls', hp', rl, rh, e, q⟩ => by
    unfold sStore at e
    split at e
    · rename_i v hp1 e1
      split at e
      · rename_i x hp2 e2
        split at e
        · rename_i y hp3 e3
          split at e
          · rename_i hp4 e4
            cases e
            exact ⟨ls, hp, μ, v, hp1, rl, rh, e1, fun v1 H1 μ1 x1 rh1 r1 => ⟨ls, hp1, μ1, x, hp2, rl.ext x1, rh1, e2, fun v2 H2 μ2 x2 rh2 r2 => ⟨ls, hp2, μ2, y, hp3, (rl.ext x1).ext x2, rh2, e3, fun v3 H3 μ3 x3 rh3 r3 =>
              ⟨hp3, μ3, x, y, v, hp', rh3, r2.ext x3, r3, (r1.ext x2).ext x3, e4, fun H4 x4 rh4 => q H4 μ3 (((x1.trans x2).trans x3).trans x4) rh4 σ ((((rl.ext x1).ext x2).ext x3).ext x4)⟩⟩⟩⟩
          · cases e
        · cases e
      · cases e
    · cases e
def sAug (i : Nat) (fe : AE) (g : D → D → Hd → Option (D × Hd)) : AS := fun ls hp => match ls[i]? with
  | some (some x) => match fe ls hp with
    | some (y, hp1) => match g x y hp1 with
      | some (z, hp2) => some (.nx, ls.set i (some z), hp2)
      | none => none
    | none => none
  | _ => none
end
end Ve
namespace Ve
open PySem PySem.Spec L2
def mAnd (f g : AT) : AT := fun ls hp => match f ls hp with
  | some (true, hp1) => g ls hp1
  | r => r
def mOr (f g : AT) : AT := fun ls hp => match f ls hp with
  | some (false, hp1) => g ls hp1
  | r => r
def mNot (f : AT) : AT := fun ls hp => match f ls hp with
  | some (b, hp1) => some (!b, hp1)
  | none => none
def mAndV (f g : AE) : AE := fun ls hp => match f ls hp with
  | some (.bl true, hp1) => g ls hp1
  | some (.bl false, hp1) => some (.bl false, hp1)
  | _ => none
def mOrV (f g : AE) : AE := fun ls hp => match f ls hp with
  | some (.bl true, hp1) => some (.bl true, hp1)
  | some (.bl false, hp1) => g ls hp1
  | _ => none
def mNotV (f : AE) : AE := fun ls hp => match f ls hp with
  | some (.bl b, hp1) => some (.bl (!b), hp1)
  | _ => none
def mIfE (c : AT) (f g : AE) : AE := fun ls hp => match c ls hp with
  | some (true, hp1) => f ls hp1
  | some (false, hp1) => g ls hp1
  | none => none
section
variable {X : Cx} {e a b c : Expr} {es rest : List Expr} {fa fb fc : AE} {fl fm : AA} {ft fu : AT} {fr : AA} {pos : Pos}
theorem dt_val (h : DE X e fa) (he : ∀ whole, isTrue e X.env whole = (do let v ← whole; standAt e.pos; holding [v] (truthy v)) := by intro _; rfl) : DT X e (mT fa) :=
  PT.imp (pt_val h he) fun σ H Q ⟨ls, hp, μ, b, hp', rl, rh, e, q⟩ => by
    unfold mT at e
    split at e
    · rename_i b' hp1 e1
      cases e
      exact ⟨ls, hp, μ, .bl b, hp', rl, rh, e1, fun v H' μ' x1 rh1 r1 => ⟨b, r1.blE, q H' μ' x1 rh1⟩⟩
    · cases e
theorem dw_or1 (ha : DT X a ft) : DW X (.BoolOp .Or [a] pos) ft := pw_or1 ha
theorem dw_or (ha : DT X a ft) (hb : DW X (.BoolOp .Or (b :: rest) pos) fu) : DW X (.BoolOp .Or (a :: b :: rest) pos) (mOr ft fu) :=
  PW.imp (pw_or ha hb) fun σ H Q ⟨ls, hp, μ, r, hp', rl, rh, e, q⟩ => by
    unfold mOr at e
    cases e1 : ft ls hp with
    | none => rw [e1] at e; cases e
    | some p =>
      obtain ⟨k, hp1⟩ := p
      rw [e1] at e
      refine ⟨ls, hp, μ, k, hp1, rl, rh, e1, fun H1 μ1 x1 rh1 => ?_⟩
      cases k with
      | false => exact iteF ⟨ls, hp1, μ1, r, hp', rl.ext x1, rh1, e, fun H2 μ2 x2 rh2 => q H2 μ2 (x1.trans x2) rh2⟩
      | true =>
        cases e
        exact iteT (q H1 μ1 x1 rh1)
theorem dt_w (h : DW X e ft) : DT X e ft := h.pt
theorem dt_not (ha : DT X a ft) : DT X (.UnaryOp .Not a pos) (mNot ft) :=
  PT.imp (pt_not ha) fun σ H Q ⟨ls, hp, μ, r, hp', rl, rh, e, q⟩ => by
    unfold mNot at e
    split at e
    · rename_i b hp1 e1
      cases e
      exact ⟨ls, hp, μ, b, hp', rl, rh, e1, fun H1 μ1 x1 rh1 => q H1 μ1 x1 rh1⟩
    · cases e
theorem de_one {op} (h : DE X a fa) : DE X (.BoolOp op [a] pos) fa := pe_one h
theorem de_and (ha : DE X a fa) (hb : DE X (.BoolOp .And (b :: rest) pos) fb) : DE X (.BoolOp .And (a :: b :: rest) pos) (mAndV fa fb) :=
  PE.imp (pe_and ha hb) fun σ H Q ⟨ls, hp, μ, r, hp', rl, rh, e, q⟩ => by
    unfold mAndV at e
    split at e
    · rename_i hp1 e1
      exact ⟨ls, hp, μ, _, hp1, rl, rh, e1, fun v H1 μ1 x1 rh1 r1 => ⟨true, r1.blE, iteT ⟨ls, hp1, μ1, r, hp', rl.ext x1, rh1, e, fun v H2 μ2 x2 rh2 r2 => q v H2 μ2 (x1.trans x2) rh2 r2⟩⟩⟩
    · rename_i hp1 e1
      cases e
      exact ⟨ls, hp, μ, _, hp', rl, rh, e1, fun v H1 μ1 x1 rh1 r1 => ⟨false, r1.blE, iteF (q _ H1 μ1 x1 rh1 Rp.bl)⟩⟩
    · cases e
theorem de_or (ha : DE X a fa) (hb : DE X (.BoolOp .Or (b :: rest) pos) fb) : DE X (.BoolOp .Or (a :: b :: rest) pos) (mOrV fa fb) :=
  PE.imp (pe_or ha hb) fun σ H Q ⟨ls, hp, μ, r, hp', rl, rh, e, q⟩ => by
    unfold mOrV at e
    split at e
    · rename_i hp1 e1
      cases e
      exact ⟨ls, hp, μ, _, hp', rl, rh, e1, fun v H1 μ1 x1 rh1 r1 => ⟨true, r1.blE, iteT (q _ H1 μ1 x1 rh1 Rp.bl)⟩⟩
    · rename_i hp1 e1
      exact ⟨ls, hp, μ, _, hp1, rl, rh, e1, fun v H1 μ1 x1 rh1 r1 => ⟨false, r1.blE, iteF ⟨ls, hp1, μ1, r, hp', rl.ext x1, rh1, e, fun v H2 μ2 x2 rh2 r2 => q v H2 μ2 (x1.trans x2) rh2 r2⟩⟩⟩
    · cases e
def mChain (fa fb fc : AE) (g g' : D → D → Hd → Option (D × Hd)) : AE := fun ls hp => match fa ls hp with
  | some (x, hp1) => match fb ls hp1 with
    | some (y, hp2) => match g x y hp2 with
      | some (.bl true, hp3) => match fc ls hp3 with
        | some (z, hp4) => g' y z hp4
        | none => none
      | some (.bl false, hp3) => some (.bl false, hp3)
      | _ => none
    | none => none
  | none => none
def gIs (x y : D) (hp : Hd) : Option (D × Hd) := match y with
  | .non => match x with
    | .non => some (.bl true, hp)
    | _ => some (.bl false, hp)
  | .bl b => match x with
    | .bl a => some (.bl (decide (a = b)), hp)
    | _ => none
  | _ => none
theorem Rp.notNon {K : PySem.W.Frag} {H : Hp} {μ : List Addr} {d : D} {v : V} (r : Rp K H μ d v) (h : d ≠ .non) : v ≠ .non := by
  intro e
  subst e
  cases d with
  | non => exact h rfl
  | bl b => exact nomatch r.blE
  | int i => exact nomatch r.intE
  | str x => exact nomatch r.strE
  | tup ds => obtain ⟨a, vs, e, _⟩ := r.tupE; exact nomatch e
  | wt ds => obtain ⟨a, vs, e, _⟩ := r.wtE; exact nomatch e
  | ref n => obtain ⟨a, _, e⟩ := r.refE; exact nomatch e
  | scr ns => obtain ⟨a, e, _⟩ := r.scrE; exact nomatch e
theorem o_is : OpR X (compareOp .Is) (RD X.K gIs) := fun pins s σ H x y v u Q I rx ry ⟨hp, μ, d1, d2, d, hp', rh, r1, r2, e, q⟩ => by
  unfold gIs at e
  split at e
  · split at e
    · cases e
      cases r1.nonE
      cases r2.nonE
      exact op_isN pins s σ H .non .non v u Q I rx ry ⟨rfl, q _ H μ Ext.refl rh Rp.bl⟩
    · rename_i hne
      cases e
      refine op_isN pins s σ H x y v u Q I rx ry ⟨r2.nonE, ?_⟩
      rw [decide_eq_false (r1.notNon fun z => hne z)]
      exact q _ H μ Ext.refl rh Rp.bl
  · split at e
    · cases e
      exact op_is_bl pins s σ H x y v u Q I rx ry ⟨_, _, r1.blE, r2.blE, q _ H μ Ext.refl rh Rp.bl⟩
    · cases e
  · cases e
def m2L (fa : AE) (fl : AA) (g : D → List D → Hd → Option (D × Hd)) : AE := fun ls hp => match fa ls hp with
  | some (a, hp1) => match fl ls hp1 with
    | some (ds, hp2) => g a ds hp2
    | none => none
  | none => none
def RL (K : PySem.W.Frag) (g : D → List D → Hd → Option (D × Hd)) : R2 := fun x y H Q => ∃ hp μ d1 ds vs p d hp', RelH K H μ hp ∧ Rp K H μ d1 x ∧ y = .ref p ∧ p ∉ μ ∧ H p = some (.lst vs) ∧ Rps K H μ ds vs ∧ g d1 ds hp = some (d, hp') ∧
  ∀ v H' μ', Ext μ H μ' H' → RelH K H' μ' hp' → Rp K H' μ' d v → Q v H'
theorem tOpL_of {K : PySem.W.Frag} {g : D → List D → Hd → Option (D × Hd)} {σ : St} {H : Hp} {Q : VK} (h : tD K (m2L fa fl g) σ H Q) : tOp (RL K g) (tD K fa) (tL K fl) σ H Q := by
  obtain ⟨ls, hp, μ, d, hp', rl, rh, e, q⟩ := h
  unfold m2L at e
  split at e
  · rename_i a hp1 e1
    split at e
    · rename_i ds hp2 e2
      exact ⟨ls, hp, μ, a, hp1, rl, rh, e1, fun v1 H1 μ1 x1 rh1 r1 => ⟨ls, hp1, μ1, ds, hp2, rl.ext x1, rh1, e2, fun p vs H2 μ2 x2 rh2 h0 hn hl r2 =>
        ⟨hp2, μ2, a, ds, vs, p, d, hp', rh2, r1.ext x2, rfl, hn, hl, r2, e, fun v H3 μ3 x3 rh3 r3 => q v H3 μ3 ((x1.trans x2).trans x3) rh3 r3⟩⟩⟩
    · cases e
  · cases e
def gEqL (neg : Bool) (x : D) (ys : List D) (hp : Hd) : Option (D × Hd) := match pyF hp 16 x, mapO (pyF hp 15) ys with
  | some p, some qs => if (SeqAt.shaped p && SeqAt.shaped (.list qs)) = true then some (.bl (if neg then !PyData.eqv p (.list qs) else PyData.eqv p (.list qs)), hp) else none
  | _, _ => none
theorem o_neL (hu : X.A.units + 64 < cLine) : OpR X (compareOp .NotEq) (RL X.K (gEqL true)) := fun pins s σ H x y v u Q I rx ry ⟨hp, μ, d1, ds, vs, p, d, hp', rh, r1, ep, hn, hl, r2, e, q⟩ => by
  unfold gEqL at e
  split at e
  · rename_i pp qs e1 e2
    split at e
    · rename_i hs
      rw [Bool.and_eq_true] at hs
      cases e
      subst ep
      exact op_neD hu pins s σ H x _ v u Q I rx ry ⟨pp, _, pyF_dp rh _ _ _ _ e1 r1, .lst (.inl (.inl hl)) (dpAll_of rh _ _ _ e2 r2), hs.1, hs.2, q _ H μ Ext.refl rh Rp.bl⟩
    · cases e
  · cases e
theorem de_glob {x : Str} {v : V} {u : Value} {d : D} (hg : Gl X x) (hm : X.mg x = some u) (r : RelV v u) (hr : ∀ H μ, Rp X.K H μ d v) (hd : (x == ("__debug__" : Str)) = false := by decide) : DE X (.Name x pos) (mC d) := de_c (pe_glob hg hm r hd) hr
theorem de_callB {x : Str} {p : Pos} {id : String} {g : List D → Hd → Option (D × Hd)} (hc : CallR X (.builtin id) (RDs X.K g)) (hg : Gl X x) (hm : X.mg x = none) (hv : bootBuiltins x = some (.builtin id)) (ha : DA X (e :: es) fr) (hn : x ≠ "__name__" := by decide)
    (hdb : (x == ("__debug__" : Str)) = false := by decide) (he : starEach (e :: es) X.env = (false, eval e X.env) :: starEach es X.env := by rfl) (hpl : (backTo pos (starEach es X.env)).any (·.1) = false := by rfl) : DE X (.Call (.Name x p) (e :: es) [] pos) (mAs fr g) :=
  PE.imp (pe_callB hc hg hm hv ha hn hdb he hpl) fun _ _ _ h => tCB_of h
theorem de_callTy {x : Str} {p : Pos} {T : String} {g : List D → Hd → Option (D × Hd)} (hc : CallR X (.type T) (RDs X.K g)) (hg : Gl X x) (hm : X.mg x = none) (hv : bootBuiltins x = some (.type T)) (ha : DA X (e :: es) fr) (hn : x ≠ "__name__" := by decide)
    (hdb : (x == ("__debug__" : Str)) = false := by decide) (he : starEach (e :: es) X.env = (false, eval e X.env) :: starEach es X.env := by rfl) (hpl : (backTo pos (starEach es X.env)).any (·.1) = false := by rfl) : DE X (.Call (.Name x p) (e :: es) [] pos) (mAs fr g) :=
  PE.imp (pe_callTy hc hg hm hv ha hn hdb he hpl) fun _ _ _ h => tCB_of h
def gLen : List D → Hd → Option (D × Hd)
  | [.tup ds], hp => some (.int ds.length, hp)
  | [.wt ds], hp => some (.int ds.length, hp)
  | [.scr ns], hp => some (.int ns.length, hp)
  | [.str z], hp => if z.length ≤ sizeLine then some (.int z.length, hp) else none
  | [.ref n], hp => match hp[n]? with
    | some (.lst ds) => some (.int ds.length, hp)
    | some (.dic ds) => some (.int ds.length, hp)
    | _ => none
  | _, _ => none
theorem Rps.one {K : PySem.W.Frag} {H : Hp} {μ : List Addr} {d : D} {xs : List V} (h : Rps K H μ [d] xs) : ∃ v, xs = [v] ∧ Rp K H μ d v := by
  rw [Rps] at h
  obtain ⟨v, r, rfl, h1, h2⟩ := h
  rw [Rps] at h2
  subst h2
  exact ⟨v, rfl, h1⟩
theorem Rps.two {K : PySem.W.Frag} {H : Hp} {μ : List Addr} {d e : D} {xs : List V} (h : Rps K H μ [d, e] xs) : ∃ v w, xs = [v, w] ∧ Rp K H μ d v ∧ Rp K H μ e w := by
  rw [Rps] at h
  obtain ⟨v, r, rfl, h1, h2⟩ := h
  obtain ⟨w, rfl, h3⟩ := h2.one
  exact ⟨v, w, rfl, h1, h3⟩
theorem c_len : CallR X (.builtin "len") (RDs X.K gLen) := fun pins s σ H xs us Q I r ⟨hp, μ, ds, d, hp', rh, rs, e, q⟩ => by
  unfold gLen at e
  split at e
  · cases e
    obtain ⟨v, rfl, r1⟩ := rs.one
    obtain ⟨a, vs, rfl, t, r2⟩ := r1.tupE
    rw [← r2.len] at q
    exact call_len_seq pins s σ H _ us Q I r ⟨a, vs, rfl, .inr t.sq, q _ H μ Ext.refl rh Rp.int⟩
  · cases e
    obtain ⟨v, rfl, r1⟩ := rs.one
    obtain ⟨a, vs, rfl, t, r2⟩ := r1.wtE
    rw [← r2.len] at q
    exact call_len_seq pins s σ H _ us Q I r ⟨a, vs, rfl, .inr t.sq, q _ H μ Ext.refl rh Rp.int⟩
  · rename_i ns
    cases e
    obtain ⟨v, rfl, r1⟩ := rs.one
    obtain ⟨a, rfl, t⟩ := r1.scrE
    have hl : ((ns.length : Nat) : Int) = ((ns.map V.int).length : Nat) := by rw [List.length_map]
    rw [hl] at q
    exact call_len_seq pins s σ H _ us Q I r ⟨a, _, rfl, .inl t.sq, q _ H μ Ext.refl rh Rp.int⟩
  · split at e
    · rename_i hz
      cases e
      obtain ⟨v, rfl, r1⟩ := rs.one
      cases r1.strE
      exact call_len_str pins s σ H _ us Q I r ⟨_, rfl, hz, q _ H μ Ext.refl rh Rp.int⟩
    · cases e
  · rename_i n
    obtain ⟨v, rfl, r1⟩ := rs.one
    obtain ⟨a, ea, rfl⟩ := r1.refE
    split at e
    · rename_i ds eh
      cases e
      obtain ⟨vs, ev, r2⟩ := rh.lst ea eh
      rw [← r2.len] at q
      exact call_len_seq pins s σ H _ us Q I r ⟨a, vs, rfl, .inl (.inl (.inl ev)), q _ H μ Ext.refl rh Rp.int⟩
    · rename_i kvs eh
      cases e
      obtain ⟨nd, ⟨vs, ev, r2⟩ | ⟨vs, ev, r2⟩⟩ := rh.dic ea eh
      · rw [← r2.len] at q
        obtain ⟨u, rfl, rx⟩ := vals1 r
        obtain rfl : u = .ref a := rx
        exact d_len I (.inl ev) fun t s' I2 => ⟨.int vs.length, H, I2, ⟨_, rfl⟩, q _ H μ Ext.refl rh Rp.int⟩
      · rw [← r2.len] at q
        exact call_len_dT pins s σ H _ us Q I r ⟨a, vs, rfl, ev, q _ H μ Ext.refl rh Rp.int⟩
    · cases e
  · cases e
def gInt : List D → Hd → Option (D × Hd)
  | [.int i], hp => some (.int i, hp)
  | [.bl b], hp => some (.int (if b then 1 else 0), hp)
  | _, _ => none
theorem c_int : CallR X (.type "int") (RDs X.K gInt) := fun pins s σ H xs us Q I r ⟨hp, μ, ds, d, hp', rh, rs, e, q⟩ => by
  unfold gInt at e
  split at e
  · cases e
    obtain ⟨v, rfl, r1⟩ := rs.one
    cases r1.intE
    exact call_int1 pins s σ H _ us Q I r (.inl ⟨_, rfl, q _ H μ Ext.refl rh Rp.int⟩)
  · cases e
    obtain ⟨v, rfl, r1⟩ := rs.one
    cases r1.blE
    exact call_int1 pins s σ H _ us Q I r (.inr ⟨_, rfl, q _ H μ Ext.refl rh Rp.int⟩)
  · cases e
def gMax2 : List D → Hd → Option (D × Hd)
  | [.int i, .int j], hp => some (.int (if j > i then j else i), hp)
  | _, _ => none
def gMin2 : List D → Hd → Option (D × Hd)
  | [.int i, .int j], hp => some (.int (if j < i then j else i), hp)
  | _, _ => none
theorem c_max2 (hc : X.calm = true) : CallR X (.builtin "max") (RDs X.K gMax2) := fun pins s σ H xs us Q I r ⟨hp, μ, ds, d, hp', rh, rs, e, q⟩ => by
  unfold gMax2 at e
  split at e
  · cases e
    obtain ⟨v, w, rfl, r1, r2⟩ := rs.two
    cases r1.intE
    cases r2.intE
    exact call_max2 hc pins s σ H _ us Q I r ⟨_, _, rfl, q _ H μ Ext.refl rh Rp.int⟩
  · cases e
theorem c_min2 (hc : X.calm = true) : CallR X (.builtin "min") (RDs X.K gMin2) := fun pins s σ H xs us Q I r ⟨hp, μ, ds, d, hp', rh, rs, e, q⟩ => by
  unfold gMin2 at e
  split at e
  · cases e
    obtain ⟨v, w, rfl, r1, r2⟩ := rs.two
    cases r1.intE
    cases r2.intE
    exact call_min2 hc pins s σ H _ us Q I r ⟨_, _, rfl, q _ H μ Ext.refl rh Rp.int⟩
  · cases e
def mL (fl : AA) (g : List D → Hd → Option (D × Hd)) : AE := fun ls hp => match fl ls hp with
  | some (ds, hp1) => g ds hp1
  | none => none
def RN (K : PySem.W.Frag) (g : List D → Hd → Option (D × Hd)) : List V → Hp → VK → Prop := fun xs H Q => ∃ hp μ ds vs p d hp', RelH K H μ hp ∧ xs = [.ref p] ∧ p ∉ μ ∧ H p = some (.lst vs) ∧ Rps K H μ ds vs ∧ g ds hp = some (d, hp') ∧
  ∀ v H' μ', Ext μ H μ' H' → RelH K H' μ' hp' → Rp K H' μ' d v → Q v H'
theorem tN_of {K : PySem.W.Frag} {g : List D → Hd → Option (D × Hd)} {σ : St} {H : Hp} {Q : VK} (h : tD K (mL fl g) σ H Q) : tCB (RN K g) (tCons (tL K fl) tNil) σ H Q := by
  obtain ⟨ls, hp, μ, d, hp', rl, rh, e, q⟩ := h
  unfold mL at e
  split at e
  · rename_i ds hp1 e1
    exact ⟨ls, hp, μ, ds, hp1, rl, rh, e1, fun p vs H1 μ1 x1 rh1 h0 hn hl r1 => ⟨hp1, μ1, ds, vs, p, d, hp', rh1, rfl, hn, hl, r1, e, fun v H2 μ2 x2 rh2 r2 => q v H2 μ2 (x1.trans x2) rh2 r2⟩⟩
  · cases e
theorem de_callBL {x : Str} {p : Pos} {id : String} {g : List D → Hd → Option (D × Hd)} (hc : CallR X (.builtin id) (RN X.K g)) (hg : Gl X x) (hm : X.mg x = none) (hv : bootBuiltins x = some (.builtin id)) (ha : LE X e fl) (hn : x ≠ "__name__" := by decide)
    (hdb : (x == ("__debug__" : Str)) = false := by decide) (he : starEach [e] X.env = (false, eval e X.env) :: starEach [] X.env := by rfl) : DE X (.Call (.Name x p) [e] [] pos) (mL fl g) :=
  PE.imp (pe_callB hc hg hm hv (pa_cons ha pa_nil he) hn hdb he rfl) fun _ _ _ h => tN_of h
theorem de_callTyL {x : Str} {p : Pos} {T : String} {g : List D → Hd → Option (D × Hd)} (hc : CallR X (.type T) (RN X.K g)) (hg : Gl X x) (hm : X.mg x = none) (hv : bootBuiltins x = some (.type T)) (ha : LE X e fl) (hn : x ≠ "__name__" := by decide)
    (hdb : (x == ("__debug__" : Str)) = false := by decide) (he : starEach [e] X.env = (false, eval e X.env) :: starEach [] X.env := by rfl) : DE X (.Call (.Name x p) [e] [] pos) (mL fl g) :=
  PE.imp (pe_callTy hc hg hm hv (pa_cons ha pa_nil he) hn hdb he rfl) fun _ _ _ h => tN_of h
def gTup (ds : List D) (hp : Hd) : Option (D × Hd) := some (.tup ds, hp)
theorem n_tuple : CallR X (.type "tuple") (RN X.K gTup) := fun pins s σ H xs us Q I r ⟨hp, μ, ds, vs, p, d, hp', rh, ex, hn, hl, rs, e, q⟩ => by
  unfold gTup at e
  cases e
  subst ex
  refine call_tuple_of pins s σ H _ us Q I r ⟨p, vs, rfl, .inl ⟨.inl (.inl hl), fun l h0 => ?_⟩⟩
  have x2 := Ext.laid rh (o := .tup vs) h0
  exact q _ _ μ x2 (rh.laid h0) (Rp.tup upd_same (rs.ext x2))
def tyN : D → Hd → Option String
  | .non, _ => some "NoneType"
  | .bl _, _ => some "bool"
  | .int _, _ => some "int"
  | .str _, _ => some "str"
  | .tup _, _ => some "tuple"
  | .wt _, _ => some "tuple"
  | .scr _, _ => none
  | .ref n, hp => match hp[n]? with
    | some (.lst _) => some "list"
    | some (.dic _) => some "dict"
    | _ => none
def gIsi (T : String) : List D → Hd → Option (D × Hd)
  | [x], hp => match tyN x hp with
    | some t => match kitB t T with
      | some b => some (.bl b, hp)
      | none => none
    | none => none
  | _, _ => none
def mIsi (T : String) (fa : AE) : AE := fun ls hp => match fa ls hp with
  | some (x, hp1) => gIsi T [x] hp1
  | none => none
theorem de_isi {T : String} {x t : Str} {p p2 : Pos} (hg : Gl X x) (hm : X.mg x = none) (hv : bootBuiltins x = some (.builtin "isinstance")) (ha : DE X e fa) (hgt : Gl X t) (hmt : X.mg t = none) (hvt : bootBuiltins t = some (.type T))
    (hn : x ≠ "__name__" := by decide) (hdb : (x == ("__debug__" : Str)) = false := by decide) (hnt : t ≠ "__name__" := by decide) (hdt : (t == ("__debug__" : Str)) = false := by decide)
    (he : starEach [e, .Name t p2] X.env = (false, eval e X.env) :: starEach [.Name t p2] X.env := by rfl) (he2 : starEach [.Name t p2] X.env = (false, eval (.Name t p2) X.env) :: starEach [] X.env := by rfl)
    (hpl : (backTo pos (starEach [.Name t p2] X.env)).any (·.1) = false := by rfl) : DE X (.Call (.Name x p) [e, .Name t p2] [] pos) (mIsi T fa) :=
  PE.imp (pe_callB call_isi hg hm hv (pa_cons ha (pa_cons (pe_bltn (v := .ty T) hgt hmt hvt rfl hnt hdt) pa_nil he2) he) hn hdb he hpl) fun σ H Q ⟨ls, hp, μ, d, hp', rl, rh, e, q⟩ => by
    unfold mIsi at e
    split at e
    · rename_i x hp1 e1
      unfold gIsi at e
      dsimp only at e
      split at e
      · rename_i t et
        split at e
        · rename_i b eb
          cases e
          refine ⟨ls, hp, μ, x, hp', rl, rh, e1, fun v H1 μ1 x1 rh1 r1 => ?_⟩
          have ty : TyX X.K H1 v (.type t) := by
            cases x <;> simp only [tyN] at et <;> try (cases et; done)
            · cases et; cases r1.nonE; exact .base .non
            · cases et; cases r1.blE; exact .base (.bl _)
            · cases et; cases r1.intE; exact .base (.int _)
            · cases et; cases r1.strE; exact .base (.str _)
            · cases et
              obtain ⟨a, vs, rfl, t, _⟩ := r1.tupE
              exact .base (.tup t)
            · obtain ⟨a, ea, rfl⟩ := r1.refE
              split at et
              · rename_i xs eh
                cases et
                obtain ⟨vs, ev, _⟩ := rh1.lst ea eh
                exact .base (.lst ev)
              · rename_i xs eh
                cases et
                obtain ⟨nd, ⟨vs, ev, r2⟩ | ⟨vs, ev, r2⟩⟩ := rh1.dic ea eh
                · exact .base (.dK ev)
                · exact .base (.dT ev)
              · cases et
            · cases et
              obtain ⟨a, vs, rfl, ⟨o, _, h1⟩ | ⟨o, its, n, h1, h2, _⟩, _⟩ := r1.wtE
              · exact .fTuple h1
              · exact .kTuple h1 h2
          exact ⟨v, .ty T, .type t, .type T, b, rfl, .ty T, ty, kit_ty eb, q _ H1 μ1 x1 rh1 Rp.bl⟩
        · cases e
      · cases e
    · cases e
def isL : D → Hd → Bool
  | .ref n, hp => match hp[n]? with
    | some (.lst _) => true
    | _ => false
  | _, _ => false
theorem isL_some {d : D} {hp : Hd} (h : isL d hp = true) : ∃ n xs, d = .ref n ∧ hp[n]? = some (.lst xs) := by
  unfold isL at h
  split at h
  · rename_i n
    split at h
    · rename_i xs e
      exact ⟨n, _, rfl, e⟩
    · cases h
  · cases h
def mMet (ck : D → Hd → Bool) (fo : AE) (fr : AA) (g : D → List D → Hd → Option (D × Hd)) : AE := fun ls hp => match fo ls hp with
  | some (x, hp1) => if ck x hp1 = true then match fr ls hp1 with
    | some (ds, hp2) => g x ds hp2
    | none => none else none
  | none => none
def RM (K : PySem.W.Frag) (g : D → List D → Hd → Option (D × Hd)) : V → List V → Hp → VK → Prop := fun x xs H Q => ∃ hp μ dx ds d hp', RelH K H μ hp ∧ Rp K H μ dx x ∧ Rps K H μ ds xs ∧ g dx ds hp = some (d, hp') ∧
  ∀ v H' μ', Ext μ H μ' H' → RelH K H' μ' hp' → Rp K H' μ' d v → Q v H'
theorem isL_ty {K : PySem.W.Frag} {H : Hp} {μ : List Addr} {hp : Hd} {d : D} {v : V} (rh : RelH K H μ hp) (r : Rp K H μ d v) (h : isL d hp = true) : tyV K "list" v H := by
  obtain ⟨n, xs, rfl, e⟩ := isL_some h
  obtain ⟨a, ea, rfl⟩ := r.refE
  obtain ⟨vs, ev, _⟩ := rh.lst ea e
  exact .inl ⟨rfl, vs, .inl (.inl ev)⟩
theorem de_lm {name : Str} {id : String} {o : Expr} {fo : AE} {apos cpos : Pos} {g : D → List D → Hd → Option (D × Hd)} (slot : Slot "list" name id) (hty : typeOf (.builtin id) = pure (.type "method_descriptor")) (hm : MtR X id (RM X.K g)) (ho : DE X o fo) (ha : DA X (e :: es) fr)
    (hbase : attributeBase o name X.env (eval o X.env) = eval o X.env := by rfl)
    (hfew : ((backTo cpos (starEach (e :: es) X.env)).all (fun x => !x.1) && (backToKw cpos (keywordEach [] X.env)).all (fun x => x.1.isSome)
      && decide ((e :: es).length + ([] : List Keyword).length + (if ([] : List Keyword).isEmpty then 0 else 1) < 30)) = true := by rfl)
    (hline : (apos.endLine == cpos.line) = true := by rfl) (hs : starEach (e :: es) X.env = (false, eval e X.env) :: starEach es X.env := by rfl) (hplain : (backTo cpos (starEach es X.env)).any (·.1) = false := by rfl) :
    DE X (.Call (.Attribute o name apos) (e :: es) [] cpos) (mMet isL fo fr g) :=
  PE.imp (pe_bm PySem.F.plainAttrs_list slot hty hm ho ha hbase hfew hline hs hplain) fun σ H Q ⟨ls, hp, μ, d, hp', rl, rh, e, q⟩ => by
    unfold mMet at e
    split at e
    · rename_i x hp1 e1
      split at e
      · rename_i hck
        split at e
        · rename_i ds hp2 e2
          exact ⟨ls, hp, μ, x, hp1, rl, rh, e1, fun v1 H1 μ1 x1 rh1 r1 => ⟨isL_ty rh1 r1 hck, ls, hp1, μ1, ds, hp2, rl.ext x1, rh1, e2, fun vs H2 μ2 x2 rh2 r2 =>
            ⟨hp2, μ2, x, ds, d, hp', rh2, r1.ext x2, r2, e, fun v H3 μ3 x3 rh3 r3 => q v H3 μ3 ((x1.trans x2).trans x3) rh3 r3⟩⟩⟩
        · cases e
      · cases e
    · cases e
theorem de_lm0 {name : Str} {id : String} {o : Expr} {fo : AE} {apos cpos : Pos} {g : D → List D → Hd → Option (D × Hd)} (slot : Slot "list" name id) (hty : typeOf (.builtin id) = pure (.type "method_descriptor")) (hm : MtR X id (RM X.K g)) (ho : DE X o fo)
    (hbase : attributeBase o name X.env (eval o X.env) = eval o X.env := by rfl) (hline : (apos.endLine == cpos.line) = true := by rfl) : DE X (.Call (.Attribute o name apos) [] [] cpos) (mMet isL fo mNil g) :=
  PE.imp (pe_bm0 PySem.F.plainAttrs_list slot hty hm ho hbase hline) fun σ H Q ⟨ls, hp, μ, d, hp', rl, rh, e, q⟩ => by
    simp only [mMet, mNil] at e
    split at e
    · rename_i x hp1 e1
      split at e
      · rename_i hck
        exact ⟨ls, hp, μ, x, hp1, rl, rh, e1, fun v1 H1 μ1 x1 rh1 r1 => ⟨isL_ty rh1 r1 hck, ⟨hp1, μ1, x, [], d, hp', rh1, r1, Rps.nil, e, fun v H3 μ3 x3 rh3 r3 => q v H3 μ3 (x1.trans x3) rh3 r3⟩⟩⟩
      · cases e
    · cases e
def onL (x : D) (hp : Hd) (g : List D → Option (D × List D)) : Option (D × Hd) := match x with
  | .ref n => match hp[n]? with
    | some (.lst xs) => match g xs with
      | some (d, ys) => some (d, hp.set n (.lst ys))
      | none => none
    | _ => none
  | _ => none
theorem onL_some {x : D} {hp hp' : Hd} {g : List D → Option (D × List D)} {d : D} (h : onL x hp g = some (d, hp')) : ∃ n xs ys, x = .ref n ∧ hp[n]? = some (.lst xs) ∧ g xs = some (d, ys) ∧ hp' = hp.set n (.lst ys) := by
  unfold onL at h
  split at h
  · rename_i n
    split at h
    · rename_i xs e1
      split at h
      · rename_i d' ys e2
        cases h
        exact ⟨n, xs, ys, rfl, e1, e2, rfl⟩
      · cases h
    · cases h
  · cases h
def gAppend (x : D) (ds : List D) (hp : Hd) : Option (D × Hd) := match ds with
  | [d] => onL x hp fun xs => if xs.length < sizeLine then some (.non, xs ++ [d]) else none
  | _ => none
theorem t_append : MtR X "list.append" (RM X.K gAppend) := fun pins s σ H x xs v us Q I rx rxs ⟨hp, μ, dx, ds, d, hp', rh, r1, rs, e, q⟩ => by
  unfold gAppend at e
  split at e
  · rename_i y
    obtain ⟨n, ws, ys, rfl, e1, e2, rfl⟩ := onL_some e
    split at e2
    · rename_i hl
      cases e2
      obtain ⟨w, rfl, r2⟩ := rs.one
      obtain ⟨a, ea, rfl⟩ := r1.refE
      obtain ⟨vs, ev, r3⟩ := rh.lst ea e1
      have x0 : Mon μ H μ (upd H a (.lst (vs ++ [w]))) := Mon.loose ev
      obtain ⟨r4, x1⟩ := rh.put (o := .lst (ws ++ [y])) (u := .lst (vs ++ [w])) ea ⟨_, rfl, (r3.append (by rw [Rps]; exact ⟨w, [], rfl, r2, Rps.nil⟩)).mon x0⟩
      exact mt_append pins s σ H _ _ v us Q I rx rxs ⟨a, vs, w, rfl, rfl, ev, by rw [r3.len]; exact hl, q _ _ μ x1 r4 Rp.non⟩
    · cases e2
  · cases e
def gPop (x : D) (ds : List D) (hp : Hd) : Option (D × Hd) := match ds with
  | [] => onL x hp fun xs => match xs[xs.length - 1]? with
    | some y => some (y, xs.dropLast)
    | none => none
  | _ => none
theorem Rps.take {K : PySem.W.Frag} {H : Hp} {μ : List Addr} : ∀ {ds : List D} {vs : List V} (n : Nat), Rps K H μ ds vs → Rps K H μ (ds.take n) (vs.take n)
  | _, _, 0, _ => by simp [Rps.nil]
  | [], _, n + 1, h => by
    rw [Rps] at h
    subst h
    exact Rps.nil
  | d :: ds, _, n + 1, h => by
    rw [Rps] at h
    obtain ⟨v, r, rfl, h1, h2⟩ := h
    rw [List.take_succ_cons, List.take_succ_cons, Rps]
    exact ⟨v, _, rfl, h1, Rps.take n h2⟩
theorem Rps.drop {K : PySem.W.Frag} {H : Hp} {μ : List Addr} : ∀ {ds : List D} {vs : List V} (n : Nat), Rps K H μ ds vs → Rps K H μ (ds.drop n) (vs.drop n)
  | _, _, 0, h => by simpa using h
  | [], _, n + 1, h => by
    rw [Rps] at h
    subst h
    exact Rps.nil
  | d :: ds, _, n + 1, h => by
    rw [Rps] at h
    obtain ⟨v, r, rfl, h1, h2⟩ := h
    exact Rps.drop n h2
theorem Rps.dropLast {K : PySem.W.Frag} {H : Hp} {μ : List Addr} {ds : List D} {vs : List V} (h : Rps K H μ ds vs) : Rps K H μ ds.dropLast vs.dropLast := by
  rw [List.dropLast_eq_take, List.dropLast_eq_take, h.len]
  exact h.take _
theorem t_pop : MtR X "list.pop" (RM X.K gPop) := fun pins s σ H x xs v us Q I rx rxs ⟨hp, μ, dx, ds, d, hp', rh, r1, rs, e, q⟩ => by
  unfold gPop at e
  split at e
  · obtain ⟨n, ws, ys, rfl, e1, e2, rfl⟩ := onL_some e
    split at e2
    · rename_i y ey
      cases e2
      rw [Rps] at rs
      subst rs
      obtain ⟨a, ea, rfl⟩ := r1.refE
      obtain ⟨vs, ev, r3⟩ := rh.lst ea e1
      obtain ⟨w, ew, rw'⟩ := r3.get ey
      have x0 : Mon μ H μ (upd H a (.lst vs.dropLast)) := Mon.loose ev
      obtain ⟨r4, x1⟩ := rh.put (o := .lst ws.dropLast) (u := .lst vs.dropLast) ea ⟨_, rfl, r3.dropLast.mon x0⟩
      exact mt_pop pins s σ H _ _ v us Q I rx rxs ⟨a, vs, w, rfl, rfl, ev, by rw [r3.len]; exact ew, q _ _ μ x1 r4 (rw'.mon x0)⟩
    · cases e2
  · cases e
def mExt (fo : AE) (fl : AA) : AE := fun ls hp => match fo ls hp with
  | some (x, hp1) => if isL x hp1 = true then match fl ls hp1 with
    | some (ds, hp2) => onL x hp2 fun xs => if xs.length + ds.length ≤ sizeLine then some (.non, xs ++ ds) else none
    | none => none else none
  | none => none
theorem de_extend {o : Expr} {fo : AE} {apos cpos : Pos} (ho : DE X o fo) (ha : LE X e fl)
    (hbase : attributeBase o "extend" X.env (eval o X.env) = eval o X.env := by rfl)
    (hfew : ((backTo cpos (starEach [e] X.env)).all (fun x => !x.1) && (backToKw cpos (keywordEach [] X.env)).all (fun x => x.1.isSome)
      && decide (([e] : List Expr).length + ([] : List Keyword).length + (if ([] : List Keyword).isEmpty then 0 else 1) < 30)) = true := by rfl)
    (hline : (apos.endLine == cpos.line) = true := by rfl) (hs : starEach [e] X.env = (false, eval e X.env) :: starEach [] X.env := by rfl) :
    DE X (.Call (.Attribute o "extend" apos) [e] [] cpos) (mExt fo fl) :=
  PE.imp (pe_bm PySem.F.plainAttrs_list PySem.F.slot_list_extend PySem.F.type_list_extend mt_extend ho (pa_cons ha pa_nil hs) hbase hfew hline hs rfl) fun σ H Q ⟨ls, hp, μ, d, hp', rl, rh, e, q⟩ => by
    unfold mExt at e
    split at e
    · rename_i x hp1 e1
      split at e
      · rename_i hck
        split at e
        · rename_i ds hp2 e2
          obtain ⟨n, ws, ys, rfl, e3, e4, rfl⟩ := onL_some e
          split at e4
          · rename_i hl
            cases e4
            refine ⟨ls, hp, μ, _, hp1, rl, rh, e1, fun v1 H1 μ1 x1 rh1 r1 => ⟨isL_ty rh1 r1 hck, ls, hp1, μ1, ds, hp2, rl.ext x1, rh1, e2, fun p vs H2 μ2 x2 rh2 h0 hn hl2 r2 => ?_⟩⟩
            obtain ⟨a, ea, rfl⟩ := (r1.ext x2).refE
            obtain ⟨vs2, ev, r3⟩ := rh2.lst ea e3
            have x0 : Mon μ2 H2 μ2 (upd H2 a (.lst (vs2 ++ vs))) := Mon.loose ev
            obtain ⟨r4, x4⟩ := rh2.put (o := .lst (ws ++ ds)) (u := .lst (vs2 ++ vs)) ea ⟨_, rfl, (r3.append r2).mon x0⟩
            exact ⟨a, p, vs2, vs, rfl, rfl, ev, hl2, by rw [r3.len, r2.len]; exact hl, q _ _ μ2 ((x1.trans x2).trans x4) r4 Rp.non⟩
          · cases e4
        · cases e
      · cases e
    · cases e
end
end Ve
namespace Ve
open PySem PySem.Spec L2
mutual
def D.lt (n : Nat) : D → Bool
  | .ref k => decide (k < n)
  | .tup ds => D.lts n ds
  | .wt ds => D.lts n ds
  | _ => true
def D.lts (n : Nat) : List D → Bool
  | [] => true
  | d :: ds => D.lt n d && D.lts n ds
end
mutual
def D.ren (ρ : List Nat) : D → D
  | .ref k => .ref (ρ.getD k 0)
  | .tup ds => .tup (D.rens ρ ds)
  | .wt ds => .wt (D.rens ρ ds)
  | .non => .non
  | .bl b => .bl b
  | .int i => .int i
  | .str x => .str x
  | .scr ns => .scr ns
def D.rens (ρ : List Nat) : List D → List D
  | [] => []
  | d :: ds => D.ren ρ d :: D.rens ρ ds
end
def kvLt (n : Nat) : List (D × D) → Bool
  | [] => true
  | p :: r => D.lt n p.1 && D.lt n p.2 && kvLt n r
def kvRen (ρ : List Nat) : List (D × D) → List (D × D)
  | [] => []
  | p :: r => (p.1, D.ren ρ p.2) :: kvRen ρ r
def O.lt (n : Nat) : O → Bool
  | .lst xs => D.lts n xs
  | .dic kvs => kvLt n kvs
  | .dicL kvs => kvLt n kvs
  | .dicN ks => D.lts n ks
  | .dicM ks => D.lts n ks
  | .ins _ kvs => kvLt n kvs
  | .exc _ => true
  | .tab _ => true
def O.ren (ρ : List Nat) : O → O
  | .lst xs => .lst (D.rens ρ xs)
  | .dic kvs => .dic (kvRen ρ kvs)
  | .dicL kvs => .dicL (kvRen ρ kvs)
  | .dicN ks => .dicN ks
  | .dicM ks => .dicM ks
  | .ins c kvs => .ins c (kvRen ρ kvs)
  | .exc c => .exc c
  | .tab c => .tab c
def Sub (n : Nat) (d : D) (hp' : Hd) (r : Option (D × Hd)) : Prop :=
  ∃ d2 hp2, r = some (d2, hp2) ∧ ∃ ρ : List Nat, ρ.length = hp'.length ∧ ρ.Nodup ∧ n ≤ hp'.length ∧ (∀ i, i < n → ρ[i]? = some i) ∧ D.lt hp'.length d = true ∧ d2 = D.ren ρ d ∧
    ∀ (i : Nat) (o : O), hp'[i]? = some o → O.lt hp'.length o = true ∧ ∃ j : Nat, ρ[i]? = some j ∧ hp2[j]? = some (O.ren ρ o)
def Con (c m : List D → Hd → Option (D × Hd)) : Prop := ∀ ds hp d hp', (∀ (i : Nat) (o : O), hp[i]? = some o → O.lt hp.length o = true) → D.lts hp.length ds = true → c ds hp = some (d, hp') → Sub hp.length d hp' (m ds hp)
section
variable {K : PySem.W.Frag} {H : Hp} {μ μ2 : List Addr} {hp hp2 : Hd}
mutual
theorem Rp.below {n : Nat} (hn : μ.length = n) : ∀ {d : D} {v : V}, Rp K H μ d v → D.lt n d = true
  | .non, _, _ => rfl
  | .bl _, _, _ => rfl
  | .int _, _, _ => rfl
  | .str _, _, _ => rfl
  | .scr _, _, _ => rfl
  | .ref k, _, h => by
    obtain ⟨a, e, _⟩ := h.refE
    have := (List.getElem?_eq_some_iff.mp e).1
    simp only [D.lt, decide_eq_true_eq]
    omega
  | .tup ds, _, h => by
    obtain ⟨a, vs, _, _, r⟩ := h.tupE
    rw [D.lt]
    exact Rps.below hn r
  | .wt ds, _, h => by
    obtain ⟨a, vs, _, _, r⟩ := h.wtE
    rw [D.lt]
    exact Rps.below hn r
theorem Rps.below {n : Nat} (hn : μ.length = n) : ∀ {ds : List D} {vs : List V}, Rps K H μ ds vs → D.lts n ds = true
  | [], _, _ => by rw [D.lts]
  | d :: ds, _, h => by
    rw [Rps] at h
    obtain ⟨v, r, _, h1, h2⟩ := h
    rw [D.lts, Rp.below hn h1, Rps.below hn h2]
    rfl
end
theorem toKey_lt {n : Nat} {d : D} {k : Key} (h : toKey d = some k) : D.lt n d = true := by
  cases d <;> simp [toKey] at h <;> rfl
theorem toKeys_lt {n : Nat} : ∀ {ds : List D} {k : List Key}, toKeys ds = some k → D.lts n ds = true
  | [], _, _ => by rw [D.lts]
  | d :: ds, k, h => by
    simp only [toKeys] at h
    split at h
    · rename_i k1 ks e1 e2
      rw [D.lts, toKey_lt e1, toKeys_lt e2]
      rfl
    · cases h
theorem RpK.below {n : Nat} (hn : μ.length = n) : ∀ {kvs : List (D × D)} {vs : List (Key × V)}, RpK K H μ kvs vs → kvLt n kvs = true
  | [], _, _ => rfl
  | p :: r, _, h => by
    rw [RpK] at h
    obtain ⟨k, v, rs, _, h1, h2, h3⟩ := h
    simp only [kvLt, toKey_lt h1, Rp.below hn h2, RpK.below hn h3, Bool.and_self]
theorem RpT.below {n : Nat} (hn : μ.length = n) : ∀ {kvs : List (D × D)} {vs : List (List Key × V)}, RpT K H μ kvs vs → kvLt n kvs = true
  | [], _, _ => rfl
  | p :: r, _, h => by
    rw [RpT] at h
    obtain ⟨ds, k, v, rs, e0, _, h1, h2, h3⟩ := h
    simp only [kvLt, e0, D.lt, toKeys_lt h1, Rp.below hn h2, RpT.below hn h3, Bool.and_self]
mutual
theorem toNK_lt {n : Nat} : ∀ {d : D} {k : NestedKey}, toNK d = some k → D.lt n d = true
  | .int _, _, _ => rfl
  | .tup ds, k, h => by
    rw [toNK] at h
    cases e : toNKs ds with
    | none => rw [e] at h; cases h
    | some ks =>
      rw [D.lt]
      exact toNKs_lt e
  | .non, _, h => by simp [toNK] at h
  | .bl _, _, h => by simp [toNK] at h
  | .str _, _, h => by simp [toNK] at h
  | .ref _, _, h => by simp [toNK] at h
  | .scr _, _, h => by simp [toNK] at h
  | .wt _, _, h => by simp [toNK] at h
theorem toNKs_lt {n : Nat} : ∀ {ds : List D} {ks : List NestedKey}, toNKs ds = some ks → D.lts n ds = true
  | [], _, _ => rfl
  | d :: ds, k, h => by
    rw [toNKs] at h
    cases e : toNK d with
    | none => rw [e] at h; cases h
    | some k1 =>
      cases e2 : toNKs ds with
      | none => rw [e, e2] at h; cases h
      | some ks =>
        rw [D.lts, toNK_lt e, toNKs_lt e2]
        rfl
end
theorem RpN.below {n : Nat} : ∀ {ds : List D} {as : List (NestedKey × Addr)}, RpN K H μ ds as → D.lts n ds = true
  | [], _, _ => rfl
  | d :: ds, _, h => by
    rw [RpN] at h
    obtain ⟨k, a, r, e, h1, h2, h3, h4⟩ := h
    rw [D.lts, toNK_lt h1, RpN.below h4]
    rfl
theorem RelH.below (r : RelH K H μ hp) (i : Nat) (o : O) (h : hp[i]? = some o) : O.lt hp.length o = true := by
  obtain ⟨a, ea, q⟩ := r.at_ h
  cases o with
  | lst xs => obtain ⟨vs, _, q⟩ := q; exact q.below r.len
  | dic kvs =>
    obtain ⟨_, ⟨vs, _, q⟩ | ⟨vs, _, q⟩⟩ := q
    · exact q.below r.len
    · exact q.below r.len
  | dicL kvs =>
    obtain ⟨_, ⟨_, vs, _, q⟩ | ⟨_, vs, _, q⟩⟩ := q
    · exact q.below r.len
    · exact q.below r.len
  | dicN ks => obtain ⟨a, kas, _, q⟩ := q; exact q.below
  | dicM ks => obtain ⟨a, kas, _, _, q⟩ := q; exact q.below
  | ins c kvs => obtain ⟨C, dx, vs, _, _, q⟩ := q; exact q.below r.len
  | exc c => rfl
  | tab c => rfl
def pick (μ2 : List Addr) (ρ : List Nat) : List Addr := ρ.map fun j => μ2.getD j 0
mutual
theorem Rp.pick {ρ : List Nat} (hρ : ∀ j ∈ ρ, j < μ2.length) : ∀ {d : D} {v : V}, D.lt ρ.length d = true → Rp K H μ2 (D.ren ρ d) v → Rp K H (Ve.pick μ2 ρ) d v
  | .non, _, _, h => by rw [D.ren] at h; exact h.nonE ▸ Rp.non
  | .bl _, _, _, h => by rw [D.ren] at h; exact h.blE ▸ Rp.bl
  | .int _, _, _, h => by rw [D.ren] at h; exact h.intE ▸ Rp.int
  | .str _, _, _, h => by rw [D.ren] at h; exact h.strE ▸ Rp.str
  | .scr ns, _, _, h => by
    rw [D.ren] at h
    obtain ⟨a, rfl, s⟩ := h.scrE
    rw [Rp]
    exact ⟨a, rfl, s⟩
  | .ref k, v, hl, h => by
    rw [D.ren] at h
    obtain ⟨a, e, rfl⟩ := h.refE
    have hk : k < ρ.length := by simpa [D.lt] using hl
    rw [Rp]
    refine ⟨a, ?_, rfl⟩
    unfold Ve.pick
    rw [List.getElem?_map, List.getElem?_eq_getElem hk]
    have e2 : ρ.getD k 0 = ρ[k] := by simp [List.getD, hk]
    rw [e2] at e
    show some (μ2.getD ρ[k] 0) = some a
    rw [List.getD, e]
    rfl
  | .tup ds, _, hl, h => by
    rw [D.ren] at h
    obtain ⟨a, vs, rfl, t, r⟩ := h.tupE
    rw [D.lt] at hl
    rw [Rp]
    exact ⟨a, vs, rfl, t, Rps.pick hρ hl r⟩
  | .wt ds, _, hl, h => by
    rw [D.ren] at h
    obtain ⟨a, vs, rfl, t, r⟩ := h.wtE
    rw [D.lt] at hl
    rw [Rp]
    exact ⟨a, vs, rfl, t, Rps.pick hρ hl r⟩
theorem Rps.pick {ρ : List Nat} (hρ : ∀ j ∈ ρ, j < μ2.length) : ∀ {ds : List D} {vs : List V}, D.lts ρ.length ds = true → Rps K H μ2 (D.rens ρ ds) vs → Rps K H (Ve.pick μ2 ρ) ds vs
  | [], _, _, h => by
    rw [D.rens, Rps] at h
    rw [Rps]
    exact h
  | d :: ds, _, hl, h => by
    rw [D.lts, Bool.and_eq_true] at hl
    rw [D.rens, Rps] at h
    obtain ⟨v, r, rfl, h1, h2⟩ := h
    rw [Rps]
    exact ⟨v, r, rfl, Rp.pick hρ hl.1 h1, Rps.pick hρ hl.2 h2⟩
end
theorem RpK.pick {ρ : List Nat} (hρ : ∀ j ∈ ρ, j < μ2.length) : ∀ {ds : List (D × D)} {vs : List (Key × V)}, kvLt ρ.length ds = true → RpK K H μ2 (kvRen ρ ds) vs → RpK K H (Ve.pick μ2 ρ) ds vs
  | [], _, _, h => by
    rw [kvRen, RpK] at h
    rw [RpK]
    exact h
  | d :: ds, _, hl, h => by
    rw [kvLt, Bool.and_eq_true, Bool.and_eq_true] at hl
    rw [kvRen, RpK] at h
    obtain ⟨k, v, r, rfl, h0, h1, h2⟩ := h
    rw [RpK]
    exact ⟨k, v, r, rfl, h0, Rp.pick hρ hl.1.2 h1, RpK.pick hρ hl.2 h2⟩
theorem RpT.pick {ρ : List Nat} (hρ : ∀ j ∈ ρ, j < μ2.length) : ∀ {ds : List (D × D)} {vs : List (List Key × V)}, kvLt ρ.length ds = true → RpT K H μ2 (kvRen ρ ds) vs → RpT K H (Ve.pick μ2 ρ) ds vs
  | [], _, _, h => by
    rw [kvRen, RpT] at h
    rw [RpT]
    exact h
  | d :: ds, _, hl, h => by
    rw [kvLt, Bool.and_eq_true, Bool.and_eq_true] at hl
    rw [kvRen, RpT] at h
    obtain ⟨ks, k, v, r, e0, rfl, h0, h1, h2⟩ := h
    rw [RpT]
    exact ⟨ks, k, v, r, e0, rfl, h0, Rp.pick hρ hl.1.2 h1, RpT.pick hρ hl.2 h2⟩
theorem KNd.ren {ρ : List Nat} : ∀ {kvs : List (D × D)}, KNd (kvRen ρ kvs) → KNd kvs
  | [], _ => True.intro
  | p :: r, h => by
    refine ⟨fun q hq => ?_, KNd.ren h.2⟩
    have hm : ∀ {l : List (D × D)}, q ∈ l → (q.1, D.ren ρ q.2) ∈ kvRen ρ l := by
      intro l
      induction l with
      | nil => intro h; cases h
      | cons x xs ih =>
        intro h
        rcases List.mem_cons.mp h with z | z
        · rw [z]; exact List.mem_cons_self
        · exact List.mem_cons_of_mem _ (ih z)
    exact h.1 (q.1, D.ren ρ q.2) (hm hq)
mutual
theorem Rp.keyAny {μ3 : List Addr} : ∀ {d : D} {k : NestedKey} {v : V}, toNK d = some k → Rp K H μ2 d v → Rp K H μ3 d v
  | .int _, _, _, _, h => h.intE ▸ Rp.int
  | .tup ds, k, v, e, h => by
    rw [toNK] at e
    cases e2 : toNKs ds with
    | none => rw [e2] at e; cases e
    | some ks =>
      rw [Rp] at *
      obtain ⟨a, vs, h1, h2, h3⟩ := h
      exact ⟨a, vs, h1, h2, Rps.keyAny e2 h3⟩
  | .non, _, _, h, _ => by simp [toNK] at h
  | .bl _, _, _, h, _ => by simp [toNK] at h
  | .str _, _, _, h, _ => by simp [toNK] at h
  | .ref _, _, _, h, _ => by simp [toNK] at h
  | .scr _, _, _, h, _ => by simp [toNK] at h
  | .wt _, _, _, h, _ => by simp [toNK] at h
theorem Rps.keyAny {μ3 : List Addr} : ∀ {ds : List D} {ks : List NestedKey} {vs : List V}, toNKs ds = some ks → Rps K H μ2 ds vs → Rps K H μ3 ds vs
  | [], _, _, _, h => by rw [Rps] at *; exact h
  | d :: ds, k, vs, e, h => by
    rw [toNKs] at e
    cases e1 : toNK d with
    | none => rw [e1] at e; cases e
    | some k1 =>
      cases e2 : toNKs ds with
      | none => rw [e1, e2] at e; cases e
      | some ks =>
        rw [Rps] at *
        obtain ⟨v, r, h1, h2, h3⟩ := h
        exact ⟨v, r, h1, Rp.keyAny e1 h2, Rps.keyAny e2 h3⟩
end
theorem RpN.any {μ3 : List Addr} : ∀ {ds : List D} {as : List (NestedKey × Addr)}, RpN K H μ2 ds as → RpN K H μ3 ds as
  | [], _, h => by rw [RpN] at *; exact h
  | d :: ds, _, h => by
    rw [RpN] at *
    obtain ⟨k, a, r, e, h1, h2, h3, h4⟩ := h
    exact ⟨k, a, r, e, h1, h2, h3.keyAny h1, RpN.any h4⟩
theorem Ro.pick {ρ : List Nat} (hρ : ∀ j ∈ ρ, j < μ2.length) {o : O} {h : Option HO} (hl : O.lt ρ.length o = true) (r : Ro K H μ2 (O.ren ρ o) h) : Ro K H (Ve.pick μ2 ρ) o h := by
  cases o with
  | lst xs => obtain ⟨vs, e, q⟩ := r; exact ⟨vs, e, q.pick hρ hl⟩
  | dic kvs =>
    obtain ⟨nd, ⟨vs, e, q⟩ | ⟨vs, e, q⟩⟩ := r
    · exact ⟨KNd.ren nd, .inl ⟨vs, e, q.pick hρ hl⟩⟩
    · exact ⟨KNd.ren nd, .inr ⟨vs, e, q.pick hρ hl⟩⟩
  | dicL kvs =>
    obtain ⟨nd, ⟨o, vs, e, q⟩ | ⟨o, vs, e, q⟩⟩ := r
    · exact ⟨KNd.ren nd, .inl ⟨o, vs, e, q.pick hρ hl⟩⟩
    · exact ⟨KNd.ren nd, .inr ⟨o, vs, e, q.pick hρ hl⟩⟩
  | dicN ks => obtain ⟨a, kas, e, q⟩ := r; exact ⟨a, kas, e, q.any⟩
  | dicM ks => obtain ⟨a, kas, od, e, q⟩ := r; exact ⟨a, kas, od, e, q.any⟩
  | ins c kvs => obtain ⟨C, dx, vs, e, hc, q⟩ := r; exact ⟨C, dx, vs, e, hc, q.pick hρ hl⟩
  | exc c => exact r
  | tab c => exact r
theorem sub_sound {H' : Hp} {d : D} {hp' : Hd} {r : Option (D × Hd)} (rh : RelH K H μ hp) (s : Sub hp.length d hp' r) : ∃ d2 hp2, r = some (d2, hp2) ∧ ∀ v H' μ2, Ext μ H μ2 H' → RelH K H' μ2 hp2 → Rp K H' μ2 d2 v →
    ∃ μ', Ext μ H μ' H' ∧ RelH K H' μ' hp' ∧ Rp K H' μ' d v := by
  obtain ⟨d2, hp2, rfl, ρ, hl, nd, hn, hid, hd, rfl, ho⟩ := s
  refine ⟨_, hp2, rfl, fun v H' μ2 x rh2 rv => ?_⟩
  have hρ : ∀ j ∈ ρ, j < μ2.length := fun j hj => by
    obtain ⟨i, hi, e⟩ := List.mem_iff_getElem.mp hj
    have hi' : i < hp'.length := by rw [← hl]; exact hi
    obtain ⟨_, j2, e2, e3⟩ := ho i hp'[i] (List.getElem?_eq_getElem hi')
    rw [List.getElem?_eq_getElem hi, e] at e2
    cases e2
    rw [rh2.len]
    exact (List.getElem?_eq_some_iff.mp e3).1
  have hpk : ∀ (i : Nat) j, ρ[i]? = some j → (pick μ2 ρ)[i]? = μ2[j]? := fun i j e => by
    unfold pick
    rw [List.getElem?_map, e]
    have hj : j < μ2.length := hρ j (List.mem_of_getElem? e)
    show some (μ2.getD j 0) = _
    rw [List.getElem?_eq_getElem hj]
    simp [List.getD, hj]
  have sub : ∀ a ∈ pick μ2 ρ, a ∈ μ2 := fun a ha => by
    obtain ⟨j, hj, e⟩ := List.mem_map.mp ha
    have := hρ j hj
    rw [← e]
    simp [List.getD, this]
  have rl : RelH K H' (pick μ2 ρ) hp' := by
    refine ⟨by simp [pick, hl], ?_, fun i o a e1 e2 => ?_, fun i x a e1 e2 => ?_⟩
    · refine List.pairwise_iff_getElem.mpr fun i j hi hj hij => ?_
      have hi' : i < ρ.length := by simpa [pick] using hi
      have hj' : j < ρ.length := by simpa [pick] using hj
      have a1 := hρ _ (List.getElem_mem hi')
      have a2 := hρ _ (List.getElem_mem hj')
      have g1 : (pick μ2 ρ)[i] = μ2[ρ[i]] := by simp [pick, List.getD, a1]
      have g2 : (pick μ2 ρ)[j] = μ2[ρ[j]] := by simp [pick, List.getD, a2]
      rw [g1, g2]
      intro z
      have := (List.getElem_inj rh2.nd).mp z
      have := (List.getElem_inj nd).mp this
      omega
    · obtain ⟨hlt, j, e3, e4⟩ := ho i o e1
      rw [hpk i j e3] at e2
      exact (rh2.obj j _ a e4 e2).pick hρ (by rw [hl]; exact hlt)
    · obtain ⟨hlt, j, e3, e4⟩ := ho i _ e1
      rw [hpk i j e3] at e2
      exact rh2.tabs j x a e4 e2
  refine ⟨pick μ2 ρ, ⟨?_, fun a o hn e hm => x.new a o hn e (sub a hm), x.keep, x.tups, x.scrs⟩, rl, rv.pick hρ (by rw [hl]; exact hd)⟩
  obtain ⟨ν, e⟩ := x.pre
  refine ⟨(pick μ2 ρ).drop μ.length, ?_⟩
  have hlen : μ.length ≤ (pick μ2 ρ).length := by
    rw [rh.len]
    simp [pick, hl]
    exact hn
  have ht : (pick μ2 ρ).take μ.length = μ := by
    refine List.ext_getElem? fun i => ?_
    by_cases hi : i < μ.length
    · rw [List.getElem?_take_of_lt hi, hpk i i (hid i (by rw [← rh.len]; exact hi)), e, List.getElem?_append_left hi]
    · rw [List.getElem?_eq_none (by simp; omega), List.getElem?_eq_none (by omega)]
  rw [← List.take_append_drop μ.length (pick μ2 ρ), ht]
  simp
end
structure Fn (P : Program) (w : World) (K : PySem.W.Frag) (mg : Str → Option Value) (base : Heap) (k : Nat) (x : Str) (n : Nat) (g : List D → Hd → Option (D × Hd)) : Prop where
  ex : ∃ (f : Addr) (fd : FuncData) (ps : List Str), FnG P w K mg base CX0 k f fd ps (spD K n g) ∧ mg x = some (.ref f) ∧ PySem.W.keepIn K (.ref f) = true ∧ Binds K fd ps []
section
variable {P : Program} {w : World} {K : PySem.W.Frag} {mg : Str → Option Value} {base : Heap} {k j n : Nat} {x : Str} {g c : List D → Hd → Option (D × Hd)}
theorem Fn.mono (F : Fn P w K mg base j x n g) (h : j ≤ k) : Fn P w K mg base k x n g := by
  obtain ⟨f, fd, ps, F, a, b, c⟩ := F.ex
  exact ⟨f, fd, ps, F.mono h, a, b, c⟩
theorem Fn.con (F : Fn P w K mg base k x n g) (h : Con c g) : Fn P w K mg base k x n c := by
  obtain ⟨f, fd, ps, F, a, b, e⟩ := F.ex
  refine ⟨f, fd, ps, F.imp fun vs H Q E q => ?_, a, b, e⟩
  obtain ⟨hp, μ, ds, d, hp', hn, rh, r, ec, q⟩ := q
  obtain ⟨d2, hp2, e2, s⟩ := sub_sound (H' := H) rh (h ds hp d hp' (fun i o => rh.below i o) (r.below rh.len) ec)
  exact ⟨hp, μ, ds, d2, hp2, hn, rh, r, e2, fun v H' μ2 x rh2 rv => by
    obtain ⟨μ', x', rh', rv'⟩ := s v H' μ2 x rh2 rv
    exact q v H' μ' x' rh' rv'⟩
theorem fn_mk {qual : Str} {st : Stmt} {f : Addr} {fd : FuncData} {N ps : List Str} {fb : AS} (F : Fun K x qual st f fd) (S : FnScope N ps (defScope st)) (hm : mg x = some (.ref f)) (hb : Binds K fd ps [])
    (body : ∀ (cdv : Value) (A : Around) (outer : List Env) (s : Shared) (H : Hp) (E : XK), RoomG k (A.deeper (PyProof.Rows.envOfC qual (defScope st) s.heap.objs.size f cdv)) →
      DSs (cxOf CX0 P w K mg base N qual (defScope st) f cdv A outer s H E).nox (defBody st) fb) : Fn P w K mg base (k + 1) x ps.length (mDef N.length fb) :=
  ⟨f, fd, ps, fn_def F S body, hm, F.kp, hb⟩
end
section
variable {X : Cx} {e : Expr} {es : List Expr} {fr : AA} {pos : Pos}
theorem de_callF {k : Nat} {n : Nat} {g : List D → Hd → Option (D × Hd)} {x : Str} {p : Pos} (F : Fn X.prog X.w X.K X.mg X.base k x n g) (hr : RoomG k X.A) (hg : Gl X x) (ha : DA X (e :: es) fr)
    (hdb : (x == ("__debug__" : Str)) = false := by decide) (he : starEach (e :: es) X.env = (false, eval e X.env) :: starEach es X.env := by rfl) (hpl : (backTo pos (starEach es X.env)).any (·.1) = false := by rfl) :
    DE X (.Call (.Name x p) (e :: es) [] pos) (mAs fr (ar n g)) := by
  obtain ⟨f, fd, ps, F, a, b, c⟩ := F.ex
  exact de_call F hr hg a b c ha hdb he hpl
end
end Ve
theorem L2.Room.units65 {k : Nat} {A : PySem.Around} (r : L2.Room k A) : A.units + 65 < PySem.cLine := by
  have := r.un
  omega
namespace Ve
open PySem PySem.Spec L2
theorem bb_len : bootBuiltins "len" = some (.builtin "len") := by decide +kernel
theorem bb_max : bootBuiltins "max" = some (.builtin "max") := by decide +kernel
theorem bb_min : bootBuiltins "min" = some (.builtin "min") := by decide +kernel
theorem bb_sorted : bootBuiltins "sorted" = some (.builtin "sorted") := by decide +kernel
theorem bb_isinstance : bootBuiltins "isinstance" = some (.builtin "isinstance") := by decide +kernel
theorem bb_int : bootBuiltins "int" = some (.type "int") := by decide +kernel
theorem bb_bool : bootBuiltins "bool" = some (.type "bool") := by decide +kernel
theorem bb_list : bootBuiltins "list" = some (.type "list") := by decide +kernel
theorem bb_tuple : bootBuiltins "tuple" = some (.type "tuple") := by decide +kernel
theorem bb_dict : bootBuiltins "dict" = some (.type "dict") := by decide +kernel
section
variable {X : Cx} {a b c : Expr} {fa fb fc : AE} {fl : AA} {pos : Pos}
theorem dt_cmpL {op : CmpOp} {g : D → List D → Hd → Option (D × Hd)} (ho : OpR X (compareOp op) (RL X.K g)) (ha : DE X a fa) (hb : LE X b fl) (hm : behindInMarks op b = false) : DT X (.Compare a [op] [b] pos) (mT (m2L fa fl g)) :=
  PT.imp (pt_cmpR ho ha hb hm) fun _ _ _ h => tTest_of (fun _ _ _ h => tOpL_of h) h
end
theorem scAt_of {K : PySem.W.Frag} {H : Hp} {a : Addr} {xs : List V} (ho : Only H) (h : SqL K H a xs) : ScAt K H a xs := by
  rcases h with (h | ⟨o, h⟩) | h
  · rcases ho a with z | ⟨o, ys, z⟩
    · rw [h] at z
      cases z
    · rw [h] at z
      cases z
  · exact .inl ⟨o, h⟩
  · exact .inr h
theorem Rps.mk {K : PySem.W.Frag} {H : Hp} {μ : List Addr} {d : D} {ds : List D} {v : V} {vs : List V} (r : Rp K H μ d v) (rs : Rps K H μ ds vs) : Rps K H μ (d :: ds) (v :: vs) := by
  rw [Rps]
  exact ⟨v, vs, rfl, r, rs⟩
theorem Rp.wt {K : PySem.W.Frag} {H : Hp} {μ : List Addr} {ds : List D} {a : Addr} {its : Array Value} {n : Nat} {sl : Array (Option Value)} {vs : List V} (h : K.lookup a = some ⟨.type "tuple", none, .seq its n, sl⟩) (hl : its.size ≤ sizeLine) (hv : Vals vs its.toList)
    (r : Rps K H μ ds vs) : Rp K H μ (.wt ds) (.ref a) := by
  rw [Rp]
  exact ⟨a, vs, rfl, .inr ⟨_, its, n, h, rfl, rfl, rfl, hl, hv⟩, r⟩
end Ve
namespace Ve
open PySem PySem.Spec L2
mutual
def D.all (p : Nat → Bool) : D → Bool
  | .ref k => p k
  | .tup ds => D.alls p ds
  | .wt ds => D.alls p ds
  | .non => true
  | .bl _ => true
  | .int _ => true
  | .str _ => true
  | .scr _ => true
def D.alls (p : Nat → Bool) : List D → Bool
  | [] => true
  | d :: ds => D.all p d && D.alls p ds
end
mutual
def D.map (f : Nat → Nat) : D → D
  | .ref k => .ref (f k)
  | .tup ds => .tup (D.maps f ds)
  | .wt ds => .wt (D.maps f ds)
  | .non => .non
  | .bl b => .bl b
  | .int i => .int i
  | .str x => .str x
  | .scr ns => .scr ns
def D.maps (f : Nat → Nat) : List D → List D
  | [] => []
  | d :: ds => D.map f d :: D.maps f ds
end
def kvAll (p : Nat → Bool) : List (D × D) → Bool
  | [] => true
  | x :: r => D.all p x.1 && D.all p x.2 && kvAll p r
def kvMap (f : Nat → Nat) : List (D × D) → List (D × D)
  | [] => []
  | p :: r => (p.1, D.map f p.2) :: kvMap f r
def O.all (p : Nat → Bool) : O → Bool
  | .lst xs => D.alls p xs
  | .dic kvs => kvAll p kvs
  | .dicL kvs => kvAll p kvs
  | .dicN ks => D.alls p ks
  | .dicM ks => D.alls p ks
  | .ins _ kvs => kvAll p kvs
  | .exc _ => true
  | .tab _ => true
def O.map (f : Nat → Nat) : O → O
  | .lst xs => .lst (D.maps f xs)
  | .dic kvs => .dic (kvMap f kvs)
  | .dicL kvs => .dicL (kvMap f kvs)
  | .dicN ks => .dicN ks
  | .dicM ks => .dicM ks
  | .ins c kvs => .ins c (kvMap f kvs)
  | .exc c => .exc c
  | .tab c => .tab c
section
variable {K : PySem.W.Frag} {H : Hp} {μ μ2 : List Addr}
mutual
theorem Rp.mapped {f : Nat → Nat} {p : Nat → Bool} (hf : ∀ k, p k = true → k < μ2.length → μ[f k]? = μ2[k]?) : ∀ {d : D} {v : V}, D.all p d = true → Rp K H μ2 d v → Rp K H μ (D.map f d) v
  | .non, _, _, h => by rw [D.map]; exact h.nonE ▸ Rp.non
  | .bl _, _, _, h => by rw [D.map]; exact h.blE ▸ Rp.bl
  | .int _, _, _, h => by rw [D.map]; exact h.intE ▸ Rp.int
  | .str _, _, _, h => by rw [D.map]; exact h.strE ▸ Rp.str
  | .scr ns, _, _, h => by
    obtain ⟨a, rfl, s⟩ := h.scrE
    rw [D.map, Rp]
    exact ⟨a, rfl, s⟩
  | .ref k, v, hl, h => by
    obtain ⟨a, e, rfl⟩ := h.refE
    rw [D.all] at hl
    rw [D.map, Rp]
    exact ⟨a, by rw [hf k hl (List.getElem?_eq_some_iff.mp e).1]; exact e, rfl⟩
  | .tup ds, _, hl, h => by
    obtain ⟨a, vs, rfl, t, r⟩ := h.tupE
    rw [D.all] at hl
    rw [D.map, Rp]
    exact ⟨a, vs, rfl, t, Rps.mapped hf hl r⟩
  | .wt ds, _, hl, h => by
    obtain ⟨a, vs, rfl, t, r⟩ := h.wtE
    rw [D.all] at hl
    rw [D.map, Rp]
    exact ⟨a, vs, rfl, t, Rps.mapped hf hl r⟩
theorem Rps.mapped {f : Nat → Nat} {p : Nat → Bool} (hf : ∀ k, p k = true → k < μ2.length → μ[f k]? = μ2[k]?) : ∀ {ds : List D} {vs : List V}, D.alls p ds = true → Rps K H μ2 ds vs → Rps K H μ (D.maps f ds) vs
  | [], _, _, h => by
    rw [Rps] at h
    rw [D.maps, Rps]
    exact h
  | d :: ds, _, hl, h => by
    rw [D.alls, Bool.and_eq_true] at hl
    rw [Rps] at h
    obtain ⟨v, r, rfl, h1, h2⟩ := h
    rw [D.maps, Rps]
    exact ⟨v, r, rfl, Rp.mapped hf hl.1 h1, Rps.mapped hf hl.2 h2⟩
end
theorem RpK.mapped {f : Nat → Nat} {p : Nat → Bool} (hf : ∀ k, p k = true → k < μ2.length → μ[f k]? = μ2[k]?) : ∀ {ds : List (D × D)} {vs : List (Key × V)}, kvAll p ds = true → RpK K H μ2 ds vs → RpK K H μ (kvMap f ds) vs
  | [], _, _, h => by
    rw [RpK] at h
    rw [kvMap, RpK]
    exact h
  | d :: ds, _, hl, h => by
    rw [kvAll, Bool.and_eq_true, Bool.and_eq_true] at hl
    rw [RpK] at h
    obtain ⟨k, v, r, rfl, h0, h1, h2⟩ := h
    rw [kvMap, RpK]
    exact ⟨k, v, r, rfl, h0, Rp.mapped hf hl.1.2 h1, RpK.mapped hf hl.2 h2⟩
theorem RpT.mapped {f : Nat → Nat} {p : Nat → Bool} (hf : ∀ k, p k = true → k < μ2.length → μ[f k]? = μ2[k]?) : ∀ {ds : List (D × D)} {vs : List (List Key × V)}, kvAll p ds = true → RpT K H μ2 ds vs → RpT K H μ (kvMap f ds) vs
  | [], _, _, h => by
    rw [RpT] at h
    rw [kvMap, RpT]
    exact h
  | d :: ds, _, hl, h => by
    rw [kvAll, Bool.and_eq_true, Bool.and_eq_true] at hl
    rw [RpT] at h
    obtain ⟨ks, k, v, r, e0, rfl, h0, h1, h2⟩ := h
    rw [kvMap, RpT]
    exact ⟨ks, k, v, r, e0, rfl, h0, Rp.mapped hf hl.1.2 h1, RpT.mapped hf hl.2 h2⟩
theorem KNd.mapped {f : Nat → Nat} : ∀ {kvs : List (D × D)}, KNd kvs → KNd (kvMap f kvs)
  | [], _ => True.intro
  | p :: r, h => by
    refine ⟨fun q hq => ?_, KNd.mapped h.2⟩
    have hm : ∀ {l : List (D × D)}, q ∈ kvMap f l → ∃ q2 ∈ l, q2.1 = q.1 := by
      intro l
      induction l with
      | nil => intro h; cases h
      | cons x xs ih =>
        intro h
        rcases List.mem_cons.mp h with z | z
        · exact ⟨x, List.mem_cons_self, by rw [z]⟩
        · obtain ⟨q2, h2, e⟩ := ih z
          exact ⟨q2, List.mem_cons_of_mem _ h2, e⟩
    obtain ⟨q2, h2, e⟩ := hm hq
    rw [← e]
    exact h.1 q2 h2
theorem Ro.mapped {f : Nat → Nat} {p : Nat → Bool} (hf : ∀ k, p k = true → k < μ2.length → μ[f k]? = μ2[k]?) {o : O} {h : Option HO} (hl : O.all p o = true) (r : Ro K H μ2 o h) : Ro K H μ (O.map f o) h := by
  cases o with
  | lst xs => obtain ⟨vs, e, q⟩ := r; exact ⟨vs, e, q.mapped hf hl⟩
  | dic kvs =>
    obtain ⟨nd, ⟨vs, e, q⟩ | ⟨vs, e, q⟩⟩ := r
    · exact ⟨nd.mapped, .inl ⟨vs, e, q.mapped hf hl⟩⟩
    · exact ⟨nd.mapped, .inr ⟨vs, e, q.mapped hf hl⟩⟩
  | dicL kvs =>
    obtain ⟨nd, ⟨o, vs, e, q⟩ | ⟨o, vs, e, q⟩⟩ := r
    · exact ⟨nd.mapped, .inl ⟨o, vs, e, q.mapped hf hl⟩⟩
    · exact ⟨nd.mapped, .inr ⟨o, vs, e, q.mapped hf hl⟩⟩
  | dicN ks => obtain ⟨a, kas, e, q⟩ := r; exact ⟨a, kas, e, q.any⟩
  | dicM ks => obtain ⟨a, kas, od, e, q⟩ := r; exact ⟨a, kas, od, e, q.any⟩
  | ins c kvs => obtain ⟨C, dx, vs, e, hc, q⟩ := r; exact ⟨C, dx, vs, e, hc, q.mapped hf hl⟩
  | exc c => exact r
  | tab c => exact r
end
structure Run (m : List D → Hd → Option (D × Hd)) (ds : List D) (hp : Hd) (d : D) (hp' : Hd) (σ κ : List Nat) (dsS : List D) (os : Hd) (d2 : D) (g : Hd) (f : Nat → Nat) (kp : Nat → Bool) : Prop where
  run : m dsS os = some (d2, g)
  nd : σ.Nodup
  lt : ∀ i ∈ σ, i < hp.length
  len : os.length = σ.length
  args : ds = D.rens σ dsS
  argsLt : D.lts σ.length dsS = true
  objs : ∀ (i : Nat) (o : O), os[i]? = some o → O.lt σ.length o = true ∧ hp[σ.getD i 0]? = some (O.ren σ o)
  kNd : κ.Nodup
  kLt : ∀ k ∈ κ, σ.length ≤ k ∧ k < g.length
  fOld : ∀ i, i < σ.length → f i = σ.getD i 0
  fNew : ∀ (t : Nat) (k : Nat), κ[t]? = some k → f k = hp.length + t
  kpIs : ∀ i, kp i = true → i < σ.length ∨ i ∈ κ
  res : D.all kp d2 = true ∧ d = D.map f d2
  len' : hp'.length = hp.length + κ.length
  rest : ∀ j, j < hp.length → j ∉ σ → hp'[j]? = hp[j]?
  old : ∀ i, i < σ.length → ∃ o, g[i]? = some o ∧ O.all kp o = true ∧ hp'[σ.getD i 0]? = some (O.map f o)
  new : ∀ (t : Nat) (k : Nat), κ[t]? = some k → ∃ o, g[k]? = some o ∧ O.all kp o = true ∧ hp'[hp.length + t]? = some (O.map f o)
def Cl (c m : List D → Hd → Option (D × Hd)) : Prop := ∀ ds hp d hp', c ds hp = some (d, hp') → ∃ σ κ dsS os d2 g f kp, Run m ds hp d hp' σ κ dsS os d2 g f kp
section
variable {K : PySem.W.Frag} {H : Hp} {μ : List Addr} {hp hp' : Hd} {m : List D → Hd → Option (D × Hd)} {ds dsS : List D} {d d2 : D} {σ κ : List Nat} {os g : Hd} {f : Nat → Nat} {kp : Nat → Bool}
theorem Run.start (R : Run m ds hp d hp' σ κ dsS os d2 g f kp) (rh : RelH K H μ hp) : RelH K H (pick μ σ) os := by
  have hσ : ∀ j ∈ σ, j < μ.length := fun j hj => by rw [rh.len]; exact R.lt j hj
  have hg : ∀ (i : Nat), i < σ.length → (pick μ σ)[i]? = μ[σ.getD i 0]? := fun i hi => by
    unfold pick
    have h1 : σ.getD i 0 = σ[i] := by simp [List.getD, hi]
    have h2 := hσ _ (List.getElem_mem hi)
    rw [List.getElem?_map, List.getElem?_eq_getElem hi, h1, List.getElem?_eq_getElem h2]
    simp [List.getD, h2]
  refine ⟨by simp [pick, R.len], ?_, fun i o a e1 e2 => ?_, fun i x a e1 e2 => ?_⟩
  · refine List.pairwise_iff_getElem.mpr fun i j hi hj hij => ?_
    have hi' : i < σ.length := by simpa [pick] using hi
    have hj' : j < σ.length := by simpa [pick] using hj
    have a1 := hσ _ (List.getElem_mem hi')
    have a2 := hσ _ (List.getElem_mem hj')
    have g1 : (pick μ σ)[i] = μ[σ[i]] := by simp [pick, List.getD, a1]
    have g2 : (pick μ σ)[j] = μ[σ[j]] := by simp [pick, List.getD, a2]
    rw [g1, g2]
    intro z
    have := (List.getElem_inj rh.nd).mp z
    have := (List.getElem_inj R.nd).mp this
    omega
  · obtain ⟨h1, h2⟩ := R.objs i o e1
    have hi : i < σ.length := by rw [← R.len]; exact (List.getElem?_eq_some_iff.mp e1).1
    rw [hg i hi] at e2
    exact (rh.obj _ _ a h2 e2).pick hσ h1
  · obtain ⟨h1, h2⟩ := R.objs i _ e1
    have hi : i < σ.length := by rw [← R.len]; exact (List.getElem?_eq_some_iff.mp e1).1
    rw [hg i hi] at e2
    exact rh.tabs _ x a h2 e2
theorem Run.sound (R : Run m ds hp d hp' σ κ dsS os d2 g f kp) (rh : RelH K H μ hp) {v : V} {H' : Hp} {μ2 : List Addr} (x : Ext (pick μ σ) H μ2 H') (rh2 : RelH K H' μ2 g) (rv : Rp K H' μ2 d2 v) :
    ∃ μ', Ext μ H μ' H' ∧ RelH K H' μ' hp' ∧ Rp K H' μ' d v := by
  have hσ : ∀ j ∈ σ, j < μ.length := fun j hj => by rw [rh.len]; exact R.lt j hj
  have hpl : (pick μ σ).length = σ.length := by simp [pick]
  have hg : ∀ (i : Nat), i < σ.length → (pick μ σ)[i]? = μ[σ.getD i 0]? := fun i hi => by
    unfold pick
    have h1 : σ.getD i 0 = σ[i] := by simp [List.getD, hi]
    have h2 := hσ _ (List.getElem_mem hi)
    rw [List.getElem?_map, List.getElem?_eq_getElem hi, h1, List.getElem?_eq_getElem h2]
    simp [List.getD, h2]
  have hsub : ∀ a ∈ pick μ σ, a ∈ μ := fun a ha => by
    obtain ⟨j, hj, e⟩ := List.mem_map.mp ha
    have := hσ j hj
    rw [← e]
    simp [List.getD, this]
  have h2i : ∀ (i : Nat), i < σ.length → μ2[i]? = μ[σ.getD i 0]? := fun i hi => by
    rw [← hg i hi]
    obtain ⟨ν, e⟩ := x.pre
    rw [e, List.getElem?_append_left (by rw [hpl]; exact hi)]
  let N := κ.map fun k => μ2.getD k 0
  have hN : ∀ (t k : Nat), κ[t]? = some k → N[t]? = μ2[k]? := fun t k e => by
    show (κ.map fun k => μ2.getD k 0)[t]? = _
    rw [List.getElem?_map, e]
    have hk : k < μ2.length := by rw [rh2.len]; exact (R.kLt k (List.mem_of_getElem? e)).2
    show some (μ2.getD k 0) = _
    rw [List.getElem?_eq_getElem hk]
    simp [List.getD, hk]
  have hnew : ∀ a ∈ N, a ∉ μ ∧ ∃ k ∈ κ, μ2[k]? = some a := fun a ha => by
    obtain ⟨k, hk, e⟩ := List.mem_map.mp ha
    obtain ⟨hk1, hk2⟩ := R.kLt k hk
    have hk2' : k < μ2.length := by rw [rh2.len]; exact hk2
    have e2 : μ2[k]? = some a := by
      rw [← e, List.getElem?_eq_getElem hk2']
      simp [List.getD, hk2']
    refine ⟨fun hm => ?_, k, hk, e2⟩
    by_cases hp1 : a ∈ pick μ σ
    · obtain ⟨i, hi, e3⟩ := List.mem_iff_getElem.mp hp1
      obtain ⟨ν, e4⟩ := x.pre
      have hi2 : i < μ2.length := by rw [e4, List.length_append]; omega
      have e5 : μ2[i]? = some a := by rw [e4, List.getElem?_append_left hi, List.getElem?_eq_getElem hi, e3]
      rw [List.getElem?_eq_getElem hi2] at e5
      rw [List.getElem?_eq_getElem hk2'] at e2
      have := (List.getElem_inj rh2.nd).mp ((Option.some.inj e5).trans (Option.some.inj e2).symm)
      rw [hpl] at hi
      omega
    · obtain ⟨u, eu, _⟩ := rh.taken hm
      exact x.new a u hp1 eu (List.mem_of_getElem? e2)
  have hf : ∀ k, kp k = true → k < μ2.length → (μ ++ N)[f k]? = μ2[k]? := fun k hk hl => by
    rcases R.kpIs k hk with h | h
    · rw [R.fOld k h, List.getElem?_append_left (hσ _ (by simp [List.getD, h])), h2i k h]
    · obtain ⟨t, ht, e⟩ := List.mem_iff_getElem.mp h
      have e' : κ[t]? = some k := by rw [List.getElem?_eq_getElem ht, e]
      rw [R.fNew t k e', List.getElem?_append_right (by rw [rh.len]; omega), rh.len, Nat.add_sub_cancel_left, hN t k e']
  have xx : Ext μ H (μ ++ N) H' := by
    refine ⟨⟨N, rfl⟩, fun a o hn e hm => ?_, fun a o hn e => x.keep a o (fun z => hn (hsub a z)) e, x.tups, x.scrs⟩
    rcases List.mem_append.mp hm with z | z
    · exact hn z
    · obtain ⟨_, k, hk, e2⟩ := hnew a z
      exact x.new a o (fun z => hn (hsub a z)) e (List.mem_of_getElem? e2)
  refine ⟨μ ++ N, xx, ⟨by rw [List.length_append, R.len', rh.len]; simp [N], ?_, fun j o a e1 e2 => ?_, fun j x1 a e1 e2 => ?_⟩, ?_⟩
  · refine List.nodup_append.mpr ⟨rh.nd, ?_, fun a ha b hb z => ?_⟩
    · refine List.pairwise_iff_getElem.mpr fun i j hi hj hij z => ?_
      have hi' : i < κ.length := by simpa [N] using hi
      have hj' : j < κ.length := by simpa [N] using hj
      have e1 := hN i κ[i] (List.getElem?_eq_getElem hi')
      have e2 := hN j κ[j] (List.getElem?_eq_getElem hj')
      rw [List.getElem?_eq_getElem hi] at e1
      rw [List.getElem?_eq_getElem hj] at e2
      have k1 : κ[i] < μ2.length := by rw [rh2.len]; exact (R.kLt _ (List.getElem_mem hi')).2
      have k2 : κ[j] < μ2.length := by rw [rh2.len]; exact (R.kLt _ (List.getElem_mem hj')).2
      rw [List.getElem?_eq_getElem k1] at e1
      rw [List.getElem?_eq_getElem k2] at e2
      have := (List.getElem_inj rh2.nd).mp (((Option.some.inj e1).symm.trans z).trans (Option.some.inj e2))
      have := (List.getElem_inj R.kNd).mp this
      omega
    · subst z
      exact (hnew a hb).1 ha
  · by_cases hj : j < hp.length
    · rw [List.getElem?_append_left (by rw [rh.len]; exact hj)] at e2
      by_cases hm : j ∈ σ
      · obtain ⟨i, hi, e⟩ := List.mem_iff_getElem.mp hm
        obtain ⟨o2, h1, h2, h3⟩ := R.old i hi
        have ej : σ.getD i 0 = j := by simp [List.getD, hi, e]
        rw [ej, e1] at h3
        cases h3
        have e3 := h2i i hi
        rw [ej, e2] at e3
        exact (rh2.obj i o2 a h1 e3).mapped hf h2
      · rw [R.rest j hj hm] at e1
        have q := rh.obj j o a e1 e2
        obtain ⟨u, eu, _⟩ := q.some
        have hna : a ∉ pick μ σ := fun z => by
          obtain ⟨k, hk, e⟩ := List.mem_map.mp z
          have hk2 := hσ k hk
          have e5 : μ[k]? = some a := by
            rw [← e, List.getElem?_eq_getElem hk2]
            simp [List.getD, hk2]
          obtain ⟨l1, e6⟩ := List.getElem?_eq_some_iff.mp e5
          obtain ⟨l2, e7⟩ := List.getElem?_eq_some_iff.mp e2
          have := (List.getElem_inj rh.nd).mp (e6.trans e7.symm)
          exact hm (this ▸ hk)
        rw [x.keep a u hna eu, ← eu]
        exact q.mon xx.m
    · have hj2 : j < hp'.length := (List.getElem?_eq_some_iff.mp e1).1
      have hlen' := R.len'
      have ht : j - hp.length < κ.length := by omega
      obtain ⟨o2, h1, h2, h3⟩ := R.new (j - hp.length) κ[j - hp.length] (List.getElem?_eq_getElem ht)
      have ej : hp.length + (j - hp.length) = j := by omega
      rw [ej, e1] at h3
      cases h3
      rw [List.getElem?_append_right (by rw [rh.len]; omega), rh.len, hN _ _ (List.getElem?_eq_getElem ht)] at e2
      exact (rh2.obj _ o2 a h1 e2).mapped hf h2
  · have tb : ∀ o : O, O.map f o = .tab x1 → o = .tab x1 := fun o z => by cases o <;> first | exact z | exact nomatch z
    by_cases hj : j < hp.length
    · rw [List.getElem?_append_left (by rw [rh.len]; exact hj)] at e2
      by_cases hm : j ∈ σ
      · obtain ⟨i, hi, e⟩ := List.mem_iff_getElem.mp hm
        obtain ⟨o2, h1, h2, h3⟩ := R.old i hi
        have ej : σ.getD i 0 = j := by simp [List.getD, hi, e]
        rw [ej, e1] at h3
        have e3 := h2i i hi
        rw [ej, e2] at e3
        rw [tb o2 (Option.some.inj h3).symm] at h1
        exact rh2.tabs i x1 a h1 e3
      · rw [R.rest j hj hm] at e1
        exact rh.tabs j x1 a e1 e2
    · have hj2 : j < hp'.length := (List.getElem?_eq_some_iff.mp e1).1
      have hlen' := R.len'
      have ht : j - hp.length < κ.length := by omega
      obtain ⟨o2, h1, h2, h3⟩ := R.new (j - hp.length) κ[j - hp.length] (List.getElem?_eq_getElem ht)
      have ej : hp.length + (j - hp.length) = j := by omega
      rw [ej, e1] at h3
      rw [List.getElem?_append_right (by rw [rh.len]; omega), rh.len, hN _ _ (List.getElem?_eq_getElem ht)] at e2
      rw [tb o2 (Option.some.inj h3).symm] at h1
      exact rh2.tabs _ x1 a h1 e2
  · rw [R.res.2]
    exact rv.mapped hf R.res.1
end
theorem Fn.cl {P : Program} {w : World} {K : PySem.W.Frag} {mg : Str → Option Value} {base : Heap} {k n : Nat} {x : Str} {m c : List D → Hd → Option (D × Hd)} (F : Fn P w K mg base k x n m) (h : Cl c m) : Fn P w K mg base k x n c := by
  obtain ⟨f, fd, ps, F, a, b, e⟩ := F.ex
  refine ⟨f, fd, ps, F.imp fun vs H Q E q => ?_, a, b, e⟩
  obtain ⟨hp, μ, ds, d, hp', hn, rh, r, ec, q⟩ := q
  obtain ⟨σ, κ, dsS, os, d2, g, f, kp, R⟩ := h ds hp d hp' ec
  have hσ : ∀ j ∈ σ, j < μ.length := fun j hj => by rw [rh.len]; exact R.lt j hj
  have ra : Rps K H (pick μ σ) dsS vs := Rps.pick hσ R.argsLt (by rw [← R.args]; exact r)
  refine ⟨os, pick μ σ, dsS, d2, g, ?_, R.start rh, ra, R.run, fun v H' μ2 x rh2 rv => ?_⟩
  · rw [← hn, R.args]
    have : ∀ l : List D, (D.rens σ l).length = l.length := by
      intro l
      induction l with
      | nil => rfl
      | cons y ys ih => rw [D.rens, List.length_cons, List.length_cons, ih]
    rw [this]
  · obtain ⟨μ', x', rh', rv'⟩ := R.sound rh x rh2 rv
    exact q v H' μ' x' rh' rv'
end Ve
namespace Ve
open PySem PySem.Spec L2
def cutD {α : Type} (xs : List α) (lo hi : Option Int) : List α := (xs.drop (HT.sIx xs.length 0 lo)).take (HT.sIx xs.length xs.length hi - HT.sIx xs.length 0 lo)
theorem Rps.cut {K : PySem.W.Frag} {H : Hp} {μ : List Addr} {ds : List D} {vs : List V} (r : Rps K H μ ds vs) (lo hi : Option Int) : Rps K H μ (cutD ds lo hi) (cutV vs lo hi) := by
  unfold cutD cutV
  rw [r.len]
  exact (r.drop _).take _
def gSl (x : D) (lo hi : Option Int) (hp : Hd) : Option (D × Hd) := match x with
  | .tup ds => some (.tup (cutD ds lo hi), hp)
  | .wt ds => if HT.sIx ds.length 0 lo = 0 ∧ HT.sIx ds.length ds.length hi = ds.length then some (.wt ds, hp) else some (.tup (cutD ds lo hi), hp)
  | .str z => if z.length ≤ sizeLine then some (.str (cutS z lo hi), hp) else none
  | .ref n => match hp[n]? with
    | some (.lst ds) => some (.ref hp.length, hp ++ [.lst (cutD ds lo hi)])
    | _ => none
  | _ => none
def mPo : Option AE → Ls → Hd → Option (Option Int × Hd)
  | none, _, hp => some (none, hp)
  | some f, ls, hp => match f ls hp with
    | some (.int i, hp1) => some (some i, hp1)
    | _ => none
def tOp' (K : PySem.W.Frag) (f : Option AE) : TO := fun σ H Q => ∃ ls hp μ o hp', Rl K H μ ls σ ∧ RelH K H μ hp ∧ mPo f ls hp = some (o, hp') ∧ ∀ H' μ', Ext μ H μ' H' → RelH K H' μ' hp' → Q o H'
abbrev DPO (X : Cx) (e : Option Expr) (f : Option AE) : Prop := PO X e (tOp' X.K f)
theorem PO.imp {X : Cx} {e : Option Expr} {t t' : TO} (h : PO X e t) (i : ∀ σ H Q, t' σ H Q → t σ H Q) : PO X e t' := ⟨fun pins s σ H Q I q => h.run pins s σ H Q I (i σ H Q q)⟩
def mSl (fa : AE) (fl fu : Option AE) : AE := fun ls hp => match fa ls hp with
  | some (x, hp1) => match mPo fl ls hp1 with
    | some (l, hp2) => match mPo fu ls hp2 with
      | some (u, hp3) => gSl x l u hp3
      | none => none
    | none => none
  | none => none
section
variable {X : Cx} {e a b : Expr} {es : List Expr} {fa fb : AE} {fl fm : AA} {fr : AA} {pos p2 : Pos} {lo hi : Option Expr} {ol oh : Option AE}
theorem dpo_none : DPO X none none := PO.imp po_none fun σ H Q ⟨ls, hp, μ, o, hp', rl, rh, e, q⟩ => by
  simp only [mPo] at e
  cases e
  exact q H μ Ext.refl rh
theorem dpo_some (h : DE X e fa) : DPO X (some e) (some fa) := PO.imp (po_some h) fun σ H Q ⟨ls, hp, μ, o, hp', rl, rh, e, q⟩ => by
  simp only [mPo] at e
  split at e
  · rename_i i hp1 e1
    cases e
    exact ⟨ls, hp, μ, .int i, hp', rl, rh, e1, fun v H1 μ1 x1 rh1 r1 => ⟨i, r1.intE, q H1 μ1 x1 rh1⟩⟩
  · cases e
theorem de_slice (ha : DE X a fa) (hl : DPO X lo ol) (hu : DPO X hi oh) : DE X (.Subscript a (.Slice lo hi none p2) pos) (mSl fa ol oh) :=
  PE.imp (pe_slice (SlR.or (SlR.or sl_tupA sl_list) sl_str) ha hl hu) fun σ H Q ⟨ls, hp, μ, d, hp', rl, rh, e, q⟩ => by
    unfold mSl at e
    split at e
    · rename_i x hp1 e1
      split at e
      · rename_i l hp2 e2
        split at e
        · rename_i u hp3 e3
          refine ⟨ls, hp, μ, x, hp1, rl, rh, e1, fun v H1 μ1 x1 rh1 r1 => ⟨ls, hp1, μ1, l, hp2, rl.ext x1, rh1, e2, fun H2 μ2 x2 rh2 => ⟨ls, hp2, μ2, u, hp3, (rl.ext x1).ext x2, rh2, e3, fun H3 μ3 x3 rh3 => ?_⟩⟩⟩
          have r3 := (r1.ext x2).ext x3
          have x13 := (x1.trans x2).trans x3
          unfold gSl at e
          split at e
          · rename_i ds
            cases e
            obtain ⟨p, vs, rfl, t, rs⟩ := r3.tupE
            refine .inl (.inl ⟨p, vs, rfl, t.sq, fun hw => ?_, fun _ p' hp0 => ?_⟩)
            · have hc : cutD ds l u = ds := by
                unfold cutD
                rw [← rs.len, hw.1, hw.2]
                simp
                rw [rs.len]
                exact List.take_length
              refine q _ H3 μ3 x13 rh3 ?_
              rw [hc]
              exact Rp.tup' t rs
            · have x4 := Ext.laid rh3 (o := .tup (cutV vs l u)) hp0
              exact q _ _ μ3 (x13.trans x4) (rh3.laid hp0) (Rp.tup upd_same ((rs.cut l u).ext x4))
          · rename_i ds
            obtain ⟨p, vs, rfl, t, rs⟩ := r3.wtE
            have r4 := r3
            split at e
            · rename_i hw
              cases e
              refine .inl (.inl ⟨p, vs, rfl, t.sq, fun _ => q _ H3 μ3 x13 rh3 r4, fun hn => absurd (by rw [rs.len]; exact hw) hn⟩)
            · rename_i hw
              cases e
              refine .inl (.inl ⟨p, vs, rfl, t.sq, fun hw2 => absurd (by rw [rs.len] at hw2; exact hw2) hw, fun _ p' hp0 => ?_⟩)
              have x4 := Ext.laid rh3 (o := .tup (cutV vs l u)) hp0
              exact q _ _ μ3 (x13.trans x4) (rh3.laid hp0) (Rp.tup upd_same ((rs.cut l u).ext x4))
          · split at e
            · rename_i z hz
              cases e
              exact .inr ⟨_, r3.strE, hz, q _ H3 μ3 x13 rh3 Rp.str⟩
            · cases e
          · rename_i n
            split at e
            · rename_i ds eh
              cases e
              obtain ⟨p, ep, rfl⟩ := r3.refE
              obtain ⟨vs, ev, rs⟩ := rh3.lst ep eh
              refine .inl (.inr ⟨p, vs, rfl, .inl (.inl ev), fun p' hp0 => ?_⟩)
              have x4 := Ext.laid rh3 (o := .lst (cutV vs l u)) hp0
              have rh4 := rh3.laid (o := .lst (cutV vs l u)) hp0
              have hn := rh3.notIn hp0
              refine q (.ref p') _ (μ3 ++ [p']) ((x13.trans x4).place (x13.back rh3 hp0)) (rh4.place hn ⟨_, upd_same, ((rs.cut l u).ext x4).mon Mon.grow⟩) ?_
              rw [Rp]
              refine ⟨p', ?_, rfl⟩
              rw [List.getElem?_append_right (by rw [rh3.len]; exact Nat.le_refl _), rh3.len]
              simp
            · cases e
          · cases e
        · cases e
      · cases e
    · cases e
def mCat (fl fm : AA) : AA := fun ls hp => match fl ls hp with
  | some (xs, hp1) => match fm ls hp1 with
    | some (ys, hp2) => if xs.length + ys.length ≤ sizeLine then some (xs ++ ys, hp2) else none
    | none => none
  | none => none
def lstOf (d : D) (hp : Hd) : Option (List D) := match d with
  | .ref n => match hp[n]? with
    | some (.lst xs) => some xs
    | _ => none
  | _ => none
theorem lstOf_some {d : D} {hp : Hd} {xs : List D} (h : lstOf d hp = some xs) : ∃ n, d = .ref n ∧ hp[n]? = some (.lst xs) := by
  unfold lstOf at h
  split at h
  · rename_i n
    split at h
    · rename_i xs' e
      cases h
      exact ⟨n, rfl, e⟩
    · cases h
  · cases h
def mCatOL (fa : AE) (fm : AA) : AA := fun ls hp => match fa ls hp with
  | some (x, hp1) => match fm ls hp1 with
    | some (ys, hp2) => match lstOf x hp2 with
      | some xs => if xs.length + ys.length ≤ sizeLine then some (xs ++ ys, hp2) else none
      | none => none
    | none => none
  | none => none
def mCatLO (fl : AA) (fb : AE) : AA := fun ls hp => match fl ls hp with
  | some (xs, hp1) => match fb ls hp1 with
    | some (y, hp2) => match lstOf y hp2 with
      | some ys => if xs.length + ys.length ≤ sizeLine then some (xs ++ ys, hp2) else none
      | none => none
    | none => none
  | none => none
def mRep (fl : AA) (fb : AE) : AA := fun ls hp => match fl ls hp with
  | some (xs, hp1) => match fb ls hp1 with
    | some (.int k, hp2) => if 0 ≤ k ∧ k < 2 ^ 40 ∧ xs.length * k.toNat ≤ sizeLine then some ((List.replicate k.toNat xs).flatten, hp2) else none
    | _ => none
  | none => none
theorem Rps.rep {K : PySem.W.Frag} {H : Hp} {μ : List Addr} {ds : List D} {vs : List V} (r : Rps K H μ ds vs) : ∀ n : Nat, Rps K H μ (List.replicate n ds).flatten (List.replicate n vs).flatten
  | 0 => Rps.nil
  | n + 1 => by
    rw [List.replicate_succ, List.replicate_succ, List.flatten_cons, List.flatten_cons]
    exact r.append (Rps.rep r n)
theorem le_rep (ha : LE X a fl) (hb : DE X b fb) : LE X (.BinOp a .Mult b pos) (mRep fl fb) :=
  PE.imp (pe_op op_rep ha hb) fun σ H Q ⟨ls, hp, μ, ds, hp', rl, rh, e, q⟩ => by
    unfold mRep at e
    split at e
    · rename_i xs hp1 e1
      split at e
      · rename_i k hp2 e2
        split at e
        · rename_i hz
          cases e
          refine ⟨ls, hp, μ, xs, hp1, rl, rh, e1, fun p vs H1 μ1 x1 rh1 h0 hn hl r1 => ⟨ls, hp1, μ1, _, hp', rl.ext x1, rh1, e2, fun v2 H2 μ2 x2 rh2 r2 => ?_⟩⟩
          refine ⟨p, k, vs, rfl, r2.intE, x2.keep _ _ hn hl, by omega, by omega, by rw [r1.len]; exact hz.2.2, fun p' hp0 => ?_⟩
          have x4 := Ext.laid rh2 (o := .lst (List.replicate k.toNat vs).flatten) hp0
          exact q p' _ _ μ2 ((x1.trans x2).trans x4) (rh2.laid hp0) ((x1.trans x2).back rh2 hp0) (rh2.notIn hp0) upd_same (((r1.ext x2).rep k.toNat).ext x4)
        · cases e
      · cases e
    · cases e
def sAsgL (ts : List Tg) (f : AA) : AS := fun ls hp => match f ls hp with
  | some (ds, hp1) => match Tg.asgs ts ds ls with
    | some ls1 => some (.nx, ls1, hp1)
    | none => none
  | none => none
end
end Ve
namespace Ve
open PySem PySem.Spec L2
def maxI : Int → List Int → Int
  | a, [] => a
  | a, b :: r => maxI (if a < b then b else a) r
def minI : Int → List Int → Int
  | a, [] => a
  | a, b :: r => minI (if b < a then b else a) r
def maxD (ds : List D) : Option Int := match ints? ds with
  | some (a :: r) => some (maxI a r)
  | _ => none
def minD (ds : List D) : Option Int := match ints? ds with
  | some (a :: r) => some (minI a r)
  | _ => none
section
variable {X : Cx}
def seqOfL (d : D) (hp : Hd) : Option (List D) := match d with
  | .scr ns => some (ns.map .int)
  | d => lstOf d hp
theorem seqOfL_some {K : PySem.W.Frag} {H : Hp} {μ : List Addr} {hp : Hd} {d : D} {v : V} {ds : List D} (rh : RelH K H μ hp) (r : Rp K H μ d v) (h : seqOfL d hp = some ds) : ∃ a vs, v = .ref a ∧ SqL K H a vs ∧ Rps K H μ ds vs := by
  unfold seqOfL at h
  split at h
  · rename_i ns
    cases h
    obtain ⟨a, rfl, t⟩ := r.scrE
    refine ⟨a, _, rfl, t.sq, ?_⟩
    have go : ∀ ns : List Int, Rps K H μ (ns.map .int) (ns.map V.int) := by
      intro ns
      induction ns with
      | nil => exact Rps.nil
      | cons n ns ih => exact Rps.mk Rp.int ih
    exact go ns
  · obtain ⟨n, rfl, e⟩ := lstOf_some h
    obtain ⟨a, ea, rfl⟩ := r.refE
    obtain ⟨vs, ev, rs⟩ := rh.lst ea e
    exact ⟨a, vs, rfl, .inl (.inl ev), rs⟩
theorem Rps.erase {K : PySem.W.Frag} {H : Hp} {μ : List Addr} {ds : List D} {vs : List V} (h : Rps K H μ ds vs) (k : Nat) : Rps K H μ (ds.eraseIdx k) (vs.eraseIdx k) := by
  rw [List.eraseIdx_eq_take_drop_succ, List.eraseIdx_eq_take_drop_succ]
  exact (h.take _).append (h.drop _)
def gPopAt (x : D) (ds : List D) (hp : Hd) : Option (D × Hd) := match ds with
  | [.int i] => if -(2 ^ 63) ≤ i ∧ i < 2 ^ 63 then onL x hp fun xs => match seqIndex? i xs.length with
    | some k => match xs[k]? with
      | some y => some (y, xs.eraseIdx k)
      | none => none
    | none => none else none
  | _ => none
theorem t_popAt : MtR X "list.pop" (RM X.K gPopAt) := fun pins s σ H x xs v us Q I rx rxs ⟨hp, μ, dx, ds, d, hp', rh, r1, rs, e, q⟩ => by
  unfold gPopAt at e
  split at e
  · rename_i i
    split at e
    · rename_i hi
      obtain ⟨n, ws, ys, rfl, e1, e2, rfl⟩ := onL_some e
      split at e2
      · rename_i k ek
        split at e2
        · rename_i y ey
          cases e2
          obtain ⟨w0, rfl, r2⟩ := rs.one
          cases r2.intE
          obtain ⟨a, ea, rfl⟩ := r1.refE
          obtain ⟨vs, ev, r3⟩ := rh.lst ea e1
          obtain ⟨w, ew, rw'⟩ := r3.get ey
          have x0 : Mon μ H μ (upd H a (.lst (vs.eraseIdx k))) := Mon.loose ev
          obtain ⟨r4, x1⟩ := rh.put (o := .lst (ws.eraseIdx k)) (u := .lst (vs.eraseIdx k)) ea ⟨_, rfl, (r3.erase k).mon x0⟩
          exact mt_popAt pins s σ H _ _ v us Q I rx rxs ⟨a, vs, i, k, w, rfl, rfl, ev, hi.1, hi.2, by rw [r3.len]; exact ek, ew, q _ _ μ x1 r4 (rw'.mon x0)⟩
        · cases e2
      · cases e2
    · cases e
  · cases e
end
end Ve
namespace Ve
open PySem PySem.Spec L2 PyProof.Rows
def encD (hp : Hd) (d : D) : PyData := (pyF hp 15 d).getD .none
def isTupC : PyData → Bool
  | .tuple (_ :: _) => true
  | _ => false
def notTN : PyData → Bool
  | .tuple _ => false
  | .none => false
  | _ => true
def srtOk (hp : Hd) (ds : List D) : Bool := (ds.all fun d => (pyF hp 15 d).isSome) && ((ds.all fun a => ds.all fun b => PySem.W.alike (encD hp a) (encD hp b)) && (((ds.all fun d => isTupC (encD hp d)) || ds.all fun d => notTN (encD hp d)) && ds.all fun d => decide ((encD hp d).depth ≤ 40)))
def srt (hp : Hd) (ds : List D) : List D := ds.mergeSort (PySem.W.dataLe false (encD hp))
def RelD (K : PySem.W.Frag) (H : Hp) (μ : List Addr) (u : Value) (d : D) : Prop := ∃ v, RelV v u ∧ Rp K H μ d v
section
variable {K : PySem.W.Frag} {H : Hp} {μ : List Addr} {hp : Hd}
theorem each_of : ∀ {ds : List D} {vs : List V} {us : List Value}, Rps K H μ ds vs → Vals vs us → PySem.W.EachIs (RelD K H μ) us ds
  | [], vs, us, h, r => by
    rw [Rps] at h
    subst h
    cases r
    exact .nil
  | d :: ds, vs, us, h, r => by
    rw [Rps] at h
    obtain ⟨v, w, rfl, h1, h2⟩ := h
    cases r with
    | cons r1 r2 => exact .cons ⟨v, r1, h1⟩ (each_of h2 r2)
theorem each_back : ∀ {ds : List D} {us : List Value}, PySem.W.EachIs (RelD K H μ) us ds → ∃ vs, Vals vs us ∧ Rps K H μ ds vs
  | _, _, .nil => ⟨[], .nil, Rps.nil⟩
  | _, _, .cons ⟨v, r1, h1⟩ t => by
    obtain ⟨vs, r2, h2⟩ := each_back t
    exact ⟨v :: vs, .cons r1 r2, Rps.mk h1 h2⟩
theorem each_at {α β : Type} {R : α → β → Prop} : ∀ {us : List α} {ds : List β}, us.length = ds.length → (∀ (j : Nat) u d, us[j]? = some u → ds[j]? = some d → R u d) → PySem.W.EachIs R us ds
  | [], [], _, _ => .nil
  | [], _ :: _, h, _ => by simp at h
  | _ :: _, [], h, _ => by simp at h
  | u :: us, d :: ds, h, f => .cons (f 0 u d rfl rfl) (each_at (by simpa using h) fun j a b e1 e2 => f (j + 1) a b (by simpa using e1) (by simpa using e2))
theorem srtOk_parts {ds : List D} (h : srtOk hp ds = true) : (∀ d ∈ ds, ∃ p, pyF hp 15 d = some p) ∧ PySem.W.AllAlike (ds.map (encD hp)) ∧ PySem.W.Sortable (ds.map (encD hp)) ∧ ∀ d ∈ ds, (encD hp d).depth ≤ 40 := by
  unfold srtOk at h
  rw [Bool.and_eq_true, Bool.and_eq_true, Bool.and_eq_true] at h
  obtain ⟨h1, h2, h3, h4⟩ := h
  refine ⟨fun d hd => Option.isSome_iff_exists.mp (List.all_eq_true.mp h1 d hd), fun a ha b hb => ?_, ?_, fun d hd => of_decide_eq_true (List.all_eq_true.mp h4 d hd)⟩
  · obtain ⟨x, hx, rfl⟩ := List.mem_map.mp ha
    obtain ⟨y, hy, rfl⟩ := List.mem_map.mp hb
    exact List.all_eq_true.mp (List.all_eq_true.mp h2 x hx) y hy
  · rcases Bool.or_eq_true _ _ ▸ h3 with h3 | h3
    · refine .inl fun d hd => ?_
      obtain ⟨x, hx, rfl⟩ := List.mem_map.mp hd
      have := List.all_eq_true.mp h3 x hx
      unfold isTupC at this
      split at this
      · rename_i e
        exact ⟨_, _, e⟩
      · cases this
    · refine .inr fun d hd => ?_
      obtain ⟨x, hx, rfl⟩ := List.mem_map.mp hd
      have := List.all_eq_true.mp h3 x hx
      refine ⟨fun e => ?_, fun xs e => ?_⟩ <;> rw [e] at this <;> cases this
end
section
variable {X : Cx} {pins : List (Addr × Obj)} {σ : L2.St} {H : Hp} {s : Shared} {μ : List Addr} {hp : Hd}
theorem each_reads (I : Inv X pins σ H s) (rh : RelH X.K H μ hp) {us : List Value} {ds : List D} (h : ∀ d ∈ ds, ∃ p, pyF hp 15 d = some p) (e : PySem.W.EachIs (RelD X.K H μ) us ds) : PySem.W.EachIs (fun u d => ∃ as, Reads s.heap u (encD hp d) as) us ds := by
  induction e with
  | nil => exact .nil
  | @cons u d us ds h1 t ih =>
    obtain ⟨v, r, rv⟩ := h1
    refine .cons ?_ (ih fun d hd => h d (List.mem_cons_of_mem _ hd))
    obtain ⟨p, e⟩ := h d List.mem_cons_self
    have := pyF_dp rh 15 d p v e rv
    unfold encD
    rw [e]
    exact Dp.reads I p v _ this r
theorem sorted_core {us : List Value} {ds : List D} {A : Around} {h' : Heap} {a : Addr} {tk : Nat} (I1 : Inv X pins σ H { s with heap := h', toks := tk }) (rh : RelH X.K H μ hp) (er : PySem.W.EachIs (RelD X.K H μ) us ds) (hs : srtOk hp ds = true) (hu : A.units + 44 < cLine) (ha : h'.get? a = none) (hh : ∀ b o, h'.get? b = some o → b ≠ a) (h2 : Heap) (k2 : ∀ b o, h'.get? b = some o → h2.get? b = some o) :
    PySem.W.SortsAt X.prog X.w A { s with heap := PySem.W.sortingHeap h2 a us, toks := tk } (PySem.W.dataKind (PySem.W.sortingHeap h2 a us) (ds.map (encD hp))) us ∧
      PySem.W.EachIs (RelD X.K H μ) (PySem.W.sortVals (PySem.W.dataKind (PySem.W.sortingHeap h2 a us) (ds.map (encD hp))) false us us) (srt hp ds) := by
  obtain ⟨h1, hal, hk, hdep⟩ := srtOk_parts hs
  have er1 := each_reads I1 rh h1 er
  have er2 : PySem.W.EachIs (fun u d => ∃ as, Reads (PySem.W.sortingHeap h2 a us) u (encD hp d) as) us ds := er1.mono fun _ _ ⟨as, r⟩ => ⟨as, PyProof.Rows.Reads.keeps (fun b o e => PySem.W.sortingHeap_old (hh b o e) (k2 b o e)) r⟩
  refine ⟨PySem.W.SortsAt.data (s := { s with heap := PySem.W.sortingHeap h2 a us, toks := tk }) (PySem.W.each_map (R := fun v d => ∃ as, Reads (PySem.W.sortingHeap h2 a us) v d as) (encD hp) er2) hal hk fun d hd => ?_, PySem.W.sortVals_data false er er2 hal⟩
  obtain ⟨x, hx, rfl⟩ := List.mem_map.mp hd
  have := hdep x hx
  omega
theorem sorted_of_src {T : String} {r d : Addr} {n : Nat} {P : Nat → Value → Prop} {OK : Heap → Prop} (KS : PySem.W.KdlSrc X.prog X.w T r d n P OK) (I : Inv X pins σ H s) (hc : X.calm = true) (hok : OK s.heap) (hn : n ≤ sizeLine) {ds : List D} (rh : RelH X.K H μ hp) (hs : srtOk hp ds = true) (hu : X.A.units + 64 < cLine) {Q : VK}
    (hacc : ∀ acc : Array Value, ItemsOf P acc n → PySem.W.EachIs (RelD X.K H μ) acc.toList ds) (q : ∀ p vs, H p = none → Rps X.K H μ (srt hp ds) vs → Q (.ref p) (upd H p (.lst vs))) :
    wpAny (model X.prog X.w) X.A (call (.builtin "sorted") [.ref r]) (EP X pins σ Q) X.xe s := by
  refine Calls.call_function_entry PyProof.Rows.kind_sorted PyProof.Rows.plain_sorted PyProof.Rows.entry_sorted (PyProof.Rows.args_sorted1 _) ?_
  unfold Builtin.«sorted»
  refine wpAny_bind (m := checkCount "sorted" 1 1 _) (wpAny_pure ?_)
  refine wpAny_bind (PySem.W.kdu_collect (A := X.A.in1) KS (I.ok.hd hc) hok hn fun h' tk acc hk hit => ?_)
  have er := hacc acc hit
  have I1 : Inv X pins σ H { s with heap := h', toks := tk } := I.kept hk
  have hz : acc.toList.length ≤ sizeLine := by rw [Array.length_toList, hit.1]; exact hn
  refine wpAny_bind (wpAny_newList ?_ hz)
  have hoL : (h'.push (seqObj "list" acc.toList.toArray 0)).get? h'.objs.size = some (seqObj "list" acc.toList.toArray 0) := Heap.get?_push_size _ rfl
  have hlt : ∀ b o, h'.get? b = some o → b ≠ h'.objs.size := fun b o e => Nat.ne_of_lt (Heap.lt_size e)
  have h0 : h'.get? h'.objs.size = none := by
    cases hh : h'.get? h'.objs.size with
    | none => rfl
    | some o => exact absurd rfl (hlt _ o hh)
  obtain ⟨S, eo⟩ := sorted_core (A := X.A.in1.in1) I1 rh er hs (show X.A.units + 1 + 1 + 44 < cLine by omega) h0 hlt (h'.push (seqObj "list" acc.toList.toArray 0)) fun b o e => Heap.get?_push_of_some _ e
  show wpAny _ _ _ _ _ { s with heap := h'.push (seqObj "list" acc.toList.toArray 0), toks := tk }
  refine wpAny_bind (wpAny_holding (wpAny_call_entry PyProof.Rows.slot_list_sort ⟨_, hoL, rfl⟩ PyProof.Rows.entry_list_sort
    (PySem.W.list_sort_vals (s := { s with heap := h'.push (seqObj "list" acc.toList.toArray 0), toks := tk }) hoL S hz ⟨_, rfl, ?_⟩)
    (PyProof.Rows.args_list_sort _)))
  obtain ⟨vs', rv', rs'⟩ := each_back eo
  obtain ⟨e', he'⟩ := PyProof.Rows.sortedHeap_at (vs := acc.toList) (out := (PySem.W.sortVals (PySem.W.dataKind (PySem.W.sortingHeap (h'.push (seqObj "list" acc.toList.toArray 0)) h'.objs.size acc.toList) (ds.map (encD hp))) false acc.toList acc.toList).toArray) hoL
  have hlen : vs'.length ≤ sizeLine := by
    rw [rs'.len]
    unfold srt
    rw [List.length_mergeSort, ← er.length]
    exact hz
  refine wpAny_pure ⟨_, rfl, .ref h'.objs.size, upd H h'.objs.size (.lst vs'), I1.laid (t' := tk) (fun b u e => ?_) (Nat.le_refl _)
    (show ObjOk X.prog X.w _ _ _ (.lst vs') from ⟨hlen, _, e', rv', he'⟩), rfl, q _ vs' (I1.hok.fresh (Nat.le_refl _)) rs'⟩
  have hb : b < h'.objs.size := Heap.lt_size e
  rw [PyProof.Rows.sortedHeap_old (Nat.ne_of_lt hb) (by rw [size_push']; exact Nat.lt_succ_of_lt hb)]
  exact Heap.get?_push_of_some _ e
theorem sorted_of_list {a : Addr} {ds : List D} {vs : List V} (I : Inv X pins σ H s) (hq : SqL X.K H a vs) (rs : Rps X.K H μ ds vs) (rh : RelH X.K H μ hp) (hs : srtOk hp ds = true) (hu : X.A.units + 64 < cLine) {Q : VK}
    (q : ∀ p vs, H p = none → Rps X.K H μ (srt hp ds) vs → Q (.ref p) (upd H p (.lst vs))) :
    wpAny (model X.prog X.w) X.A (call (.builtin "sorted") [.ref a]) (EP X pins σ Q) X.xe s := by
  obtain ⟨its, rv, hl, hz⟩ := I.list hq
  have er := each_of rs rv
  obtain ⟨h1, hal, hk, hdep⟩ := srtOk_parts hs
  refine PySem.W.sorted_data (bs := ds) (enc := encD hp) hl.isList er (each_reads I rh h1 er) hal hk (by rw [← rs.len]; exact hz) (fun b hb => ?_) fun out ho eo => ?_
  · have := hdep b hb
    omega
  · obtain ⟨vs', rv', rs'⟩ := each_back (ds := srt hp ds) eo
    obtain ⟨ep, he'⟩ := PyProof.Rows.sortedAll_at s.heap its out.toArray
    have hlen : vs'.length ≤ sizeLine := by
      rw [rs'.len]
      unfold srt
      rw [List.length_mergeSort, ← rs.len]
      exact hz
    exact ⟨.ref _, upd H (s.heap.objs.size + 1) (.lst vs'), I.laid (t' := s.toks) (fun _ _ => PyProof.Rows.sortedAll_old) (Nat.le_succ _) ⟨hlen, out, ep, rv', he'⟩, rfl, q _ vs' (I.hok.fresh (Nat.le_succ _)) rs'⟩
end
end Ve
namespace Ve
open PySem PySem.Spec L2
def TLL (K : PySem.W.Frag) (hp' : Hd) (ds' : List D) (μ : List Addr) (H : Hp) (Q : VK) : Prop := ∀ a ws H' μ', Ext μ H μ' H' → RelH K H' μ' hp' → H a = none → a ∉ μ' → H' a = some (.lst ws) → Rps K H' μ' ds' ws → Q (.ref a) H'
def gSrt (ds : List D) (hp : Hd) : Option (List D × Hd) := if srtOk hp ds = true then some (srt hp ds, hp) else none
section
variable {X : Cx} {e a b : Expr} {es : List Expr} {fa fb : AE} {fl fm : AA} {fr : AA} {pos : Pos}
def mSortedL (fl : AA) : AA := fun ls hp => match fl ls hp with
  | some (ds, hp1) => gSrt ds hp1
  | none => none
def keysOf : D → Hd → Option (List D)
  | .ref n, hp => match hp[n]? with
    | some (.dic kvs) => some (kvs.map (·.1))
    | _ => none
  | _, _ => none
theorem keysOf_some {d : D} {hp : Hd} {ds : List D} (h : keysOf d hp = some ds) : ∃ n kvs, d = .ref n ∧ hp[n]? = some (.dic kvs) ∧ ds = kvs.map (·.1) := by
  unfold keysOf at h
  split at h
  · split at h
    · rename_i e
      cases h
      exact ⟨_, _, rfl, e, rfl⟩
    · cases h
  · cases h
theorem Rp.ofKey {K : PySem.W.Frag} {H : Hp} {μ : List Addr} {d : D} {k : Key} (h : toKey d = some k) : Rp K H μ d (kV k) := by
  cases d <;> simp only [toKey] at h <;> try (cases h; done)
  · cases h
    exact Rp.int
  · cases h
    exact Rp.str
theorem Rps.ofKeys {K : PySem.W.Frag} {H : Hp} {μ : List Addr} : ∀ {ds : List D} {ks : List Key}, toKeys ds = some ks → Rps K H μ ds (ks.map kV)
  | [], ks, h => by
    simp only [toKeys] at h
    cases h
    exact Rps.nil
  | d :: ds, ks, h => by
    simp only [toKeys] at h
    split at h
    · rename_i k ks' e1 e2
      cases h
      exact Rps.mk (Rp.ofKey e1) (Rps.ofKeys e2)
    · cases h
theorem RpK.at_ {K : PySem.W.Frag} {H : Hp} {μ : List Addr} : ∀ {kvs : List (D × D)} {vs : List (Key × V)} {i : Nat} {k : Key} {v : V}, RpK K H μ kvs vs → vs[i]? = some (k, v) → ∃ p, kvs[i]? = some p ∧ toKey p.1 = some k ∧ Rp K H μ p.2 v
  | [], _, i, k, v, h, e => by
    rw [RpK] at h
    subst h
    simp at e
  | x :: xs, _, i, k, v, h, e => by
    rw [RpK] at h
    obtain ⟨ka, w, rs, rfl, h1, h2, h3⟩ := h
    cases i with
    | zero =>
      simp at e
      obtain ⟨rfl, rfl⟩ := e
      exact ⟨x, rfl, h1, h2⟩
    | succ i =>
      obtain ⟨p, e1, e2⟩ := RpK.at_ h3 (by simpa using e)
      exact ⟨p, by simpa using e1, e2⟩
theorem RpT.at_ {K : PySem.W.Frag} {H : Hp} {μ : List Addr} : ∀ {kvs : List (D × D)} {vs : List (List Key × V)} {i : Nat} {k : List Key} {v : V}, RpT K H μ kvs vs → vs[i]? = some (k, v) → ∃ p ds, kvs[i]? = some p ∧ p.1 = .tup ds ∧ toKeys ds = some k ∧ Rp K H μ p.2 v
  | [], _, i, k, v, h, e => by
    rw [RpT] at h
    subst h
    simp at e
  | x :: xs, _, i, k, v, h, e => by
    rw [RpT] at h
    obtain ⟨ds, ka, w, rs, e0, rfl, h1, h2, h3⟩ := h
    cases i with
    | zero =>
      simp at e
      obtain ⟨rfl, rfl⟩ := e
      exact ⟨x, ds, rfl, e0, h1, h2⟩
    | succ i =>
      obtain ⟨p, ds, e1, e2⟩ := RpT.at_ h3 (by simpa using e)
      exact ⟨p, ds, by simpa using e1, e2⟩
theorem paired_at {α β : Type} {R : α → β → Prop} : ∀ {xs : List α} {ys : List β} {i : Nat} {y : β}, Paired R xs ys → ys[i]? = some y → ∃ x, xs[i]? = some x ∧ R x y
  | _, _, _, _, .nil, e => by simp at e
  | _, _, 0, _, .cons r _, e => by
    simp at e
    subst e
    exact ⟨_, rfl, r⟩
  | _, _, i + 1, _, .cons _ t, e => by
    obtain ⟨x, e1, r⟩ := paired_at t (by simpa using e)
    exact ⟨x, by simpa using e1, r⟩
def RDL (K : PySem.W.Frag) (g : D → Hd → Option (List D × Hd)) : List V → Hp → VK → Prop := fun xs H Q => ∃ hp μ d v ds' hp', RelH K H μ hp ∧ xs = [v] ∧ Rp K H μ d v ∧ g d hp = some (ds', hp') ∧ TLL K hp' ds' μ H Q
def gSrtO (d : D) (hp : Hd) : Option (List D × Hd) := match seqOfL d hp with
  | some ds => gSrt ds hp
  | none => match keysOf d hp with
    | some ds => gSrt ds hp
    | none => none
theorem c_sorted (hc : X.calm = true) (hu : X.A.units + 64 < cLine) : CallR X (.builtin "sorted") (RDL X.K gSrtO) := fun pins s σ H xs us Q I r ⟨hp, μ, d, v, ds', hp', rh, ex, rd, e, q⟩ => by
  unfold gSrtO at e
  split at e
  · rename_i ds e1
    unfold gSrt at e
    split at e
    · rename_i hs
      cases e
      subst ex
      obtain ⟨a, vs, rfl, hq, rs⟩ := seqOfL_some rh rd e1
      rw [Vals.ref1 r]
      refine sorted_of_list I hq rs rh hs hu fun p' vs' h0 rs' => ?_
      have x := Ext.laid rh (o := .lst vs') h0
      exact q p' vs' _ μ x (rh.laid h0) h0 (rh.notIn h0) upd_same (rs'.ext x)
    · cases e
  · split at e
    · rename_i ds e1
      unfold gSrt at e
      split at e
      · rename_i hs
        cases e
        subst ex
        obtain ⟨n, kvs, rfl, eh, rfl⟩ := keysOf_some e1
        obtain ⟨a, ea, rfl⟩ := rd.refE
        rw [Vals.ref1 r]
        have fin : ∀ p vs, H p = none → Rps X.K H μ (srt hp (kvs.map (·.1))) vs → Q (.ref p) (upd H p (.lst vs)) := fun p' vs' h0 rs' => by
          have x := Ext.laid rh (o := .lst vs') h0
          exact q p' vs' _ μ x (rh.laid h0) h0 (rh.notIn h0) upd_same (rs'.ext x)
        obtain ⟨nd, ⟨vs, ev, rk⟩ | ⟨vs, ev, rk⟩⟩ := rh.dic ea eh
        · obtain ⟨z, lo, ws, rel, dd⟩ := dk_of I.hok ev
          obtain ⟨ep, hat⟩ := dd.dictAt
          have l1 : vs.length = ws.length := Paired.length rel
          refine sorted_of_src (PySem.W.kdl_dict (knd := mixKind X.prog X.w) (kvs := ws) (ep := ep) lo) I hc hat (by omega) rh hs hu (fun acc hit => ?_) fin
          have la : acc.toList.length = vs.length := by rw [Array.length_toList, hit.1]; exact l1.symm
          refine each_at (by rw [la, rk.len, List.length_map]) fun j u d hu' hd => ?_
          obtain ⟨k, x, e2, e3⟩ := hit.2 j u (by rw [← Array.getElem?_toList]; exact hu')
          obtain ⟨⟨k2, v2⟩, e4, e5, _⟩ := paired_at rel e2
          have e5 : k2 = k := e5
          subst e5
          obtain ⟨p, e6, e7, _⟩ := rk.at_ e4
          rw [List.getElem?_map, e6] at hd
          cases hd
          exact ⟨kV k2, keyIs_rel e3, Rp.ofKey e7⟩
        · obtain ⟨z, hsm, ks, pr, o, es, ep, ho, hx, hdt, he, hn⟩ := (show ObjOk X.prog X.w H s.heap a (.dT vs) from I.hok a _ ev)
          have l1 : es.size = ks.length := size_of_entries he
          have l2 : vs.length = ks.length := Paired.length pr
          refine sorted_of_src (kdl_raw hsm hx hdt) I hc ho (by omega) rh hs hu (fun acc hit => ?_) fin
          have la : acc.toList.length = vs.length := by rw [Array.length_toList, hit.1]; omega
          refine each_at (by rw [la, rk.len, List.length_map]) fun j u d hu' hd => ?_
          obtain ⟨en, hen, hv⟩ := hit.2 j u (by rw [← Array.getElem?_toList]; exact hu')
          have qe := entry_at he j
          rw [hen] at qe
          cases hb : ks[j]? with
          | none =>
            rw [hb] at qe
            exact nomatch (show some en = none from qe)
          | some b =>
            rw [hb] at qe
            have e2 : en = entryOfKey (tupleKind (mixKind X.prog X.w)) b := Option.some.inj qe
            obtain ⟨⟨k2, v2⟩, e4, e5, e6, _⟩ := paired_at pr hb
            obtain ⟨p, dks, e7, e8, e9, _⟩ := rk.at_ e4
            rw [List.getElem?_map, e7] at hd
            cases hd
            refine ⟨.ref b.2.1, ?_, ?_⟩
            · rw [hv, e2]
              rfl
            · show Rp X.K H μ p.1 _
              rw [e8]
              exact Rp.tup e6 (Rps.ofKeys e9)
      · cases e
    · cases e
def mSorted (fa : AE) : AA := fun ls hp => match fa ls hp with
  | some (d, hp1) => gSrtO d hp1
  | none => none
theorem le_sorted {x : Str} {p : Pos} (hc : X.calm = true) (hu : X.A.units + 64 < cLine) (hg : Gl X x) (hm : X.mg x = none) (hv : bootBuiltins x = some (.builtin "sorted")) (ha : DE X e fa) (hn : x ≠ "__name__" := by decide)
    (hdb : (x == ("__debug__" : Str)) = false := by decide) (he : starEach [e] X.env = (false, eval e X.env) :: starEach [] X.env := by rfl) : LE X (.Call (.Name x p) [e] [] pos) (mSorted fa) :=
  PE.imp (pe_callB (c_sorted hc hu) hg hm hv (pa_cons ha pa_nil he) hn hdb he rfl) fun σ H Q ⟨ls, hp, μ, ds, hp', rl, rh, e, q⟩ => by
    unfold mSorted at e
    split at e
    · rename_i d hp1 e1
      exact ⟨ls, hp, μ, d, hp1, rl, rh, e1, fun v H1 μ1 x1 rh1 r1 => ⟨hp1, μ1, d, v, ds, hp', rh1, rfl, r1, e, fun a ws H2 μ2 x2 rh2 h2 n2 l2 r2 =>
        q a ws H2 μ2 (x1.trans x2) rh2 (x1.back rh1 h2) n2 l2 r2⟩⟩
    · cases e
end
end Ve
namespace Ve
open PySem PySem.Spec L2
def prs? : List D → Option (List (D × D))
  | [] => some []
  | .tup [k, v] :: r => (prs? r).map ((k, v) :: ·)
  | _ :: _ => none
def putAll (acc : List (D × D)) : List (D × D) → List (D × D)
  | [] => acc
  | p :: r => putAll (putD acc p.1 p.2) r
def tupKey : D → Bool
  | .tup ks => (toKeys ks).isSome
  | _ => false
def gDictL (ds : List D) (hp : Hd) : Option (D × Hd) := match prs? ds with
  | some ps => if ((ps.all fun p => (toKey p.1).isSome) || ps.all fun p => tupKey p.1) = true then some (.ref hp.length, hp ++ [.dic (putAll [] ps)]) else none
  | none => none
theorem prs?_cons {d : D} {ds : List D} {ps : List (D × D)} (h : prs? (d :: ds) = some ps) : ∃ k v ps', d = .tup [k, v] ∧ prs? ds = some ps' ∧ ps = (k, v) :: ps' := by
  unfold prs? at h
  split at h
  · rename_i e; cases e
  · rename_i k v r e
    cases e
    cases e2 : prs? ds with
    | none => rw [e2] at h; cases h
    | some ps' =>
      rw [e2] at h
      cases h
      exact ⟨k, v, ps', rfl, rfl, rfl⟩
  · cases h
section
variable {K : PySem.W.Frag} {H : Hp} {μ : List Addr}
theorem pairs_leaf : ∀ {ds : List D} {ps : List (D × D)} {vs : List V}, prs? ds = some ps → (ps.all fun p => (toKey p.1).isSome) = true → Rps K H μ ds vs → ∃ (as : List Addr) (kvs : List (Key × V)), vs = as.map V.ref ∧ Paired (fun p kv => SqT K H p [kV kv.1, kv.2]) as kvs ∧ RpK K H μ ps kvs
  | [], ps, vs, h, _, r => by
    simp only [prs?] at h
    cases h
    rw [Rps] at r
    subst r
    exact ⟨[], [], rfl, .nil, by rw [RpK]⟩
  | d :: ds, ps, vs, h, hk, r => by
    obtain ⟨k, v, ps', rfl, e, rfl⟩ := prs?_cons h
    rw [List.all_cons, Bool.and_eq_true] at hk
    rw [Rps] at r
    obtain ⟨v1, w, rfl, r1, r2⟩ := r
    obtain ⟨as, kvs, rfl, hp, hr⟩ := pairs_leaf e hk.2 r2
    obtain ⟨k', ek⟩ := Option.isSome_iff_exists.mp hk.1
    obtain ⟨a, xs, rfl, ta, ra⟩ := r1.tupE
    obtain ⟨x, y, rfl, rx, ry⟩ := ra.two
    have := rx.keyV ek
    subst this
    refine ⟨a :: as, (k', y) :: kvs, rfl, .cons ta.sq hp, ?_⟩
    rw [RpK]
    exact ⟨k', y, kvs, rfl, ek, ry, hr⟩
theorem pairs_tup : ∀ {ds : List D} {ps : List (D × D)} {vs : List V}, prs? ds = some ps → (ps.all fun p => tupKey p.1) = true → Rps K H μ ds vs →
    ∃ (as : List Addr) (kvs : List (List Key × Addr × V)), vs = as.map V.ref ∧ Paired (fun p kv => SqT K H p [V.ref kv.2.1, kv.2.2] ∧ H kv.2.1 = some (.tup (kv.1.map kV))) as kvs ∧ RpT K H μ ps (kvs.map fun x => (x.1, x.2.2))
  | [], ps, vs, h, _, r => by
    simp only [prs?] at h
    cases h
    rw [Rps] at r
    subst r
    exact ⟨[], [], rfl, .nil, by rw [List.map_nil, RpT]⟩
  | d :: ds, ps, vs, h, hk, r => by
    obtain ⟨k, v, ps', rfl, e, rfl⟩ := prs?_cons h
    rw [List.all_cons, Bool.and_eq_true] at hk
    rw [Rps] at r
    obtain ⟨v1, w, rfl, r1, r2⟩ := r
    obtain ⟨as, kvs, rfl, hp, hr⟩ := pairs_tup e hk.2 r2
    obtain ⟨hk1, _⟩ := hk
    dsimp only at hk1
    cases k <;> simp only [tupKey] at hk1 <;> try (cases hk1; done)
    rename_i ks
    obtain ⟨k', ek⟩ := Option.isSome_iff_exists.mp hk1
    obtain ⟨a, xs, rfl, ta, ra⟩ := r1.tupE
    obtain ⟨x, y, rfl, rx, ry⟩ := ra.two
    obtain ⟨b, ws, rfl, tb, rb⟩ := rx.tupE
    have := rb.keysV ek
    subst this
    refine ⟨a :: as, (k', b, y) :: kvs, rfl, .cons ⟨ta.sq, tb⟩ hp, ?_⟩
    rw [List.map_cons, RpT]
    exact ⟨ks, k', y, _, rfl, rfl, ek, ry, hr⟩
theorem RpK.putAll : ∀ {ps : List (D × D)} {kvs : List (Key × V)} {acc : List (D × D)} {av : List (Key × V)}, RpK K H μ ps kvs → KNd acc → RpK K H μ acc av → KNd (Ve.putAll acc ps) ∧ RpK K H μ (Ve.putAll acc ps) (mergeK av kvs)
  | [], kvs, acc, av, h, nd, r => by
    rw [RpK] at h
    subst h
    exact ⟨nd, r⟩
  | p :: ps, kvs, acc, av, h, nd, r => by
    rw [RpK] at h
    obtain ⟨k, v, rs, rfl, h1, h2, h3⟩ := h
    have := RpK.putAll h3 nd.put (r.put h1 h2 nd)
    exact this
def mergeT (kvs more : List (List Key × V)) : List (List Key × V) := more.foldl (fun acc kv => putK acc kv.1 kv.2) kvs
theorem RpT.putAll : ∀ {ps : List (D × D)} {kvs : List (List Key × V)} {acc : List (D × D)} {av : List (List Key × V)}, RpT K H μ ps kvs → KNd acc → RpT K H μ acc av → KNd (Ve.putAll acc ps) ∧ RpT K H μ (Ve.putAll acc ps) (mergeT av kvs)
  | [], kvs, acc, av, h, nd, r => by
    rw [RpT] at h
    subst h
    exact ⟨nd, r⟩
  | p :: ps, kvs, acc, av, h, nd, r => by
    rw [RpT] at h
    obtain ⟨ks, k, v, rs, e0, rfl, h1, h2, h3⟩ := h
    obtain ⟨p1, p2⟩ := p
    have e0 : p1 = .tup ks := e0
    subst e0
    have := RpT.putAll h3 nd.put (r.put h1 h2 nd)
    exact this
theorem KT.putAll : ∀ {kvs : List (List Key × Addr × V)} {us : List (List Key × Addr × Value)} {acc : List (List Key × V)} {av : List (List Key × Addr × Value)}, Paired (fun p q => p.1 = q.1 ∧ p.2.1 = q.2.1 ∧ H p.2.1 = some (.tup (p.1.map kV)) ∧ RelV p.2.2 q.2.2) kvs us → KT H acc av →
    KT H (mergeT acc (kvs.map fun x => (x.1, x.2.2))) (storedAllH av us)
  | _, _, _, _, .nil, r => r
  | _, _, _, _, .cons (a := p) (b := q) h t, r => by
    obtain ⟨h1, h2, h3, h4⟩ := h
    obtain ⟨k, b, u⟩ := q
    obtain ⟨k', b', v⟩ := p
    cases h1
    cases h2
    have := KT.putAll t (r.put _ h3 h4)
    exact this
theorem length_mergeT : ∀ (more acc : List (List Key × V)), (mergeT acc more).length ≤ acc.length + more.length
  | [], acc => Nat.le_refl _
  | p :: more, acc => by
    have h1 := length_mergeT more (putK acc p.1 p.2)
    have h2 := length_putK acc p.1 p.2
    show (mergeT (putK acc p.1 p.2) more).length ≤ _
    rw [List.length_cons]
    omega
end
section
variable {X : Cx} {pins : List (Addr × Obj)} {σ : St} {H : Hp} {s : Shared}
theorem pairs_ofT (I : Inv X pins σ H s) : ∀ {as : List Addr} {kvs : List (List Key × Addr × V)}, Paired (fun p kv => SqT X.K H p [V.ref kv.2.1, kv.2.2] ∧ H kv.2.1 = some (.tup (kv.1.map kV))) as kvs →
    ∃ us : List (List Key × Addr × Value), Paired (fun p q => p.1 = q.1 ∧ p.2.1 = q.2.1 ∧ H p.2.1 = some (.tup (p.1.map kV)) ∧ RelV p.2.2 q.2.2) kvs us ∧ us.length = as.length ∧
      ∀ (j : Nat) (q : List Key × Addr × Value), us[j]? = some q → ∃ b : Addr, as[j]? = some b ∧ PySem.PairAt s.heap b (.ref q.2.1) q.2.2 ∧ (tupleKind (mixKind X.prog X.w)).is s.heap q.1 q.2.1
  | _, _, .nil => ⟨[], .nil, rfl, fun j q e => by simp at e⟩
  | _, _, .cons (a := p) (b := kv) h t => by
    obtain ⟨us, r, hl, hp⟩ := pairs_ofT I t
    obtain ⟨h1, h2⟩ := h
    obtain ⟨its, rv, ht, _⟩ := I.tuple h1
    obtain ⟨u, y, ei, ru, ry⟩ := vals2 rv
    subst ei
    obtain rfl : u = Value.ref kv.2.1 := ru
    refine ⟨(kv.1, kv.2.1, y) :: us, .cons ⟨rfl, rfl, h2, ry⟩ r, by rw [List.length_cons, List.length_cons, hl], fun j q e => ?_⟩
    cases j with
    | zero =>
      have e' : (kv.1, kv.2.1, y) = q := Option.some.inj e
      subst e'
      exact ⟨p, rfl, .inl ht, key_of I.hok h2⟩
    | succ j =>
      obtain ⟨b, e1, e2⟩ := hp j q (by simpa using e)
      exact ⟨b, by simpa using e1, e2⟩
theorem call_dictT (hcalm : X.calm = true) (hu : X.A.units + 64 < cLine) : CallR X (.type "dict") (fun xs H Q => ∃ (a : Addr) (as : List Addr) (kvs : List (List Key × Addr × V)), xs = [.ref a] ∧ SqL X.K H a (as.map V.ref) ∧
    Paired (fun p kv => SqT X.K H p [V.ref kv.2.1, kv.2.2] ∧ H kv.2.1 = some (.tup (kv.1.map kV))) as kvs ∧ ∀ p, H p = none → Q (.ref p) (upd H p (.dT (mergeT [] (kvs.map fun x => (x.1, x.2.2)))))) := by
  intro pins s σ H xs us Q I r q
  obtain ⟨a, as, kvs, ex, hq, hp, q⟩ := q
  subst ex
  obtain ⟨u, eu, rx⟩ := vals1 r
  subst eu
  cases rx
  obtain ⟨its, rv, pl, hz⟩ := I.list hq
  have ei := refs_at rv
  subst ei
  rw [List.length_map] at hz
  obtain ⟨us, rel, hl, hpr⟩ := pairs_ofT I hp
  obtain ⟨o, n, ho, hc, hd, hdat⟩ := pl
  have hk : (kvs.map fun x => (x.1, x.2.2)).length = us.length := by rw [List.length_map]; exact Paired.length rel
  refine PySem.call_dict_pairsH (knd := tupleKind (mixKind X.prog X.w)) (ps := us) (PySem.PairArg.list a (as.map Value.ref).toArray (fun j => as[j]?.getD 0) (us.map fun x => (Value.ref x.2.1, x.2.2))) (I.ok.hd hcalm) ?_ ⟨⟨o, n, ho, hc, hd, hdat⟩, by simp [hl], fun j k v e => ?_⟩ ⟨by simp, fun i k v e => ?_⟩ ?_ (by simp; omega) fun h' tk hd' k => ?_
  · show X.A.units + 1 + 1 < cLine
    omega
  · rw [List.getElem?_map] at e
    cases e2 : us[j]? with
    | none => rw [e2] at e; cases e
    | some q' =>
      rw [e2] at e
      cases e
      obtain ⟨b, e3, e4, _⟩ := hpr j q' e2
      refine ⟨by simp [e3], ?_⟩
      show PySem.PairAt s.heap (as[j]?.getD 0) _ _
      rw [e3]
      exact e4
  · have e : (us.map fun x => (Value.ref x.2.1, x.2.2))[i]? = some (k, v) := e
    rw [List.getElem?_map] at e
    cases e2 : us[i]? with
    | none => rw [e2] at e; cases e
    | some q' =>
      rw [e2] at e
      cases e
      exact ⟨q'.1, q'.2.1, rfl, rfl⟩
  · intro h' hk' x hx
    obtain ⟨i, hi⟩ := List.mem_iff_getElem?.mp hx
    obtain ⟨b, e1, e2, e3⟩ := hpr i x hi
    obtain ⟨o', its', n', g1, g2, g3, g4⟩ := e3
    exact ⟨o', its', n', hk' _ _ (Nat.ne_of_lt (Heap.lt_size g1)) (fun z => nomatch z) g1, g2, g3, g4⟩
  · have hm : (s.heap.objs.size == sysModules) = false := beq_eq_false_iff_ne.mpr (Nat.ne_of_gt I.big)
    have hlen : (mergeT [] (kvs.map fun x => (x.1, x.2.2))).length ≤ sizeLine := by
      refine Nat.le_trans (length_mergeT _ _) ?_
      rw [List.length_nil, Nat.zero_add, hk, hl]
      exact hz
    have h0 := I.hok.fresh (Nat.le_refl s.heap.objs.size)
    obtain ⟨o', es, ep, g1, g2, g3, g4, _, g5⟩ := hd'
    have kt := KT.putAll (H := H) rel (acc := []) (av := []) .nil
    refine ⟨.ref s.heap.objs.size, upd H s.heap.objs.size (.dT (mergeT [] (kvs.map fun x => (x.1, x.2.2)))), I.laid (t' := tk) (fun b o e => k b o (fun z => nomatch z) e) (Nat.le_refl _)
      (show ObjOk X.prog X.w _ _ _ (.dT _) from ⟨hlen, hm, _, kt.keeps fun c ys ec => ?_, o', es, ep, g1, g2, g3, g4, g5⟩), rfl, q _ h0⟩
    rw [upd_ne (ne_of_none ec h0)]
    exact ec
end
section
variable {X : Cx}
theorem n_dict (hu : X.A.units + 65 < cLine) (hc : X.calm = true) : CallR X (.type "dict") (RN X.K gDictL) := fun pins s σ H xs us Q I r ⟨hp, μ, ds, vs, p, d, hp', rh, ex, hn, hl, rs, e, q⟩ => by
  unfold gDictL at e
  split at e
  · rename_i ps ep
    split at e
    · rename_i hk
      cases e
      subst ex
      have fin : ∀ (p' : Addr) (o : HO), H p' = none → (Ro X.K (upd H p' o) (μ ++ [p']) (.dic (putAll [] ps)) (some o)) → Q (.ref p') (upd H p' o) := fun p' o h0 ro => by
        have x4 := Ext.laid rh (o := o) h0
        have rh4 := rh.laid (o := o) h0
        refine q (.ref p') _ (μ ++ [p']) (x4.place h0) (rh4.place (rh.notIn h0) (by rw [upd_same]; exact ro)) ?_
        rw [Rp]
        refine ⟨p', ?_, rfl⟩
        rw [List.getElem?_append_right (by rw [rh.len]; exact Nat.le_refl _), rh.len]
        simp
      rcases Bool.or_eq_true _ _ ▸ hk with hk | hk
      · obtain ⟨as, kvs, rfl, hpr, rk⟩ := pairs_leaf ep hk rs
        refine call_dictP hc pins s σ H _ us Q I r ⟨p, as, kvs, rfl, .inl (.inl hl), hpr, fun p' h0 => fin p' _ h0 ?_⟩
        obtain ⟨nd, rk2⟩ := rk.putAll (acc := []) (av := []) True.intro (by rw [RpK])
        exact ⟨nd, .inl ⟨_, rfl, (rk2.mon (Ext.laid rh h0).m).mon Mon.grow⟩⟩
      · obtain ⟨as, kvs, rfl, hpr, rk⟩ := pairs_tup ep hk rs
        refine call_dictT hc (by omega) pins s σ H _ us Q I r ⟨p, as, kvs, rfl, .inl (.inl hl), hpr, fun p' h0 => fin p' _ h0 ?_⟩
        obtain ⟨nd, rk2⟩ := rk.putAll (acc := []) (av := []) True.intro (by rw [RpT])
        exact ⟨nd, .inr ⟨_, rfl, (rk2.mon (Ext.laid rh h0).m).mon Mon.grow⟩⟩
    · cases e
  · cases e
end
end Ve
namespace Ve
open PySem PySem.Spec L2
def mDict0 : AE := fun _ hp => some (.ref hp.length, hp ++ [.dic []])
section
variable {K : PySem.W.Frag} {H H' : Hp} {μ : List Addr} {hp : Hd}
theorem Mon.looseD {D : Addr} {u o : HO} (h : H D = some u) (n1 : ∀ xs, u ≠ .tup xs) (n2 : ∀ ob xs, u ≠ .frz ob xs) : Mon μ H μ (upd H D o) :=
  ⟨⟨[], by simp⟩, fun a ys e => by rw [upd_ne (fun z => by subst z; rw [h] at e; exact n1 _ (Option.some.inj e))]; exact e, fun a ob ys _ e => by rw [upd_ne (fun z => by subst z; rw [h] at e; exact n2 _ _ (Option.some.inj e))]; exact e⟩
theorem RelH.looseD (r : RelH K H μ hp) {D : Addr} {u o : HO} (h : H D = some u) (n1 : ∀ xs, u ≠ .tup xs) (n2 : ∀ ob xs, u ≠ .frz ob xs) (hn : D ∉ μ) : RelH K (upd H D o) μ hp :=
  ⟨r.len, r.nd, fun n ob a e1 e2 => by
    rw [upd_ne (fun z => hn (by rw [← z]; exact List.mem_of_getElem? e2))]
    exact (r.obj n ob a e1 e2).mon (Mon.looseD h n1 n2), r.tabs⟩
theorem Rp.last {p : Addr} (rh : RelH K H μ hp) : Rp K H' (μ ++ [p]) (.ref hp.length) (.ref p) := by
  rw [Rp]
  refine ⟨p, ?_, rfl⟩
  rw [List.getElem?_append_right (by rw [rh.len]; exact Nat.le_refl _), rh.len]
  simp
end
section
variable {X : Cx} {pos : Pos}
theorem de_dict0 : DE X (.Dict [] [] pos) mDict0 := PE.imp pe_dnewK fun σ H Q ⟨ls, hp, μ, d, hp', rl, rh, e, q⟩ p h0 => by
  cases e
  have x4 := Ext.laid rh (o := .dK []) h0
  exact q (.ref p) _ (μ ++ [p]) (x4.place h0) ((rh.laid h0).place (rh.notIn h0) (by rw [upd_same]; exact ⟨True.intro, .inl ⟨[], rfl, by rw [RpK]⟩⟩)) (Rp.last rh)
end
def mPairs : List (AE × AE) → Ls → Hd → Option (List (D × D) × Hd)
  | [], _, hp => some ([], hp)
  | (fk, fv) :: r, ls, hp => match fk ls hp with
    | some (k, hp1) => match fv ls hp1 with
      | some (v, hp2) => match mPairs r ls hp2 with
        | some (ps, hp3) => some ((k, v) :: ps, hp3)
        | none => none
      | none => none
    | none => none
def mDict (m : List (AE × AE)) : AE := fun ls hp => match mPairs m ls hp with
  | some (ps, hp1) => if (((ps.all fun p => (toKey p.1).isSome) || ps.all fun p => tupKey p.1) && decide (ps.length ≤ 15)) = true then some (.ref hp1.length, hp1 ++ [.dic (putAll [] ps)]) else none
  | none => none
def RpP (K : PySem.W.Frag) (H : Hp) (μ : List Addr) : List (D × D) → List (V × V) → Prop
  | [], vs => vs = []
  | p :: ps, vs => ∃ x y r, vs = (x, y) :: r ∧ Rp K H μ p.1 x ∧ Rp K H μ p.2 y ∧ RpP K H μ ps r
def trsOf (K : PySem.W.Frag) (m : List (AE × AE)) : List (TE × TE) := m.map fun p => (tD K p.1, tD K p.2)
theorem tPairs_of {K : PySem.W.Frag} {σ : L2.St} : ∀ {m : List (AE × AE)} {ls : Ls} {hp hp' : Hd} {H : Hp} {μ : List Addr} {ps : List (D × D)} {Q : List (V × V) → Hp → Prop}, Rl K H μ ls σ → RelH K H μ hp → mPairs m ls hp = some (ps, hp') →
    (∀ vs H' μ', Ext μ H μ' H' → RelH K H' μ' hp' → RpP K H' μ' ps vs → Q vs H') → tPairs (trsOf K m) σ H Q
  | [], ls, hp, hp', H, μ, ps, Q, rl, rh, e, q => by
    simp only [mPairs] at e
    cases e
    exact q [] H μ Ext.refl rh rfl
  | (fk, fv) :: m, ls, hp, hp', H, μ, ps, Q, rl, rh, e, q => by
    simp only [mPairs] at e
    split at e
    · rename_i k hp1 e1
      split at e
      · rename_i v hp2 e2
        split at e
        · rename_i ps' hp3 e3
          cases e
          refine ⟨ls, hp, μ, k, hp1, rl, rh, e1, fun x H1 μ1 x1 rh1 r1 => ⟨ls, hp1, μ1, v, hp2, rl.ext x1, rh1, e2, fun y H2 μ2 x2 rh2 r2 => ?_⟩⟩
          exact tPairs_of (m := m) ((rl.ext x1).ext x2) rh2 e3 fun vs H3 μ3 x3 rh3 r3 => q _ H3 μ3 ((x1.trans x2).trans x3) rh3 ⟨x, y, vs, rfl, (r1.ext x2).ext x3, r2.ext x3, r3⟩
        · cases e
      · cases e
    · cases e
def tDispT (trs : List (TE × TE)) : TE := fun σ H Q => ∀ p, H p = none → tPairs trs σ (upd H p (.dT [])) fun ps H2 => H2 p = some (.dT []) ∧ ∃ kvs : List (List Key × Addr × V), ps = kvs.map (fun x => (V.ref x.2.1, x.2.2)) ∧ (∀ x ∈ kvs, H2 x.2.1 = some (.tup (x.1.map kV))) ∧ kvs.length ≤ 15 ∧
  Q (.ref p) (upd H2 p (.dT (mergeT [] (kvs.map fun x => (x.1, x.2.2)))))
section
variable {X : Cx} {pins : List (Addr × Obj)} {σ : L2.St}
theorem storeAllT {A : Around} {E : Value → Shared → Prop} (hu : A.units < cLine) {p : Addr} : ∀ {kvs : List (List Key × Addr × V)} {ws : List (Value × Value)} {s : Shared} {H : Hp} {acc : List (List Key × V)} {Q : PUnit → Shared → Prop}, Inv X pins σ H s → H p = some (.dT acc) →
    VV (kvs.map fun x => (V.ref x.2.1, x.2.2)) ws → (∀ x ∈ kvs, H x.2.1 = some (.tup (x.1.map kV))) → acc.length + kvs.length ≤ sizeLine → (∀ s', Inv X pins σ (upd H p (.dT (mergeT acc (kvs.map fun x => (x.1, x.2.2))))) s' → Q PUnit.unit s') →
    wpAny (model X.prog X.w) A (storeAll p ws) Q E s
  | [], ws, s, H, acc, Q, I, hp, r, hk, hz, q => by
    cases r
    have e : upd H p (.dT (mergeT acc [])) = H := by
      funext b
      by_cases hb : b = p
      · rw [hb, upd_same, hp]
        rfl
      · rw [upd_ne hb]
    unfold storeAll
    refine wpAny_pure (q s ?_)
    rw [List.map_nil, e]
    exact I
  | x :: kvs, ws, s, H, acc, Q, I, hp, r, hk, hz, q => by
    rw [List.map_cons] at r
    cases r with
    | @cons _ b _ ws' h t =>
      obtain ⟨u1, u2⟩ := b
      obtain ⟨r1, r2⟩ := h
      obtain rfl : u1 = Value.ref x.2.1 := r1
      have eb := hk x List.mem_cons_self
      obtain ⟨z, hd, xs, rel, dd⟩ := dt_of I.hok hp
      have hz' : xs.length ≤ sizeLine := by rw [← Paired.length rel]; exact z
      have hlp := length_putK acc x.1 x.2.2
      rw [List.length_cons] at hz
      have hl : (putK acc x.1 x.2.2).length ≤ sizeLine := by omega
      unfold storeAll
      rw [List.forIn_cons]
      refine wpAny_bind (wpAny_bind (wpAny_dictSet_heap (hsz := hz') (knd := tupleKind (mixKind X.prog X.w)) hu (key_of I.hok eb) dd fun h' dd' hs => wpAny_pure ?_))
      obtain ⟨o, es, ep, ho, h2, h3, h4, _, h5⟩ := dd'
      have I2 : Inv X pins σ (upd H p (.dT (putK acc x.1 x.2.2))) { s with heap := h', toks := s.toks + (tupleKind (mixKind X.prog X.w)).draws x.1 } :=
        d_write I (by rw [hp]; exact True.intro) hs ⟨o, ho⟩ ⟨hl, hd, _, (rel.put x.1 eb r2).keeps fun c ys ec => by
          rw [upd_ne (ne_of ec hp (fun z => nomatch z))]
          exact ec, o, es, ep, ho, h2, h3, h4, h5⟩
      have ih := storeAllT (A := A) (E := E) hu (p := p) (kvs := kvs) (acc := putK acc x.1 x.2.2) (Q := Q) I2 upd_same t (fun y hy => by
        have ec := hk y (List.mem_cons_of_mem _ hy)
        rw [upd_ne (ne_of ec hp (fun z => nomatch z))]
        exact ec) (by omega) fun s' I3 => q s' (by
          have e : upd (upd H p (.dT (putK acc x.1 x.2.2))) p (.dT (mergeT (putK acc x.1 x.2.2) (kvs.map fun x => (x.1, x.2.2)))) = upd H p (.dT (mergeT acc ((x :: kvs).map fun x => (x.1, x.2.2)))) := by
            funext b
            by_cases hb : b = p
            · rw [hb, upd_same, upd_same]
              rfl
            · rw [upd_ne hb, upd_ne hb, upd_ne hb]
          rw [← e]
          exact I3)
      exact ih
theorem pe_dispT {pos : Pos} {keys : List (Option Expr)} {values : List Expr} {trs : List (TE × TE)} (h : PPs X pos keys values trs) (hu : X.A.units + 64 < cLine) (hall : keys.all (·.isSome) = true) (hl : keys.length = values.length) (h0 : keys ≠ [])
    (h15 : keys.length ≤ 15) : PE X (.Dict keys values pos) (tDispT trs) := by
  refine ⟨fun pins s σ H Q I q => ?_⟩
  have hn := I.hok.fresh (Nat.le_refl s.heap.objs.size)
  have I1 := I.laid (a := s.heap.objs.size) (o := .dT []) (h' := s.heap.push { cls := .type "dict", data := .dict #[] }) (t' := s.toks) (fun _ _ q => Heap.get?_push_of_some _ q) (Nat.le_refl _) (dt_empty s.heap I.big)
  refine wpAny_Dict_any hall hl h0 h15 (thn (h.run pins _ σ _ _ I1 (q _ hn)) fun ws s2 ⟨ps, H2, I2, rel, e, kvs, ep, hk, lk, q2⟩ => ?_)
  subst ep
  exact storeAllT (by omega) I2 e rel hk (by rw [List.length_nil, sizeLine_eq]; omega) fun s' I3 => ⟨.ref s.heap.objs.size, _, I3, rfl, q2⟩
abbrev DPs (X : Cx) (pos : Pos) (keys : List (Option Expr)) (values : List Expr) (m : List (AE × AE)) : Prop := PPs X pos keys values (trsOf X.K m)
theorem dp_nil {pos : Pos} : DPs X pos [] [] [] := pps_nil
theorem dp_cons {pos : Pos} {k v : Expr} {ks : List (Option Expr)} {vs : List Expr} {fk fv : AE} {m : List (AE × AE)} (hk : DE X k fk) (hv : DE X v fv) (hr : DPs X pos ks vs m) : DPs X pos (some k :: ks) (v :: vs) ((fk, fv) :: m) := pps_cons hk hv hr
theorem RpP.leaf {K : PySem.W.Frag} {H : Hp} {μ : List Addr} : ∀ {ps : List (D × D)} {vs : List (V × V)}, (ps.all fun p => (toKey p.1).isSome) = true → RpP K H μ ps vs → ∃ kvs : List (Key × V), vs = kvs.map (fun kv => (kV kv.1, kv.2)) ∧ RpK K H μ ps kvs
  | [], vs, _, r => by
    have r : vs = [] := r
    subst r
    exact ⟨[], rfl, by rw [RpK]⟩
  | p :: ps, vs, hk, r => by
    obtain ⟨x, y, rs, rfl, r1, r2, r3⟩ := r
    rw [List.all_cons, Bool.and_eq_true] at hk
    obtain ⟨kvs, rfl, rk⟩ := RpP.leaf hk.2 r3
    obtain ⟨k, ek⟩ := Option.isSome_iff_exists.mp hk.1
    have := r1.keyV ek
    subst this
    refine ⟨(k, y) :: kvs, rfl, ?_⟩
    rw [RpK]
    exact ⟨k, y, kvs, rfl, ek, r2, rk⟩
theorem RpP.tup {K : PySem.W.Frag} {H : Hp} {μ : List Addr} : ∀ {ps : List (D × D)} {vs : List (V × V)}, (ps.all fun p => tupKey p.1) = true → RpP K H μ ps vs →
    ∃ kvs : List (List Key × Addr × V), vs = kvs.map (fun x => (V.ref x.2.1, x.2.2)) ∧ (∀ x ∈ kvs, H x.2.1 = some (.tup (x.1.map kV))) ∧ RpT K H μ ps (kvs.map fun x => (x.1, x.2.2))
  | [], vs, _, r => by
    have r : vs = [] := r
    subst r
    exact ⟨[], rfl, (fun _ h => nomatch h), by rw [List.map_nil, RpT]⟩
  | p :: ps, vs, hk, r => by
    obtain ⟨x, y, rs, rfl, r1, r2, r3⟩ := r
    rw [List.all_cons, Bool.and_eq_true] at hk
    obtain ⟨kvs, rfl, hh, rk⟩ := RpP.tup hk.2 r3
    obtain ⟨hk1, _⟩ := hk
    obtain ⟨k, w⟩ := p
    dsimp only at hk1 r1 r2
    cases k <;> simp only [tupKey] at hk1 <;> try (cases hk1; done)
    rename_i ks
    obtain ⟨k', ek⟩ := Option.isSome_iff_exists.mp hk1
    obtain ⟨b, ws, rfl, tb, rb⟩ := r1.tupE
    have := rb.keysV ek
    subst this
    refine ⟨(k', b, y) :: kvs, rfl, fun x hx => ?_, ?_⟩
    · rcases List.mem_cons.mp hx with z | z
      · rw [z]
        exact tb
      · exact hh x z
    · rw [List.map_cons, RpT]
      exact ⟨ks, k', y, _, rfl, rfl, ek, r2, rk⟩
theorem RpP.len {K : PySem.W.Frag} {H : Hp} {μ : List Addr} : ∀ {ps : List (D × D)} {vs : List (V × V)}, RpP K H μ ps vs → vs.length = ps.length
  | [], vs, r => by
    have r : vs = [] := r
    rw [r]
    rfl
  | p :: ps, vs, r => by
    obtain ⟨x, y, rs, rfl, r1, r2, r3⟩ := r
    rw [List.length_cons, List.length_cons, RpP.len r3]
theorem de_dict {pos : Pos} {keys : List (Option Expr)} {values : List Expr} {m : List (AE × AE)} (hu : X.A.units + 64 < cLine) (h : DPs X pos keys values m) (hall : keys.all (·.isSome) = true := by rfl) (hl : keys.length = values.length := by rfl) (h0 : keys ≠ [] := by simp)
    (h15 : keys.length ≤ 15 := by decide) : DE X (.Dict keys values pos) (mDict m) :=
  PE.imp (PE.or (pe_disp h hall hl h0 h15) (pe_dispT h hu hall hl h0 h15)) fun σ H Q ⟨ls, hp, μ, d, hp', rl, rh, e, q⟩ => by
    unfold mDict at e
    split at e
    · rename_i ps hp1 e1
      split at e
      · rename_i hk
        cases e
        rw [Bool.and_eq_true] at hk
        have h15' : ps.length ≤ 15 := of_decide_eq_true hk.2
        rcases Bool.or_eq_true _ _ ▸ hk.1 with hk | hk
        · refine .inl fun p hp0 => ?_
          have x0 := Ext.laid rh (o := .dK []) hp0
          refine tPairs_of (rl.ext x0) (rh.laid hp0) e1 fun vs H2 μ2 x2 rh2 r2 => ?_
          have hH2 : H2 p = some (.dK []) := x2.keep _ _ (rh.notIn hp0) upd_same
          have hn2 : p ∉ μ2 := x2.new _ _ (rh.notIn hp0) upd_same
          obtain ⟨kvs, rfl, rk⟩ := r2.leaf hk
          refine ⟨hH2, kvs, rfl, by rw [← rk.len] at h15'; exact h15', ?_⟩
          obtain ⟨nd, rk2⟩ := rk.putAll (acc := []) (av := []) True.intro (by rw [RpK])
          have rh3 := rh2.looseD (o := .dK (mergeK [] kvs)) hH2 (fun _ z => nomatch z) (fun _ _ z => nomatch z) hn2
          exact q (.ref p) _ (μ2 ++ [p]) (((x0.trans x2).loose hp0).place hp0) (rh3.place hn2 (by rw [upd_same]; exact ⟨nd, .inl ⟨_, rfl, (rk2.mon (Mon.looseD hH2 (fun _ z => nomatch z) (fun _ _ z => nomatch z))).mon Mon.grow⟩⟩)) (Rp.last rh2)
        · refine .inr fun p hp0 => ?_
          have x0 := Ext.laid rh (o := .dT []) hp0
          refine tPairs_of (rl.ext x0) (rh.laid hp0) e1 fun vs H2 μ2 x2 rh2 r2 => ?_
          have hH2 : H2 p = some (.dT []) := x2.keep _ _ (rh.notIn hp0) upd_same
          have hn2 : p ∉ μ2 := x2.new _ _ (rh.notIn hp0) upd_same
          obtain ⟨kvs, rfl, hh, rk⟩ := r2.tup hk
          have hln := rk.len
          rw [List.length_map] at hln
          refine ⟨hH2, kvs, rfl, hh, by rw [hln]; exact h15', ?_⟩
          obtain ⟨nd, rk2⟩ := rk.putAll (acc := []) (av := []) True.intro (by rw [RpT])
          have rh3 := rh2.looseD (o := .dT (mergeT [] (kvs.map fun x => (x.1, x.2.2)))) hH2 (fun _ z => nomatch z) (fun _ _ z => nomatch z) hn2
          exact q (.ref p) _ (μ2 ++ [p]) (((x0.trans x2).loose hp0).place hp0) (rh3.place hn2 (by rw [upd_same]; exact ⟨nd, .inr ⟨_, rfl, (rk2.mon (Mon.looseD hH2 (fun _ z => nomatch z) (fun _ _ z => nomatch z))).mon Mon.grow⟩⟩)) (Rp.last rh2)
      · cases e
    · cases e
end
end Ve
namespace Ve
open PySem PySem.Spec L2
end Ve
namespace Ve
open PySem PySem.Spec L2
def tupOf : D → Option (List D)
  | .tup ds => some ds
  | .wt ds => some ds
  | _ => none
theorem tupOf_some {K : PySem.W.Frag} {H : Hp} {μ : List Addr} {d : D} {ds : List D} {v : V} (h : tupOf d = some ds) (r : Rp K H μ d v) : ∃ a vs, v = .ref a ∧ (TpAt H a vs ∨ WtAt K H a vs) ∧ Rps K H μ ds vs := by
  cases d <;> simp only [tupOf] at h <;> try (cases h; done)
  · cases h
    obtain ⟨a, vs, e, t, rs⟩ := r.tupE
    exact ⟨a, vs, e, .inl t, rs⟩
  · cases h
    obtain ⟨a, vs, e, t, rs⟩ := r.wtE
    exact ⟨a, vs, e, .inr t, rs⟩
section
variable {X : Cx} {e a b tg : Expr} {es elts : List Expr} {fa fb fd : AE} {fl fm : AA} {fr : AA} {fs : AS} {pos tpos : Pos} {kk : Nat}
def mExtO (fo fb : AE) : AE := fun ls hp => match fo ls hp with
  | some (x, hp1) => if isL x hp1 = true then match fb ls hp1 with
    | some (y, hp2) => match lstOf y hp2 with
      | some ds => onL x hp2 fun xs => if xs.length + ds.length ≤ sizeLine then some (.non, xs ++ ds) else none
      | none => none
    | none => none else none
  | none => none
def sPar3 (i j l : Nat) (f : AA) : AS := fun ls hp => match f ls hp with
  | some ([a, b, c], hp1) => some (.nx, ((ls.set i (some a)).set j (some b)).set l (some c), hp1)
  | _ => none
end
end Ve
namespace Ve
open PySem PySem.Spec L2
abbrev nr (d : D) : Bool := D.all (fun _ => false) d
abbrev nrs (ds : List D) : Bool := D.alls (fun _ => false) ds
abbrev nrO (o : O) : Bool := O.all (fun _ => false) o
mutual
theorem map_nr {f : Nat → Nat} : ∀ {d : D}, nr d = true → D.map f d = d
  | .non, _ => by rw [D.map]
  | .bl _, _ => by rw [D.map]
  | .int _, _ => by rw [D.map]
  | .str _, _ => by rw [D.map]
  | .scr _, _ => by rw [D.map]
  | .ref k, h => by simp [nr, D.all] at h
  | .tup ds, h => by
    simp only [nr, D.all] at h
    rw [D.map, maps_nr h]
  | .wt ds, h => by
    simp only [nr, D.all] at h
    rw [D.map, maps_nr h]
theorem maps_nr {f : Nat → Nat} : ∀ {ds : List D}, nrs ds = true → D.maps f ds = ds
  | [], _ => by rw [D.maps]
  | d :: ds, h => by
    simp only [nrs, D.alls, Bool.and_eq_true] at h
    rw [D.maps, map_nr h.1, maps_nr h.2]
end
mutual
theorem ren_nr {ρ : List Nat} : ∀ {d : D}, nr d = true → D.ren ρ d = d
  | .non, _ => by rw [D.ren]
  | .bl _, _ => by rw [D.ren]
  | .int _, _ => by rw [D.ren]
  | .str _, _ => by rw [D.ren]
  | .scr _, _ => by rw [D.ren]
  | .ref k, h => by simp [nr, D.all] at h
  | .tup ds, h => by
    simp only [nr, D.all] at h
    rw [D.ren, rens_nr h]
  | .wt ds, h => by
    simp only [nr, D.all] at h
    rw [D.ren, rens_nr h]
theorem rens_nr {ρ : List Nat} : ∀ {ds : List D}, nrs ds = true → D.rens ρ ds = ds
  | [], _ => by rw [D.rens]
  | d :: ds, h => by
    simp only [nrs, D.alls, Bool.and_eq_true] at h
    rw [D.rens, ren_nr h.1, rens_nr h.2]
end
mutual
theorem lt_nr {n : Nat} : ∀ {d : D}, nr d = true → D.lt n d = true
  | .non, _ => rfl
  | .bl _, _ => rfl
  | .int _, _ => rfl
  | .str _, _ => rfl
  | .scr _, _ => rfl
  | .ref k, h => by simp [nr, D.all] at h
  | .tup ds, h => by
    simp only [nr, D.all] at h
    rw [D.lt, lts_nr h]
  | .wt ds, h => by
    simp only [nr, D.all] at h
    rw [D.lt, lts_nr h]
theorem lts_nr {n : Nat} : ∀ {ds : List D}, nrs ds = true → D.lts n ds = true
  | [], _ => by rw [D.lts]
  | d :: ds, h => by
    simp only [nrs, D.alls, Bool.and_eq_true] at h
    rw [D.lts, lt_nr h.1, lts_nr h.2]
    rfl
end
mutual
theorem all_nr {p : Nat → Bool} : ∀ {d : D}, nr d = true → D.all p d = true
  | .non, _ => by rw [D.all]
  | .bl _, _ => by rw [D.all]
  | .int _, _ => by rw [D.all]
  | .str _, _ => by rw [D.all]
  | .scr _, _ => by rw [D.all]
  | .ref k, h => by simp [nr, D.all] at h
  | .tup ds, h => by
    simp only [nr, D.all] at h
    rw [D.all, alls_nr h]
  | .wt ds, h => by
    simp only [nr, D.all] at h
    rw [D.all, alls_nr h]
theorem alls_nr {p : Nat → Bool} : ∀ {ds : List D}, nrs ds = true → D.alls p ds = true
  | [], _ => by rw [D.alls]
  | d :: ds, h => by
    simp only [nrs, D.alls, Bool.and_eq_true] at h
    rw [D.alls, all_nr h.1, alls_nr h.2]
    rfl
end
theorem kv_nr {kvs : List (D × D)} (h : kvAll (fun _ => false) kvs = true) : (∀ f, kvMap f kvs = kvs) ∧ (∀ ρ, kvRen ρ kvs = kvs) ∧ (∀ n, kvLt n kvs = true) ∧ ∀ p, kvAll p kvs = true := by
  induction kvs with
  | nil => exact ⟨fun _ => rfl, fun _ => rfl, fun _ => rfl, fun _ => rfl⟩
  | cons x r ih =>
    rw [kvAll, Bool.and_eq_true, Bool.and_eq_true] at h
    obtain ⟨h1, h2, h3, h4⟩ := ih h.2
    obtain ⟨a, b⟩ := x
    exact ⟨fun f => by rw [kvMap, map_nr h.1.2, h1], fun ρ => by rw [kvRen, ren_nr h.1.2, h2], fun n => by rw [kvLt, lt_nr h.1.1, lt_nr h.1.2, h3]; rfl, fun p => by rw [kvAll, all_nr h.1.1, all_nr h.1.2, h4]; rfl⟩
theorem O_nr {o : O} (h : nrO o = true) : (∀ f, O.map f o = o) ∧ (∀ ρ, O.ren ρ o = o) ∧ (∀ n, O.lt n o = true) ∧ ∀ p, O.all p o = true := by
  cases o with
  | lst xs => exact ⟨fun f => by rw [O.map, maps_nr h], fun ρ => by rw [O.ren, rens_nr h], fun n => lts_nr h, fun p => alls_nr h⟩
  | dic kvs =>
    obtain ⟨h1, h2, h3, h4⟩ := kv_nr h
    exact ⟨fun f => by rw [O.map, h1], fun ρ => by rw [O.ren, h2], fun n => h3 n, fun p => h4 p⟩
  | dicN ks => exact ⟨fun f => rfl, fun ρ => rfl, fun n => lts_nr h, fun p => alls_nr h⟩
  | dicM ks => exact ⟨fun f => rfl, fun ρ => rfl, fun n => lts_nr h, fun p => alls_nr h⟩
  | ins c kvs =>
    obtain ⟨h1, h2, h3, h4⟩ := kv_nr h
    exact ⟨fun f => by rw [O.map, h1], fun ρ => by rw [O.ren, h2], fun n => h3 n, fun p => h4 p⟩
  | exc c => exact ⟨fun f => rfl, fun ρ => rfl, fun n => rfl, fun p => rfl⟩
  | tab c => exact ⟨fun f => rfl, fun ρ => rfl, fun n => rfl, fun p => rfl⟩
  | dicL kvs =>
    obtain ⟨h1, h2, h3, h4⟩ := kv_nr h
    exact ⟨fun f => by rw [O.map, h1], fun ρ => by rw [O.ren, h2], fun n => h3 n, fun p => h4 p⟩
def setAll (hp : Hd) : List Nat → List O → Hd
  | n :: σ, o :: os => setAll (hp.set n o) σ os
  | _, _ => hp
theorem setAll_len : ∀ (σ : List Nat) (os : List O) (hp : Hd), (setAll hp σ os).length = hp.length
  | [], _, hp => by simp [setAll]
  | _ :: _, [], hp => by simp [setAll]
  | n :: σ, o :: os, hp => by rw [setAll, setAll_len σ os, List.length_set]
theorem setAll_out : ∀ (σ : List Nat) (os : List O) (hp : Hd) (j : Nat), j ∉ σ → (setAll hp σ os)[j]? = hp[j]?
  | [], _, hp, j, _ => by simp [setAll]
  | _ :: _, [], hp, j, _ => by simp [setAll]
  | n :: σ, o :: os, hp, j, h => by
    rw [setAll, setAll_out σ os _ j (fun z => h (List.mem_cons_of_mem _ z)), List.getElem?_set_ne (fun z => h (by rw [z]; exact List.mem_cons_self))]
theorem setAll_at : ∀ (σ : List Nat) (os : List O) (hp : Hd) (i : Nat), σ.Nodup → os.length = σ.length → (∀ n ∈ σ, n < hp.length) → i < σ.length → (setAll hp σ os)[σ.getD i 0]? = os[i]?
  | [], _, hp, i, _, _, _, h => by simp at h
  | _ :: _, [], hp, i, _, h, _, _ => by simp at h
  | n :: σ, o :: os, hp, i, nd, hl, hb, hi => by
    rw [List.nodup_cons] at nd
    rw [setAll]
    cases i with
    | zero =>
      rw [show (n :: σ).getD 0 0 = n from rfl, setAll_out σ os _ n nd.1, List.getElem?_set_self (hb n List.mem_cons_self)]
      rfl
    | succ i =>
      rw [show (n :: σ).getD (i + 1) 0 = σ.getD i 0 from by simp [List.getD]]
      rw [setAll_at σ os _ i nd.2 (by simpa using hl) (fun k hk => by rw [List.length_set]; exact hb k (List.mem_cons_of_mem _ hk)) (by simpa using hi)]
      simp
def Flat (m : List D → Hd → Option (D × Hd)) (ds : List D) (hp : Hd) (d : D) (hp' : Hd) : Prop :=
  ∃ (σ : List Nat) (dsS : List D) (os os' : List O) (d2 : D) (g : Hd), m dsS os = some (d2, g) ∧ σ.Nodup ∧ os.length = σ.length ∧ os'.length = σ.length ∧ ds = D.rens σ dsS ∧ D.lts σ.length dsS = true ∧
    (∀ (i : Nat) (o : O), os[i]? = some o → nrO o = true ∧ hp[σ.getD i 0]? = some o) ∧ (∀ (i : Nat) (o : O), os'[i]? = some o → nrO o = true ∧ g[i]? = some o) ∧
    ((nr d2 = true ∧ d = d2 ∧ hp' = setAll hp σ os') ∨ ∃ k o, d2 = .ref k ∧ σ.length ≤ k ∧ g[k]? = some o ∧ nrO o = true ∧ d = .ref hp.length ∧ hp' = setAll hp σ os' ++ [o])
theorem Flat.run {m : List D → Hd → Option (D × Hd)} {ds : List D} {hp : Hd} {d : D} {hp' : Hd} (h : Flat m ds hp d hp') : ∃ σ κ dsS os d2 g f kp, Run m ds hp d hp' σ κ dsS os d2 g f kp := by
  obtain ⟨σ, dsS, os, os', d2, g, run, nd, len, len', args, argsLt, objs, objs', c⟩ := h
  have lt : ∀ i ∈ σ, i < hp.length := fun n hn => by
    obtain ⟨i, hi, e⟩ := List.mem_iff_getElem.mp hn
    obtain ⟨_, h2⟩ := objs i os[i] (List.getElem?_eq_getElem (by omega))
    have e2 : σ.getD i 0 = n := by simp [List.getD, hi, e]
    rw [e2] at h2
    exact (List.getElem?_eq_some_iff.mp h2).1
  rcases c with ⟨h1, rfl, rfl⟩ | ⟨k, o, rfl, hk, hg, ho, rfl, rfl⟩
  · refine ⟨σ, [], dsS, os, d, g, fun i => σ.getD i 0, fun _ => false, run, nd, lt, len, args, argsLt, fun i o e => ?_, List.nodup_nil, fun _ h => by simp at h, fun i _ => rfl, fun t k e => by simp at e, fun i h => by simp at h, ⟨h1, (map_nr h1).symm⟩, by simp [setAll_len], fun j _ hj => setAll_out σ os' hp j hj, fun i hi => ?_, fun t k e => by simp at e⟩
    · obtain ⟨a, b⟩ := objs i o e
      obtain ⟨_, a2, a3, _⟩ := O_nr a
      exact ⟨a3 _, by rw [a2]; exact b⟩
    · have hi' : i < os'.length := by omega
      obtain ⟨a, b⟩ := objs' i os'[i] (List.getElem?_eq_getElem hi')
      obtain ⟨a1, _, _, a4⟩ := O_nr a
      exact ⟨os'[i], b, a4 _, by rw [a1, setAll_at σ os' hp i nd len' lt hi, List.getElem?_eq_getElem hi']⟩
  · refine ⟨σ, [k], dsS, os, .ref k, g, fun i => if i < σ.length then σ.getD i 0 else hp.length, fun i => i == k, run, nd, lt, len, args, argsLt, fun i o e => ?_, by simp, fun j hj => ?_, fun i hi => by simp [hi], fun t j e => ?_, fun i hi => ?_, ⟨by simp [D.all], ?_⟩, by simp [setAll_len], fun j hj1 hj => ?_, fun i hi => ?_, fun t j e => ?_⟩
    · obtain ⟨a, b⟩ := objs i o e
      obtain ⟨_, a2, a3, _⟩ := O_nr a
      exact ⟨a3 _, by rw [a2]; exact b⟩
    · have : j = k := by simpa using hj
      subst this
      exact ⟨hk, (List.getElem?_eq_some_iff.mp hg).1⟩
    · cases t with
      | zero =>
        have : k = j := by simpa using e
        subst this
        have : ¬ k < σ.length := by omega
        simp [this]
      | succ t => simp at e
    · have : i = k := by simpa using hi
      exact .inr (by simp [this])
    · rw [D.map]
      have : ¬ k < σ.length := by omega
      simp [this]
    · rw [List.getElem?_append_left (by rw [setAll_len]; exact hj1), setAll_out σ os' hp j hj]
    · have hi' : i < os'.length := by omega
      obtain ⟨a, b⟩ := objs' i os'[i] (List.getElem?_eq_getElem hi')
      obtain ⟨a1, _, _, a4⟩ := O_nr a
      refine ⟨os'[i], b, a4 _, ?_⟩
      have hl : σ.getD i 0 < hp.length := lt _ (by simp [List.getD, hi])
      rw [a1, List.getElem?_append_left (by rw [setAll_len]; exact hl), setAll_at σ os' hp i nd len' lt hi, List.getElem?_eq_getElem hi']
    · cases t with
      | zero =>
        have : k = j := by simpa using e
        subst this
        obtain ⟨a1, _, _, a4⟩ := O_nr ho
        exact ⟨o, hg, a4 _, by rw [a1, List.getElem?_append_right (by rw [setAll_len]; omega), setAll_len]; simp⟩
      | succ t => simp at e
def cV (m : List D → Hd → Option (D × Hd)) (ds : List D) (hp : Hd) : Option (D × Hd) := if nrs ds = true then match m ds [] with
  | some (d, _) => if nr d = true then some (d, hp) else none
  | none => none else none
def cN (m : List D → Hd → Option (D × Hd)) (ds : List D) (hp : Hd) : Option (D × Hd) := if nrs ds = true then match m ds [] with
  | some (.ref k, g) => match g[k]? with
    | some o => if nrO o = true then some (.ref hp.length, hp ++ [o]) else none
    | none => none
  | _ => none else none
theorem cl_cV (m : List D → Hd → Option (D × Hd)) : Cl (cV m) m := fun ds hp d hp' h => by
  unfold cV at h
  split at h
  · rename_i hn
    split at h
    · rename_i d2 g e
      split at h
      · rename_i hd
        cases h
        exact Flat.run ⟨[], ds, [], [], d, g, e, List.nodup_nil, rfl, rfl, (rens_nr hn).symm, lts_nr hn, fun i o e => by simp at e, fun i o e => by simp at e, .inl ⟨hd, rfl, rfl⟩⟩
      · cases h
    · cases h
  · cases h
theorem cl_cN (m : List D → Hd → Option (D × Hd)) : Cl (cN m) m := fun ds hp d hp' h => by
  unfold cN at h
  split at h
  · rename_i hn
    split at h
    · rename_i k g e
      split at h
      · rename_i o eo
        split at h
        · rename_i ho
          cases h
          exact Flat.run ⟨[], ds, [], [], .ref k, g, e, List.nodup_nil, rfl, rfl, (rens_nr hn).symm, lts_nr hn, fun i o e => by simp at e, fun i o e => by simp at e, .inr ⟨k, o, rfl, Nat.zero_le _, eo, ho, rfl, rfl⟩⟩
        · cases h
      · cases h
    · cases h
  · cases h
theorem Flat.one {m : List D → Hd → Option (D × Hd)} {n : Nat} {ds : List D} {hp hp' : Hd} {d d2 : D} {o o' : O} {g : Hd} (run : m (.ref 0 :: ds) [o] = some (d2, g)) (hn : nrs ds = true) (ho : hp[n]? = some o) (fo : nrO o = true) (g0 : g[0]? = some o') (fo' : nrO o' = true)
    (c : (nr d2 = true ∧ d = d2 ∧ hp' = hp.set n o') ∨ ∃ k o2, d2 = .ref k ∧ 1 ≤ k ∧ g[k]? = some o2 ∧ nrO o2 = true ∧ d = .ref hp.length ∧ hp' = hp.set n o' ++ [o2]) : Flat m (.ref n :: ds) hp d hp' := by
  refine ⟨[n], .ref 0 :: ds, [o], [o'], d2, g, run, by simp, rfl, rfl, ?_, ?_, fun i x e => ?_, fun i x e => ?_, ?_⟩
  · rw [D.rens, D.ren, rens_nr hn]
    rfl
  · rw [D.lts, lts_nr hn]
    rfl
  · cases i with
    | zero =>
      have : o = x := by simpa using e
      subst this
      exact ⟨fo, ho⟩
    | succ i => simp at e
  · cases i with
    | zero =>
      have : o' = x := by simpa using e
      subst this
      exact ⟨fo', g0⟩
    | succ i => simp at e
  · rcases c with ⟨a, b, c⟩ | ⟨k, o2, a, b, c, e, f, g⟩
    · exact .inl ⟨a, b, by rw [c]; rfl⟩
    · exact .inr ⟨k, o2, a, b, c, e, f, by rw [g]; rfl⟩
theorem sFor_inv {t : Tg} {b : AS} (Inv : Nat → Ls → Hd → Prop) : ∀ (items : List D) (ls : Ls) (hp : Hd) (i : Nat), Inv i ls hp →
    (∀ (j : Nat) (x : D) ls hp, items[j]? = some x → Inv (i + j) ls hp → ∃ ls1 ls2 hp2, t.asg x ls = some ls1 ∧ (b ls1 hp = some (.nx, ls2, hp2) ∨ b ls1 hp = some (.ct, ls2, hp2)) ∧ Inv (i + j + 1) ls2 hp2) →
    ∃ ls' hp', sFor t [] b items ls hp = some (.nx, ls', hp') ∧ Inv (i + items.length) ls' hp'
  | [], ls, hp, i, h, _ => ⟨ls, hp, rfl, h⟩
  | x :: xs, ls, hp, i, h, step => by
    obtain ⟨ls1, ls2, hp2, e1, e2, h2⟩ := step 0 x ls hp rfl h
    obtain ⟨ls', hp', e3, h3⟩ := sFor_inv Inv xs ls2 hp2 (i + 1) h2 fun j y ls hp ej hj => by
      have := step (j + 1) y ls hp (by simpa using ej) (by rw [show i + (j + 1) = i + 1 + j by omega]; exact hj)
      rw [show i + (j + 1) + 1 = i + 1 + j + 1 by omega] at this
      exact this
    refine ⟨ls', hp', ?_, by rw [List.length_cons, show i + (xs.length + 1) = i + 1 + xs.length by omega]; exact h3⟩
    rcases e2 with e2 | e2 <;> simp only [sFor, gdOk, if_true, e1, e2, e3]
def c1V (m : List D → Hd → Option (D × Hd)) : List D → Hd → Option (D × Hd)
  | .ref n :: ds, hp => match hp[n]? with
    | some o => if (nrs ds && nrO o) = true then match m (.ref 0 :: ds) [o] with
      | some (d, o' :: _) => if (nr d && nrO o') = true then some (d, hp.set n o') else none
      | _ => none else none
    | none => none
  | _, _ => none
theorem cl_c1V (m : List D → Hd → Option (D × Hd)) : Cl (c1V m) m := fun ds hp d hp' h => by
  unfold c1V at h
  split at h
  · split at h
    · rename_i o eo
      split at h
      · rename_i hn
        rw [Bool.and_eq_true] at hn
        split at h
        · rename_i d2 o' g e
          split at h
          · rename_i hd
            rw [Bool.and_eq_true] at hd
            cases h
            exact (Flat.one e hn.1 eo hn.2 rfl hd.2 (.inl ⟨hd.1, rfl, rfl⟩)).run
          · cases h
        · cases h
      · cases h
    · cases h
  · cases h
section
variable {ls : Ls} {hp : Hd} {fa fb fc : AE} {ft fu : AT} {fr fl : AA} {f g : AS}
@[simp] theorem mVar_s {i : Nat} : mVar i ls hp = (match ls[i]? with
  | some (some d) => some (d, hp)
  | _ => none) := rfl
@[simp] theorem mC_s {d : D} : mC d ls hp = some (d, hp) := rfl
@[simp] theorem m2_s {g : D → D → Hd → Option (D × Hd)} : m2 fa fb g ls hp = (match fa ls hp with
  | some (a, hp1) => match fb ls hp1 with
    | some (b, hp2) => g a b hp2
    | none => none
  | none => none) := rfl
@[simp] theorem m1_s {g : D → Hd → Option (D × Hd)} : m1 fa g ls hp = (match fa ls hp with
  | some (a, hp1) => g a hp1
  | none => none) := rfl
@[simp] theorem mT_s : mT fa ls hp = (match fa ls hp with
  | some (.bl b, hp1) => some (b, hp1)
  | _ => none) := rfl
@[simp] theorem mNil_s : mNil ls hp = some ([], hp) := rfl
@[simp] theorem mCons_s : mCons fa fr ls hp = (match fa ls hp with
  | some (a, hp1) => match fr ls hp1 with
    | some (r, hp2) => some (a :: r, hp2)
    | none => none
  | none => none) := rfl
@[simp] theorem mAs_s {g : List D → Hd → Option (D × Hd)} : mAs fr g ls hp = (match fr ls hp with
  | some (a, hp1) => g a hp1
  | none => none) := rfl
@[simp] theorem ar_s {n : Nat} {g : List D → Hd → Option (D × Hd)} {ds : List D} : ar n g ds hp = if ds.length = n then g ds hp else none := rfl
@[simp] theorem mNew_s : mNew fl ls hp = (match fl ls hp with
  | some (ds, hp1) => some (.ref hp1.length, hp1 ++ [.lst ds])
  | none => none) := rfl
@[simp] theorem mTup_s : mTup fr ls hp = (match fr ls hp with
  | some (ds, hp1) => if ds.length ≤ sizeLine then some (.tup ds, hp1) else none
  | none => none) := rfl
@[simp] theorem mLst_s : mLst fr ls hp = (match fr ls hp with
  | some (ds, hp1) => if ds.length ≤ sizeLine then some (ds, hp1) else none
  | none => none) := rfl
@[simp] theorem sNext_s : sNext ls hp = some (.nx, ls, hp) := rfl
@[simp] theorem sSeq_s : sSeq f g ls hp = (match f ls hp with
  | some (.nx, ls1, hp1) => g ls1 hp1
  | r => r) := rfl
@[simp] theorem sDrop_s : sDrop fa ls hp = (match fa ls hp with
  | some (_, hp1) => some (.nx, ls, hp1)
  | none => none) := rfl
@[simp] theorem sRet_s : sRet fa ls hp = (match fa ls hp with
  | some (d, hp1) => some (.rt d, ls, hp1)
  | none => none) := rfl
@[simp] theorem sIf_s : sIf ft f g ls hp = (match ft ls hp with
  | some (true, hp1) => f ls hp1
  | some (false, hp1) => g ls hp1
  | none => none) := rfl
@[simp] theorem sSet_s {i : Nat} : sSet i fa ls hp = (match fa ls hp with
  | some (d, hp1) => some (.nx, ls.set i (some d), hp1)
  | none => none) := rfl
@[simp] theorem sAsg_s {t : Tg} : sAsg t fa ls hp = (match fa ls hp with
  | some (d, hp1) => match t.asg d ls with
    | some ls1 => some (.nx, ls1, hp1)
    | none => none
  | none => none) := rfl
@[simp] theorem sPar_s {i j : Nat} : sPar i j fr ls hp = (match fr ls hp with
  | some ([a, b], hp1) => some (.nx, (ls.set i (some a)).set j (some b), hp1)
  | _ => none) := rfl
@[simp] theorem sStore_s : sStore fa fb fc ls hp = (match fa ls hp with
  | some (v, hp1) => match fb ls hp1 with
    | some (x, hp2) => match fc ls hp2 with
      | some (y, hp3) => match gSet x y v hp3 with
        | some hp4 => some (.nx, ls, hp4)
        | none => none
      | none => none
    | none => none
  | none => none) := rfl
@[simp] theorem mDef_s {n : Nat} {ds : List D} : mDef n f ds hp = (match f (stD n ds) hp with
  | some (.rt d, _, hp') => some (d, hp')
  | some (.nx, _, hp') => some (.non, hp')
  | _ => none) := rfl
@[simp] theorem gI_s {c : Int → Int → Bool} {g : Int → Int → D} {i j : Int} : gI c g (.int i) (.int j) hp = if c i j then some (g i j, hp) else none := rfl
@[simp] theorem gAdd_int {i j : Int} : gAdd (.int i) (.int j) hp = some (.int (i + j), hp) := rfl
@[simp] theorem gSub_int {i j : Int} : gSub (.int i) (.int j) hp = some (.int (i - j), hp) := rfl
theorem gMul_int {i j : Int} (h : cMul i j = true) : gMul (.int i) (.int j) hp = some (.int (i * j), hp) := by simp [gMul, h]
theorem gDiv_int {i j : Int} (h : cDiv i j = true) : gDiv (.int i) (.int j) hp = some (.int (i / j), hp) := by simp [gDiv, h]
theorem gMod_int {i j : Int} (h : 0 < j) : gMod (.int i) (.int j) hp = some (.int (i % j), hp) := by simp [gMod, h]
@[simp] theorem gLt_int {i j : Int} : gLt (.int i) (.int j) hp = some (.bl (decide (i < j)), hp) := rfl
@[simp] theorem gLe_int {i j : Int} : gLe (.int i) (.int j) hp = some (.bl (decide (i ≤ j)), hp) := rfl
@[simp] theorem gGt_int {i j : Int} : gGt (.int i) (.int j) hp = some (.bl (decide (j < i)), hp) := rfl
@[simp] theorem gGe_int {i j : Int} : gGe (.int i) (.int j) hp = some (.bl (decide (j ≤ i)), hp) := rfl
@[simp] theorem gNeg_int {i : Int} : gNeg (.int i) hp = some (.int (-i), hp) := rfl
theorem cMul_of {i j : Int} (h : (-(2 ^ 64) < i ∧ i < 2 ^ 64) ∨ (-(2 ^ 64) < j ∧ j < 2 ^ 64)) : cMul i j = true := decide_eq_true (.inl h)
theorem cDiv_of {i j : Int} (h : 0 < j ∧ j < 1073741824) : cDiv i j = true := decide_eq_true ⟨h.1, .inl h.2⟩
@[simp] theorem gEq_int {i j : Int} : gEq (.int i) (.int j) hp = some (.bl (i == j), hp) := rfl
@[simp] theorem gNe_int {i j : Int} : gNe (.int i) (.int j) hp = some (.bl (!(i == j)), hp) := rfl
end
def T (a : List Int) : D := .tup (a.map D.int)
theorem mapO_int {hp : Hd} {n : Nat} : ∀ a : List Int, mapO (pyF hp (n + 1)) (a.map D.int) = some (a.map PyData.int)
  | [] => rfl
  | x :: r => by
    rw [List.map_cons, mapO, mapO_int r]
    rfl
theorem pyF_T {hp : Hd} {n : Nat} (a : List Int) : pyF hp (n + 2) (T a) = some (.tuple (a.map PyData.int)) := by
  show (mapO (pyF hp (n + 1)) (a.map D.int)).map PyData.tuple = _
  rw [mapO_int]
  rfl
theorem mapO_T {hp : Hd} {n : Nat} : ∀ bs : List (List Int), mapO (pyF hp (n + 2)) (bs.map T) = some (bs.map fun b => .tuple (b.map PyData.int))
  | [] => rfl
  | x :: r => by
    rw [List.map_cons, mapO, mapO_T r, pyF_T]
    rfl
theorem canInts : ∀ a : List Int, PyData.canLayAll0 (a.map PyData.int) = true
  | [] => rfl
  | x :: r => by
    rw [List.map_cons, PyData.canLayAll0, canInts r]
    rfl
theorem depInts : ∀ a : List Int, PyData.depthAll (a.map PyData.int) = 0
  | [] => rfl
  | x :: r => by
    rw [List.map_cons, PyData.depthAll, depInts r]
    rfl
theorem shaped_T (a : List Int) : SeqAt.shaped (.tuple (a.map PyData.int)) = true := by
  unfold SeqAt.shaped
  rw [PyData.canLay0, canInts, PyData.depth, depInts]
  rfl
theorem canTs : ∀ bs : List (List Int), PyData.canLayAll0 (bs.map fun b => .tuple (b.map PyData.int)) = true
  | [] => rfl
  | x :: r => by
    rw [List.map_cons, PyData.canLayAll0, PyData.canLay0, canInts, canTs r]
    rfl
theorem depTs : ∀ bs : List (List Int), PyData.depthAll (bs.map fun b => .tuple (b.map PyData.int)) ≤ 1
  | [] => Nat.zero_le _
  | x :: r => by
    rw [List.map_cons, PyData.depthAll, PyData.depth, depInts]
    have := depTs r
    omega
theorem shaped_Ts (bs : List (List Int)) : SeqAt.shaped (.list (bs.map fun b => .tuple (b.map PyData.int))) = true := by
  unfold SeqAt.shaped
  rw [PyData.canLay0, canTs, PyData.depth]
  have := depTs bs
  simp
  omega
theorem eqvInts : ∀ a b : List Int, PyData.eqvAll (a.map PyData.int) (b.map PyData.int) = (a == b)
  | [], [] => rfl
  | [], _ :: _ => rfl
  | _ :: _, [] => rfl
  | x :: r, y :: s => by
    rw [List.map_cons, List.map_cons, PyData.eqvAll, eqvInts r s]
    rfl
theorem eqv_T (a b : List Int) : PyData.eqv (.tuple (a.map PyData.int)) (.tuple (b.map PyData.int)) = (a == b) := by
  rw [PyData.eqv, eqvInts]
theorem eqH_T {hp : Hd} (a b : List Int) : eqH hp (T a) (T b) = some (a == b) := by
  unfold eqH
  rw [pyF_T (n := 14), pyF_T (n := 14)]
  dsimp only
  rw [shaped_T, shaped_T, eqv_T]
  rfl
theorem gEq_T {hp : Hd} (a b : List Int) : gEq (T a) (T b) hp = some (.bl (a == b), hp) := by
  unfold gEq
  rw [eqH_T]
theorem gNe_T {hp : Hd} (a b : List Int) : gNe (T a) (T b) hp = some (.bl (!(a == b)), hp) := by
  unfold gNe
  rw [eqH_T]
theorem inL_T {hp : Hd} (a : List Int) (bs : List (List Int)) : inL hp (T a) (bs.map T) = some (bs.any fun b => b == a) := by
  unfold inL
  rw [pyF_T (n := 14), mapO_T (n := 13)]
  dsimp only
  rw [shaped_T, shaped_Ts]
  simp only [Bool.and_self, if_true, List.any_map, Option.some.injEq]
  congr 1
  funext b
  exact eqv_T b a
theorem pyF_ref {hp : Hd} {n k : Nat} {xs : List D} (h : hp[k]? = some (.lst xs)) : pyF hp (n + 1) (.ref k) = (mapO (pyF hp n) xs).map .list := by
  show (match hp[k]? with
    | some (.lst xs) => (mapO (pyF hp n) xs).map PyData.list
    | _ => none) = _
  rw [h]
theorem nr_T (a : List Int) : nr (T a) = true := by
  show D.alls _ (a.map D.int) = true
  induction a with
  | nil => rw [List.map_nil, D.alls]
  | cons x r ih => rw [List.map_cons, D.alls, ih]; rfl
theorem nrs_T : ∀ bs : List (List Int), nrs (bs.map T) = true
  | [] => rfl
  | x :: r => by
    show D.alls _ (T x :: r.map T) = true
    rw [D.alls, show D.all (fun _ => false) (T x) = true from nr_T x, show D.alls (fun _ => false) (r.map T) = true from nrs_T r]
    rfl
theorem lcGo_typed {α : Type} {t : Tg} {gd : Gd} {tt : AT} {te : AE} {ls0 : Ls} {hp : Hd} (φ : α → D) (hg : gdOk gd hp = true) (bf : α → Bool) (df : α → D) : ∀ (items : List α),
    (∀ x ∈ items, ∃ ls1, t.asg (φ x) ls0 = some ls1 ∧ tt ls1 hp = some (bf x, hp) ∧ (bf x = true → te ls1 hp = some (df x, hp))) → lcGo t gd tt te ls0 (items.map φ) hp = some ((items.filter bf).map df, hp)
  | [], _ => by simp [lcGo, hg]
  | x :: xs, h => by
    obtain ⟨ls1, e1, e2, e3⟩ := h x List.mem_cons_self
    have ih := lcGo_typed φ hg bf df xs fun y hy => h y (List.mem_cons_of_mem _ hy)
    cases hb : bf x with
    | true =>
      rw [hb] at e2
      simp only [List.map_cons, lcGo, hg, if_true, e1, e2, e3 hb, ih, List.filter_cons, hb, List.map_cons]
    | false =>
      rw [hb] at e2
      simp only [List.map_cons, lcGo, hg, if_true, e1, e2, ih, List.filter_cons, hb, Bool.false_eq_true, if_false]
theorem hget_new {hp : Hd} {o : O} : (hp ++ [o])[hp.length]? = some o := by simp
theorem hget_old {hp l : Hd} {n : Nat} {o : O} (h : hp[n]? = some o) : (hp ++ l)[n]? = some o := by
  rw [List.getElem?_append_left (List.getElem?_eq_some_iff.mp h).1]
  exact h
theorem hlt {hp : Hd} {n : Nat} {o : O} (h : hp[n]? = some o) : n < hp.length := (List.getElem?_eq_some_iff.mp h).1
theorem hset_same {hp : Hd} {n : Nat} {o o' : O} (h : hp[n]? = some o) : (hp.set n o')[n]? = some o' := List.getElem?_set_self (hlt h)
theorem hset_ne {hp : Hd} {n m : Nat} {o o' : O} (h : n ≠ m) (e : hp[m]? = some o) : (hp.set n o')[m]? = some o := by
  rw [List.getElem?_set_ne h]
  exact e
theorem mIS_ref {fa : AE} {ls : Ls} {hp hp' : Hd} {n : Nat} {xs : List D} (e : fa ls hp = some (.ref n, hp')) (h : hp'[n]? = some (.lst xs)) : mIS fa ls hp = some (xs, [(n, xs)], hp') := by
  unfold mIS
  rw [e]
  show (match (match hp'[n]? with
    | some (.lst xs) => some (xs, [(n, xs)])
    | _ => none) with
    | some (items, gd) => some (items, gd, hp')
    | none => none) = _
  rw [h]
theorem mIS_tup {fa : AE} {ls : Ls} {hp hp' : Hd} {xs : List D} (e : fa ls hp = some (.tup xs, hp')) : mIS fa ls hp = some (xs, [], hp') := by
  unfold mIS
  rw [e]
  rfl
theorem gdOk1 {hp : Hd} {n : Nat} {xs : List D} (h : hp[n]? = some (.lst xs)) : gdOk [(n, xs)] hp = true := by
  unfold gdOk gdOk
  rw [h]
  dsimp only
  rw [D.sames_self]
  rfl
theorem mLc_typed {α : Type} {fi : AI} {t : Tg} {own : List Nat} {tt : AT} {te : AE} {ls : Ls} {hp hp1 : Hd} {gd : Gd} (φ : α → D) (items : List α) (bf : α → Bool) (df : α → D) (ei : fi ls hp = some (items.map φ, gd, hp1)) (hl : items.length ≤ sizeLine) (hg : gdOk gd hp1 = true)
    (h : ∀ x ∈ items, ∃ ls1, t.asg (φ x) (wipeL ls own) = some ls1 ∧ tt ls1 hp1 = some (bf x, hp1) ∧ (bf x = true → te ls1 hp1 = some (df x, hp1))) : mLc fi t own tt te ls hp = some ((items.filter bf).map df, hp1) := by
  unfold mLc
  rw [ei]
  dsimp only
  rw [if_pos (by rw [List.length_map]; exact hl), lcGo_typed φ hg bf df items h]
theorem mL_of {fl : AA} {g : List D → Hd → Option (D × Hd)} {ls : Ls} {hp hp' : Hd} {ds : List D} (e : fl ls hp = some (ds, hp')) : mL fl g ls hp = g ds hp' := by
  unfold mL
  rw [e]
theorem m2_of {fa fb : AE} {g : D → D → Hd → Option (D × Hd)} {ls : Ls} {hp hp1 hp2 : Hd} {a b : D} (e1 : fa ls hp = some (a, hp1)) (e2 : fb ls hp1 = some (b, hp2)) : m2 fa fb g ls hp = g a b hp2 := by
  rw [m2_s, e1]
  dsimp only
  rw [e2]
theorem mT_of {fa : AE} {ls : Ls} {hp hp' : Hd} {b : Bool} (e : fa ls hp = some (.bl b, hp')) : mT fa ls hp = some (b, hp') := by
  rw [mT_s, e]
theorem sSeq_of {f g : AS} {ls ls1 : Ls} {hp hp1 : Hd} {r : Option (Fl × Ls × Hd)} (e : f ls hp = some (.nx, ls1, hp1)) (e2 : g ls1 hp1 = r) : sSeq f g ls hp = r := by
  rw [sSeq_s, e]
  exact e2
theorem sSet_of {i : Nat} {fa : AE} {ls : Ls} {hp hp1 : Hd} {d : D} (e : fa ls hp = some (d, hp1)) : sSet i fa ls hp = some (.nx, ls.set i (some d), hp1) := by
  rw [sSet_s, e]
theorem sIf_t {ft : AT} {f g : AS} {ls : Ls} {hp hp1 : Hd} {r : Option (Fl × Ls × Hd)} (e : ft ls hp = some (true, hp1)) (e2 : f ls hp1 = r) : sIf ft f g ls hp = r := by
  rw [sIf_s, e]
  exact e2
theorem sIf_f {ft : AT} {f g : AS} {ls : Ls} {hp hp1 : Hd} {r : Option (Fl × Ls × Hd)} (e : ft ls hp = some (false, hp1)) (e2 : g ls hp1 = r) : sIf ft f g ls hp = r := by
  rw [sIf_s, e]
  exact e2
theorem mNew_of {fl : AA} {ls : Ls} {hp hp' : Hd} {ds : List D} (e : fl ls hp = some (ds, hp')) : mNew fl ls hp = some (.ref hp'.length, hp' ++ [.lst ds]) := by
  rw [mNew_s, e]
theorem gLen_lst {hp : Hd} {n : Nat} {xs : List D} (h : hp[n]? = some (.lst xs)) : gLen [.ref n] hp = some (.int xs.length, hp) := by
  show (match hp[n]? with
    | some (.lst ds) => some (D.int ds.length, hp)
    | some (.dic ds) => some (D.int ds.length, hp)
    | _ => none) = _
  rw [h]
end Ve
namespace Ve
open PySem PySem.Spec L2
theorem ints_inj : ∀ {a b : List Int}, a.map D.int = b.map D.int → a = b
  | [], [], _ => rfl
  | [], _ :: _, h => by cases h
  | _ :: _, [], h => by cases h
  | x :: r, y :: s, h => by
    rw [List.map_cons, List.map_cons] at h
    injection h with h1 h2
    injection h1 with h1
    rw [h1, ints_inj h2]
theorem T_inj {a b : List Int} (h : T a = T b) : a = b := ints_inj (D.tup.inj h)
theorem toKeys_ints : ∀ a : List Int, toKeys (a.map D.int) = some (a.map Sum.inl)
  | [] => rfl
  | x :: r => by
    rw [List.map_cons, toKeys, toKeys_ints r]
    rfl
theorem same_T {a b : List Int} : (D.same (T a) (T b) = true) ↔ a = b := ⟨fun h => T_inj (same_iff.mp h), fun h => by rw [h]; exact D.same_self _⟩
def Cd (cs : List (List Int)) : List (D × D) := cs.map fun c => (T c, D.bl true)
def addC (cs : List (List Int)) (a : List Int) : List (List Int) := if a ∈ cs then cs else cs ++ [a]
theorem look_Cd : ∀ (cs : List (List Int)) (a : List Int), look (Cd cs) (T a) = if a ∈ cs then some (.bl true) else none
  | [], a => rfl
  | c :: cs, a => by
    show look ((T c, D.bl true) :: Cd cs) (T a) = _
    rw [look, look_Cd cs a]
    by_cases h : c = a
    · rw [if_pos (same_T.mpr h), if_pos (by rw [h]; exact List.mem_cons_self)]
    · rw [if_neg (fun z => h (same_T.mp z))]
      by_cases h2 : a ∈ cs
      · rw [if_pos h2, if_pos (List.mem_cons_of_mem _ h2)]
      · rw [if_neg h2, if_neg (fun z => by
          rcases List.mem_cons.mp z with z | z
          · exact h z.symm
          · exact h2 z)]
theorem dKind_Cd (cs : List (List Int)) (a : List Int) : dKind (Cd cs) (T a) = true := by
  show ((toKeys (a.map D.int)).isSome && _) = true
  rw [toKeys_ints]
  cases cs <;> rfl
theorem putD_Cd : ∀ (cs : List (List Int)) (a : List Int), putD (Cd cs) (T a) (.bl true) = Cd (addC cs a)
  | [], a => rfl
  | c :: cs, a => by
    show putD ((T c, D.bl true) :: Cd cs) (T a) (.bl true) = _
    rw [putD]
    by_cases h : c = a
    · rw [if_pos (same_T.mpr h)]
      subst h
      unfold addC
      rw [if_pos List.mem_cons_self]
      rfl
    · rw [if_neg (fun z => h (same_T.mp z)), putD_Cd cs a]
      unfold addC
      by_cases h2 : a ∈ cs
      · rw [if_pos h2, if_pos (List.mem_cons_of_mem _ h2)]
        rfl
      · rw [if_neg h2, if_neg (fun z => by
          rcases List.mem_cons.mp z with z | z
          · exact h z.symm
          · exact h2 z)]
        rfl
theorem inB_dic {hp : Hd} {n : Nat} {a : List Int} {cs : List (List Int)} (h : hp[n]? = some (.dic (Cd cs))) : inB (T a) (.ref n) hp = some (decide (a ∈ cs)) := by
  show (match hp[n]? with
      | some (.lst ys) => inL hp (T a) ys
      | some o => match dicOf o with
        | some kvs => if dKind kvs (T a) = true then some (look kvs (T a)).isSome else none
        | none => none
      | none => none) = _
  rw [h]
  show (if dKind (Cd cs) (T a) = true then some (look (Cd cs) (T a)).isSome else none) = _
  rw [if_pos (dKind_Cd cs a), look_Cd]
  by_cases h2 : a ∈ cs
  · rw [if_pos h2, decide_eq_true h2]
    rfl
  · rw [if_neg h2, decide_eq_false h2]
    rfl
theorem gIn_dic {hp : Hd} {n : Nat} {a : List Int} {cs : List (List Int)} (h : hp[n]? = some (.dic (Cd cs))) : gIn (T a) (.ref n) hp = some (.bl (decide (a ∈ cs)), hp) := by
  unfold gIn
  rw [inB_dic h]
theorem gNotIn_dic {hp : Hd} {n : Nat} {a : List Int} {cs : List (List Int)} (h : hp[n]? = some (.dic (Cd cs))) : gNotIn (T a) (.ref n) hp = some (.bl (!decide (a ∈ cs)), hp) := by
  unfold gNotIn
  rw [inB_dic h]
theorem inB_tup {hp : Hd} {a : List Int} {cs : List (List Int)} : inB (T a) (.tup (cs.map T)) hp = some (decide (a ∈ cs)) := by
  show (if (flatD (T a) && (cs.map T).all flatD) = true then some ((cs.map T).any fun z => eqF z (T a)) else inL hp (T a) (cs.map T)) = _
  rw [if_neg (show ¬ (flatD (T a) && (cs.map T).all flatD) = true from fun z => by rw [Bool.and_eq_true] at z; exact Bool.noConfusion (show false = true from z.1)), inL_T]
  congr 1
  rw [Bool.eq_iff_iff, List.any_eq_true, decide_eq_true_eq]
  exact ⟨fun ⟨b, hb, e⟩ => by rw [← eq_of_beq e]; exact hb, fun h => ⟨a, h, beq_self_eq_true a⟩⟩
theorem gIn_tup {hp : Hd} {a : List Int} {cs : List (List Int)} : gIn (T a) (.tup (cs.map T)) hp = some (.bl (decide (a ∈ cs)), hp) := by
  unfold gIn
  rw [inB_tup]
theorem prs_Cd : ∀ cs : List (List Int), prs? (cs.map fun c => D.tup [T c, .bl true]) = some (Cd cs)
  | [] => rfl
  | c :: cs => by
    rw [List.map_cons, prs?, prs_Cd cs]
    rfl
theorem putAll_Cd : ∀ (cs acc : List (List Int)), cs.Nodup → (∀ c ∈ cs, c ∉ acc) → putAll (Cd acc) (Cd cs) = Cd (acc ++ cs)
  | [], acc, _, _ => by
    rw [List.append_nil]
    rfl
  | c :: cs, acc, nd, h => by
    rw [List.nodup_cons] at nd
    show putAll (putD (Cd acc) (T c) (.bl true)) (Cd cs) = _
    rw [putD_Cd]
    unfold addC
    rw [if_neg (h c List.mem_cons_self), putAll_Cd cs _ nd.2, List.append_assoc]
    · rfl
    · intro x hx z
      rcases List.mem_append.mp z with z | z
      · exact h x (List.mem_cons_of_mem _ hx) z
      · have : x = c := by simpa using z
        subst this
        exact nd.1 hx
theorem gDictL_Cd {hp : Hd} {cs : List (List Int)} (nd : cs.Nodup) : gDictL (cs.map fun c => D.tup [T c, .bl true]) hp = some (.ref hp.length, hp ++ [.dic (Cd cs)]) := by
  unfold gDictL
  rw [prs_Cd]
  dsimp only
  have hk : ((Cd cs).all fun p => tupKey p.1) = true := by
    unfold Cd
    rw [List.all_map, List.all_eq_true]
    intro c _
    show (toKeys (c.map D.int)).isSome = true
    rw [toKeys_ints]
    rfl
  rw [hk, Bool.or_true, if_pos rfl]
  have := putAll_Cd cs [] nd (fun _ _ h => nomatch h)
  rw [List.nil_append] at this
  show some (D.ref hp.length, hp ++ [O.dic (putAll (Cd []) (Cd cs))]) = _
  rw [this]
theorem encD_T {hp : Hd} (a : List Int) : encD hp (T a) = .tuple (a.map PyData.int) := by
  unfold encD
  rw [pyF_T (n := 13)]
  rfl
theorem dataLe_T {hp : Hd} (a b : List Int) : PySem.W.dataLe false (encD hp) (T a) (T b) = decide (a ≤ b) := by
  have h := congrFun (congrFun (PySem.W.dataLe_rows (fun x : List Int => x)) a) b
  rw [← h]
  rw [PySem.W.dataLe_eq, PySem.W.dataLe_eq]
  show (!PySem.W.dataLt (encD hp (T b)) (encD hp (T a))) = (!PySem.W.dataLt (.list (b.map PyData.int)) (.list (a.map PyData.int)))
  rw [encD_T, encD_T, PySem.W.dataLt_tuple, PySem.W.dataLt_list]
def sortC (cs : List (List Int)) : List (List Int) := cs.mergeSort fun a b => decide (a ≤ b)
theorem srt_T {hp : Hd} (cs : List (List Int)) : srt hp (cs.map T) = (sortC cs).map T := by
  unfold srt sortC
  rw [List.map_mergeSort]
  intro a _ b _
  exact (dataLe_T a b).symm
theorem sortC_perm (cs : List (List Int)) : (sortC cs).Perm cs := List.mergeSort_perm _ _
theorem sortC_sorted (cs : List (List Int)) : (sortC cs).Pairwise (· ≤ ·) := by
  have := List.pairwise_mergeSort (le := fun a b : List Int => decide (a ≤ b)) (fun a b c h1 h2 => by
    simp only [decide_eq_true_eq] at *
    exact List.le_trans h1 h2) (fun a b => by
    simp only [Bool.or_eq_true, decide_eq_true_eq]
    exact List.le_total a b) cs
  exact this.imp fun h => of_decide_eq_true h
theorem sortC_self {cs : List (List Int)} (h : cs.Pairwise (· ≤ ·)) : sortC cs = cs := List.mergeSort_of_pairwise (h.imp fun h => decide_eq_true h)
theorem srtOk_T {hp : Hd} {cs : List (List Int)} (h : ∀ c ∈ cs, c ≠ []) : srtOk hp (cs.map T) = true := by
  unfold srtOk
  rw [Bool.and_eq_true, Bool.and_eq_true, Bool.and_eq_true]
  refine ⟨?_, ?_, ?_, ?_⟩ <;> try rw [List.all_map, List.all_eq_true]
  · intro c _
    show (pyF hp 15 (T c)).isSome = true
    rw [pyF_T (n := 13)]
    rfl
  · intro c _
    show ((cs.map T).all fun b => PySem.W.alike (encD hp (T c)) (encD hp b)) = true
    rw [List.all_map, List.all_eq_true]
    intro b _
    show PySem.W.alike (encD hp (T c)) (encD hp (T b)) = true
    rw [encD_T, encD_T, PySem.W.alike, PySem.W.alike_ints]
  · rw [Bool.or_eq_true]
    refine .inl ?_
    rw [List.all_map, List.all_eq_true]
    intro c hc
    show isTupC (encD hp (T c)) = true
    rw [encD_T]
    cases c with
    | nil => exact absurd rfl (h _ hc)
    | cons x r => rfl
  · intro c _
    show decide ((encD hp (T c)).depth ≤ 40) = true
    rw [encD_T, PyData.depth, depInts]
    rfl
theorem gSrt_T {hp : Hd} {cs : List (List Int)} (h : ∀ c ∈ cs, c ≠ []) : gSrt (cs.map T) hp = some ((sortC cs).map T, hp) := by
  unfold gSrt
  rw [if_pos (srtOk_T h), srt_T]
theorem gSrtO_lst {hp : Hd} {n : Nat} {cs : List (List Int)} (e : hp[n]? = some (.lst (cs.map T))) (h : ∀ c ∈ cs, c ≠ []) : gSrtO (.ref n) hp = some ((sortC cs).map T, hp) := by
  have e1 : seqOfL (.ref n) hp = some (cs.map T) := by
    show (match hp[n]? with
      | some (.lst xs) => some xs
      | _ => none) = _
    rw [e]
  unfold gSrtO
  rw [e1]
  exact gSrt_T h
theorem gSrtO_dic {hp : Hd} {n : Nat} {cs : List (List Int)} (e : hp[n]? = some (.dic (Cd cs))) (h : ∀ c ∈ cs, c ≠ []) : gSrtO (.ref n) hp = some ((sortC cs).map T, hp) := by
  have e1 : seqOfL (.ref n) hp = none := by
    show (match hp[n]? with
      | some (.lst xs) => some xs
      | _ => none) = _
    rw [e]
  have e2 : keysOf (.ref n) hp = some (cs.map T) := by
    show (match hp[n]? with
      | some (.dic kvs) => some (kvs.map fun p : D × D => p.1)
      | _ => none) = _
    rw [e]
    show some (List.map (fun p : D × D => p.1) (Cd cs)) = _
    unfold Cd
    rw [List.map_map]
    rfl
  unfold gSrtO
  rw [e1]
  dsimp only
  rw [e2]
  exact gSrt_T h
theorem cV_of {m : List D → Hd → Option (D × Hd)} {ds : List D} {hp g : Hd} {d : D} (hn : nrs ds = true) (e : m ds [] = some (d, g)) (hd : nr d = true) : cV m ds hp = some (d, hp) := by
  unfold cV
  rw [if_pos hn, e]
  dsimp only
  rw [if_pos hd]
theorem cN_of {m : List D → Hd → Option (D × Hd)} {ds : List D} {hp g : Hd} {k : Nat} {o : O} (hn : nrs ds = true) (e : m ds [] = some (.ref k, g)) (eo : g[k]? = some o) (ho : nrO o = true) : cN m ds hp = some (.ref hp.length, hp ++ [o]) := by
  unfold cN
  rw [if_pos hn, e]
  dsimp only
  rw [eo]
  dsimp only
  rw [if_pos ho]
theorem nr_tup {ds : List D} (h : nrs ds = true) : nr (.tup ds) = true := h
theorem nr_tTs (bs : List (List Int)) : nr (.tup (bs.map T)) = true := nrs_T bs
theorem nrs_cons {d : D} {ds : List D} (h1 : nr d = true) (h2 : nrs ds = true) : nrs (d :: ds) = true := by
  show D.alls _ (d :: ds) = true
  rw [D.alls, show D.all (fun _ => false) d = true from h1, show D.alls (fun _ => false) ds = true from h2]
  rfl
theorem nrO_Cd (cs : List (List Int)) : nrO (.dic (Cd cs)) = true := by
  show kvAll _ (Cd cs) = true
  induction cs with
  | nil => rfl
  | cons c r ih =>
    show kvAll _ ((T c, D.bl true) :: Cd r) = true
    rw [kvAll, ih, show D.all (fun _ => false) (T c) = true from nr_T c]
    rfl
theorem call1_of {fa : AE} {g : List D → Hd → Option (D × Hd)} {ls : Ls} {hp hp1 : Hd} {a : D} (e : fa ls hp = some (a, hp1)) : mAs (mCons fa mNil) (ar 1 g) ls hp = g [a] hp1 := by
  rw [mAs_s, mCons_s, e]
  rfl
theorem call2_of {fa fb : AE} {g : List D → Hd → Option (D × Hd)} {ls : Ls} {hp hp1 hp2 : Hd} {a b : D} (e : fa ls hp = some (a, hp1)) (e2 : fb ls hp1 = some (b, hp2)) : mAs (mCons fa (mCons fb mNil)) (ar 2 g) ls hp = g [a, b] hp2 := by
  rw [mAs_s, mCons_s, e]
  dsimp only
  rw [mCons_s, e2]
  rfl
end Ve
namespace Ve
open PySem PySem.Spec L2 PySem.AutoSeq1
end Ve
namespace Ve
open PySem PySem.Spec L2
def gTupV : List D → Hd → Option (D × Hd)
  | [.tup ds], hp => some (.tup ds, hp)
  | [.wt ds], hp => some (.wt ds, hp)
  | [d], hp => match seqOfL d hp with
    | some ds => some (.tup ds, hp)
    | none => none
  | _, _ => none
section
variable {X : Cx}
theorem c_tuple : CallR X (.type "tuple") (RDs X.K gTupV) := fun pins s σ H xs us Q I r ⟨hp, μ, ds, d, hp', rh, rs, e, q⟩ => by
  unfold gTupV at e
  split at e
  · cases e
    obtain ⟨v, rfl, r1⟩ := rs.one
    obtain ⟨a, vs, rfl, t, r2⟩ := r1.tupE
    exact call_tuple_of pins s σ H _ us Q I r ⟨a, vs, rfl, .inr ⟨t.sq, q _ H μ Ext.refl rh (Rp.tup' t r2)⟩⟩
  · cases e
    obtain ⟨v, rfl, r1⟩ := rs.one
    have r1' := r1
    obtain ⟨a, vs, rfl, t, r2⟩ := r1.wtE
    exact call_tuple_of pins s σ H _ us Q I r ⟨a, vs, rfl, .inr ⟨t.sq, q _ H μ Ext.refl rh r1'⟩⟩
  · split at e
    · rename_i ds' e1
      cases e
      obtain ⟨v, rfl, r1⟩ := rs.one
      obtain ⟨a, vs, rfl, hq, r2⟩ := seqOfL_some rh r1 e1
      refine call_tuple_of pins s σ H _ us Q I r ⟨a, vs, rfl, .inl ⟨hq, fun l h0 => ?_⟩⟩
      have x2 := Ext.laid rh (o := .tup vs) h0
      exact q _ _ μ x2 (rh.laid h0) (Rp.tup upd_same (r2.ext x2))
    · cases e
  · cases e
end
end Ve
namespace Ve
open PySem PySem.Spec L2
def gListO (d : D) (hp : Hd) : Option (List D × Hd) := match tupOf d with
  | some ds => some (ds, hp)
  | none => match seqOfL d hp with
    | some ds => some (ds, hp)
    | none => match keysOf d hp with
      | some ds => some (ds, hp)
      | none => none
theorem RpT.refs {K : PySem.W.Frag} {H : Hp} {μ : List Addr} : ∀ {kvs : List (D × D)} {vs : List (List Key × V)} {bs : List Addr}, RpT K H μ kvs vs → IsKeys H vs bs → Rps K H μ (kvs.map (·.1)) (bs.map V.ref)
  | [], _, bs, h, ik => by
    rw [RpT] at h
    subst h
    cases ik
    exact Rps.nil
  | p :: r, _, bs, h, ik => by
    rw [RpT] at h
    obtain ⟨ks, k, v, r', e0, rfl, h0, h1, h2⟩ := h
    cases ik with
    | cons hd tl =>
      rw [List.map_cons, List.map_cons]
      refine Rps.mk ?_ (RpT.refs h2 tl)
      rw [e0]
      exact Rp.tup hd (Rps.ofKeys h0)
theorem RpK.refs {K : PySem.W.Frag} {H : Hp} {μ : List Addr} : ∀ {kvs : List (D × D)} {vs : List (Key × V)}, RpK K H μ kvs vs → Rps K H μ (kvs.map (·.1)) (vs.map fun kv => kV kv.1)
  | [], _, h => by
    rw [RpK] at h
    subst h
    exact Rps.nil
  | p :: r, _, h => by
    rw [RpK] at h
    obtain ⟨k, v, r', rfl, h0, h1, h2⟩ := h
    rw [List.map_cons, List.map_cons]
    exact Rps.mk (Rp.ofKey h0) (RpK.refs h2)
section
variable {X : Cx} {e a b : Expr} {fa fb : AE} {fr : AA} {pos p2 : Pos}
theorem c_list (hc : X.calm = true) : CallR X (.type "list") (RDL X.K gListO) := fun pins s σ H xs us Q I r ⟨hp, μ, d, v, ds', hp', rh, ex, rd, e, q⟩ => by
  unfold gListO at e
  split at e
  · rename_i ds e1
    cases e
    subst ex
    obtain ⟨a, vs, rfl, ta, ra⟩ := tupOf_some e1 rd
    have qa : SqT X.K H a vs := ta.elim (fun t => t.sq) fun t => t.sq
    refine call_list_of pins s σ H _ us Q I r ⟨a, vs, rfl, .inr qa, fun l h0 => ?_⟩
    have x := Ext.laid rh (o := .lst vs) h0
    exact q l vs _ μ x (rh.laid h0) h0 (rh.notIn h0) upd_same (ra.ext x)
  · split at e
    · rename_i ds e1
      cases e
      subst ex
      obtain ⟨a, vs, rfl, hq, rs⟩ := seqOfL_some rh rd e1
      refine call_list_of pins s σ H _ us Q I r ⟨a, vs, rfl, .inl hq, fun l h0 => ?_⟩
      have x := Ext.laid rh (o := .lst vs) h0
      exact q l vs _ μ x (rh.laid h0) h0 (rh.notIn h0) upd_same (rs.ext x)
    · split at e
      · rename_i ds e1
        cases e
        subst ex
        obtain ⟨n, kvs, rfl, eh, rfl⟩ := keysOf_some e1
        obtain ⟨a, ea, rfl⟩ := rd.refE
        obtain ⟨nd, ⟨vs, ev, rk⟩ | ⟨vs, ev, rk⟩⟩ := rh.dic ea eh
        · refine call_list_dK hc pins s σ H _ us Q I r ⟨a, vs, rfl, ev, fun l h0 => ?_⟩
          have x := Ext.laid rh (o := .lst (vs.map fun kv => kV kv.1)) h0
          exact q l _ _ μ x (rh.laid h0) h0 (rh.notIn h0) upd_same (rk.refs.ext x)
        · refine call_list_dT hc pins s σ H _ us Q I r ⟨a, vs, rfl, .inl ev, fun l bs h0 ik => ?_⟩
          have x := Ext.laid rh (o := .lst (bs.map V.ref)) h0
          exact q l _ _ μ x (rh.laid h0) h0 (rh.notIn h0) upd_same ((rk.refs ik).ext x)
      · cases e
def mList (fa : AE) : AA := fun ls hp => match fa ls hp with
  | some (d, hp1) => gListO d hp1
  | none => none
theorem le_list {x : Str} {p : Pos} (hc : X.calm = true) (hg : Gl X x) (hm : X.mg x = none) (hv : bootBuiltins x = some (.type "list")) (ha : DE X e fa) (hn : x ≠ "__name__" := by decide)
    (hdb : (x == ("__debug__" : Str)) = false := by decide) (he : starEach [e] X.env = (false, eval e X.env) :: starEach [] X.env := by rfl) : LE X (.Call (.Name x p) [e] [] pos) (mList fa) :=
  PE.imp (pe_callTy (c_list hc) hg hm hv (pa_cons ha pa_nil he) hn hdb he rfl) fun σ H Q ⟨ls, hp, μ, ds, hp', rl, rh, e, q⟩ => by
    unfold mList at e
    split at e
    · rename_i d hp1 e1
      exact ⟨ls, hp, μ, d, hp1, rl, rh, e1, fun v H1 μ1 x1 rh1 r1 => ⟨hp1, μ1, d, v, ds, hp', rh1, rfl, r1, e, fun a ws H2 μ2 x2 rh2 h2 n2 l2 r2 =>
        q a ws H2 μ2 (x1.trans x2) rh2 (x1.back rh1 h2) n2 l2 r2⟩⟩
    · cases e
end
end Ve
namespace Ve
open PySem PySem.Spec L2
abbrev TgM := D → Ls → Hd → Option (Ls × Hd)
def tNm (i : Nat) : TgM := fun d ls hp => some (ls.set i (some d), hp)
def tSub (fo fi : AE) : TgM := fun d ls hp => match fo ls hp with
  | some (x, hp1) => match fi ls hp1 with
    | some (y, hp2) => match gSet x y d hp2 with
      | some hp3 => some (ls, hp3)
      | none => none
    | none => none
  | none => none
def tTps : List TgM → List D → Ls → Hd → Option (Ls × Hd)
  | [], [], ls, hp => some (ls, hp)
  | t :: ts, d :: ds, ls, hp => match t d ls hp with
    | some (ls1, hp1) => tTps ts ds ls1 hp1
    | none => none
  | _, _, _, _ => none
def tTp (ts : List TgM) : TgM := fun d ls hp => match tupOf d with
  | some ds => tTps ts ds ls hp
  | none => none
section
variable {X : Cx} {e a b : Expr} {es : List Expr} {fa fb fo fi : AE} {fr : AA} {pos p2 : Pos} {t : TgM} {ts : List TgM}
def sAsgM (t : TgM) (f : AE) : AS := fun ls hp => match f ls hp with
  | some (d, hp1) => match t d ls hp1 with
    | some (ls1, hp2) => some (.nx, ls1, hp2)
    | none => none
  | none => none
end
def notNon : PyData → Bool
  | .none => false
  | _ => true
theorem notNon_ne {p : PyData} (h : notNon p = true) : p ≠ .none := fun e => by subst e; cases h
end Ve
open PySem in
theorem Ve.meets_enumerate_newT (l : Addr) (items : Array Value) (n : Nat) (dct : Option Addr) (sl : Array (Option Value)) :
    Meets (Builtin.«enumerate.__new__» ⟨[.type "enumerate", .ref l], []⟩) (fun _ R s => s.heap.get? l = some { cls := .type "tuple", dict := dct, data := .seq items n, slots := sl } ∧
      R (.ok (.ret (.ref (s.heap.push { cls := .type "tuple_iterator", data := .fields #[.ref l, .int 0 0] }).objs.size)))
        { s with heap := (s.heap.push { cls := .type "tuple_iterator", data := .fields #[.ref l, .int 0 0] }).push { cls := .type "enumerate", data := .fields #[.none, .bool false, .ref s.heap.objs.size, rawInt 0, .none, .none] } }) :=
  .of_wp fun prog w A R s h => by
    obtain ⟨hp, g, d, tk, os⟩ := s; obtain ⟨hl, h⟩ := h
    have hsub := sub_enumerate
    have hL : Heap.IsTuple (Shared.heap ⟨hp, g, d, tk, os⟩) l items := ⟨_, hl, rfl, n, rfl⟩
    wp_walk using AutoSeq1.wpAny_loadPart' hl
    refine wpAny_stack_any fun st => wpAny_pure ?_
    split
    · rename_i c _ _ _ _ _
      cases (c == Value.type "enumerate")
      · wp_walk using AutoSeq1.wpAny_loadPart' hl, wpAny_pyIter_tuple hL
        exact ⟨_, rfl, h⟩
      · wp_walk using AutoSeq1.wpAny_loadPart' hl, wpAny_pyIter_tuple hL
        exact ⟨_, rfl, h⟩
    · wp_walk using AutoSeq1.wpAny_loadPart' hl, wpAny_pyIter_tuple hL
      exact ⟨_, rfl, h⟩
open PySem in
theorem Ve.call_enumerate_tuple {prog : Program} {w : World} {A : Around} {E : Value → Shared → Prop} {s : Shared} {l : Addr} {items : Array Value} {Q : Value → Shared → Prop} (hL : s.heap.IsTuple l items)
    (h : ∀ h', IsEnum h' (s.heap.objs.size + 1) s.heap.objs.size 0 .none → h'.IsTupleIter s.heap.objs.size l 0 → h'.objs.size = s.heap.objs.size + 2 →
      (∀ b o, s.heap.get? b = some o → h'.get? b = some o) → Q (.ref (s.heap.objs.size + 1)) { s with heap := h' }) :
    wpAny (model prog w) A (call (.type "enumerate") [.ref l]) Q E s := by
  obtain ⟨⟨c, dct, dt, sl⟩, hl, hc, n, hd⟩ := hL
  replace hc : c = .type "tuple" := hc
  replace hd : dt = .seq items n := hd
  subst hc hd
  refine callType_new F.called_enumerate (by decide) (F.typeCall_enumerate_1 _) (F.newCall_enumerate_1 _) (fun obj => F.args_object_init_2 obj _) F.entry_enumerate_new
    (Ve.meets_enumerate_newT l items n dct sl) ⟨hl, ?_⟩
  have hz : (s.heap.push { cls := .type "tuple_iterator", data := .fields #[.ref l, .int 0 0] }).objs.size = s.heap.objs.size + 1 := Heap.size_push ..
  show _ ∧ _
  rw [hz]
  have he : IsEnum ((s.heap.push { cls := .type "tuple_iterator", data := .fields #[.ref l, .int 0 0] }).push { cls := .type "enumerate", data := .fields #[.none, .bool false, .ref s.heap.objs.size, rawInt 0, .none, .none] }) (s.heap.objs.size + 1) s.heap.objs.size 0 .none := by
    have := Heap.get?_push_size (s.heap.push { cls := .type "tuple_iterator", data := .fields #[.ref l, .int 0 0] }) (o := { cls := .type "enumerate", data := .fields #[.none, .bool false, .ref s.heap.objs.size, rawInt 0, .none, .none] }) rfl
    rw [hz] at this
    exact this
  exact ⟨⟨_, he, rfl⟩, h _ he ⟨_, Heap.get?_push_of_some _ (Heap.get?_push_size _ rfl), rfl, rfl⟩ (by rw [Heap.size_push, hz]) fun b o x => Heap.get?_push_of_some _ (Heap.get?_push_of_some _ x)⟩
open PySem in
theorem Ve.enum_endT {prog : Program} {w : World} {A : Around} {E : Value → Shared → Prop} {s : Shared} {e it t : Addr} {items : Array Value} {j : Nat} {i : Int} {old : Value} {Q : Option Value → Shared → Prop} (hh : A.handled = none) (he : IsEnum s.heap e it i old) (hit : s.heap.IsTupleIter it t j) (ht : s.heap.IsTuple t items) (hj : items.size ≤ j)
    (hQ : ∀ h', Heap.ExtBut it s.heap h' → Q none { s with heap := h' }) : wpAny (model prog w) A (pyNext (.ref e)) Q E s := by
  have hT : s.TypeIs (.ref e) "enumerate" := ⟨_, he, rfl⟩
  unfold pyNext
  refine wpAny_bind (wpAny_attempt (wpAny_callSpecial?_slot (name := Str.ofString "__next__") hT F.slot_enumerate_next
    (wpAny_call_entry F.slot_enumerate_next hT F.entry_enumerate_next ?_ (F.args_enumerate_next_1 _))))
  show wpAny _ _ (field (.ref e) 2 >>= _) _ _ _
  refine wpAny_bind (wpAny_field he rfl (x := .ref it) rfl ?_)
  refine wpAny_bind (wpAny_nextOf_tuple_end (A := A.in1) hh hit ht (by simpa using hj) fun h' x he' hx' => ?_)
  obtain ⟨o, ho, hc⟩ := hx'
  refine wpAny_bind (wpAny_isInstance (T := "StopIteration") (b := true) ⟨o, ho, hc⟩ isSubtype_stop ?_)
  exact wpAny_pure (hQ _ he')
namespace Ve
open PySem PySem.Spec L2
def IteT (K : PySem.W.Frag) (a : Addr) : It :=
  ⟨fun i H => ∃ (xs : List V) (x : V), SqT K H a xs ∧ xs[i]? = some x, fun i H v H' => ∃ T x, v = .ref T ∧ H T = none ∧ H' = upd H T (.tup [.int (i : Nat), x]) ∧ ∀ xs, SqT K H a xs → xs[i]? = some x, fun i H => ∃ xs : List V, SqT K H a xs ∧ xs.length ≤ i⟩
theorem turn_enumT {P : Program} {w : World} {K : PySem.W.Frag} {elts : List Expr} {kk : Nat} {tpos : Pos} (a e it : Addr) (hat : a ≠ it) (hae : a ≠ e) :
    Turn P w K (.Tuple elts kk tpos) (IteT K a) [e, it] e (fun i h => (∃ old, IsEnum h e it ((i : Nat) : Int) old) ∧ h.IsTupleIter it a i ∧ e ≠ it) where
  mem := by simp
  obj := fun i h st b hb => by
    obtain ⟨⟨old, he⟩, ⟨o, ho, hc, hd⟩, _⟩ := st
    have e' : b = e ∨ b = it := by simpa using hb
    rcases e' with z | z
    · rw [z]; exact ⟨_, he, fun v q => nomatch q⟩
    · rw [z]; exact ⟨o, ho, fun v q => by rw [hd] at q; cases q⟩
  keep := fun i h h' st k => let ⟨⟨old, he⟩, hi, hne⟩ := st; ⟨⟨old, k e (by simp) _ he⟩, hi.at fun o q => k it (by simp) o q, hne⟩
  item := by
    intro X hP hw hK hc i pins s σ H E I hf st hg
    subst hP hw hK
    obtain ⟨⟨old, he⟩, hit, hne⟩ := st
    obtain ⟨xs, x, hq, hx⟩ := hg
    obtain ⟨its, rv, p, hz⟩ := I.tuple hq
    obtain ⟨u, hu, ru⟩ := rv.get hx
    have hel : e < s.heap.objs.size := Heap.lt_size he
    have hil : it < s.heap.objs.size := by obtain ⟨_, q, _⟩ := hit; exact Heap.lt_size q
    have hlt : i < its.toArray.size := by simpa using (List.getElem?_eq_some_iff.mp hu).1
    refine wpAny_pyNext_enum_itemD (Draws.tuple (prog := X.prog) (w := X.w) (A := X.A.in1) (I.ok.hd hc) it a hat its.toArray) he ⟨hit, p⟩ hlt hne (by simp; exact ⟨hne, Ne.symm hae⟩) fun x' h' tk hpx ho hit' hT hsz hk => ?_
    have hx' : x' = u := by
      have : its[i]? = some x' := by simpa using hpx
      rw [hu] at this
      exact (Option.some.inj this).symm
    subst hx'
    refine ⟨_, rfl, wpAny_letOwnedTupleGo_enum (s := { s with heap := h', toks := tk + 1 }) ho fun h'' he' sb => ?_⟩
    have hT2 : h''.get? s.heap.objs.size = some { cls := .type "tuple", data := .seq #[.int i tk, x'] } := (sb.2 _ (Nat.ne_of_gt hel)).trans hT
    have new : ObjOk X.prog X.w (upd H s.heap.objs.size (.tup [.int (i : Nat), x])) h'' s.heap.objs.size (.tup [.int (i : Nat), x]) :=
      ⟨by show 2 ≤ sizeLine; decide, [.int i tk, x'], .cons ⟨_, rfl⟩ (.cons ru .nil), ⟨_, hT2, rfl, _, rfl⟩⟩
    have I1 : Inv X pins σ (upd H s.heap.objs.size (.tup [.int (i : Nat), x])) { s with heap := h'', toks := tk + 1 } :=
      I.turnedNew (ch := [e, it]) (fun b ob hb q => (sb.2 b (fun z => hb (by simp [z]))).trans (hk b ob (fun z => hb (by simp [z])) (fun z => hb (by simp [z])) q)) hf (Nat.le_refl _) new
    refine ⟨.ref s.heap.objs.size, _, I1, rfl, ⟨_, x, rfl, I.hok.fresh (Nat.le_refl _), rfl, fun ys hy => by rw [I.tuple_inj hy hq]; exact hx⟩, ⟨⟨x', ?_⟩, hit'.1.at fun o q => (sb.2 it (Ne.symm hne)).trans q, hne⟩, fun b hb => ?_⟩
    · have e1 : ((i + 1 : Nat) : Int) = (i : Int) + 1 := by omega
      rw [e1]; exact he'
    · have hb' : b < s.heap.objs.size := by
        have e' : b = e ∨ b = it := by simpa using hb
        rcases e' with z | z
        · rw [z]; exact hel
        · rw [z]; exact hil
      rw [upd_ne (Nat.ne_of_lt hb')]
      exact (hf b hb).1
  done := by
    intro X hP hw hK hc i pins s σ H E I hf st hg
    subst hP hw hK
    obtain ⟨⟨old, he⟩, hit, hne⟩ := st
    obtain ⟨xs, hq, hx⟩ := hg
    obtain ⟨its, rv, p, hz⟩ := I.tuple hq
    obtain ⟨f0, f1, f2, f3, f4, f5⟩ := hf it (by simp)
    have hl := rv.length
    exact Ve.enum_endT (I.ok.hd hc) he hit p (by simp; omega) fun h' eb => ⟨rfl, I.turned (t' := s.toks) (fun b o hb q => eb b o hb q) f0 f1 f3 f4 f5⟩
  self := fun A i s Q E st h => let ⟨⟨_, he⟩, _⟩ := st; wpAny_pyIter_enum he h
def iEnumT (K : PySem.W.Frag) (ta : TA) : TI := fun σ H R => ta σ H fun vs H1 => ∃ a xs, vs = [.ref a] ∧ SqT K H1 a xs ∧ R (IteT K a) H1
open PyProof.Rows in
theorem pi_enumT {X : Cx} {e : Expr} {ta : TA} {p pos tpos : Pos} {elts : List Expr} {kk : Nat} (hg : Gl X "enumerate") (hm : X.mg "enumerate" = none) (ha : PA X [e] ta) (hs : starEach [e] X.env = [(false, eval e X.env)] := by rfl) :
    PI X (.Tuple elts kk tpos) (.Call (.Name "enumerate" p) [e] [] pos) (iEnumT X.K ta) := by
  refine ⟨fun pins s σ H R I h => ?_⟩
  refine PyProof.Rows.Call_ (ld_blt I hg hm boot_enumerate (PyProof.Rows.callWith_type1 (thn (ha.run pos pins s σ H _ I h) fun us s1 ⟨vs, H1, I1, r1, q1⟩ => ?_) hs rfl))
  obtain ⟨a, xs, ex, hq, q⟩ := q1
  subst ex
  cases r1 with
  | cons r rr =>
    cases rr
    cases r
    obtain ⟨its, rv, p', hz⟩ := I1.tuple hq
    have hal : a < s1.heap.objs.size := by obtain ⟨_, q, _⟩ := p'; exact Heap.lt_size q
    refine Ve.call_enumerate_tuple p' fun h' he hit hsz hk => wpAny_pyIter_enum he ?_
    have I2 : Inv X pins σ H1 { s1 with heap := h' } := I1.kept (t' := s1.toks) hk
    refine ⟨s1.heap.objs.size + 1, [s1.heap.objs.size + 1, s1.heap.objs.size], _, _, H1, rfl, I2, turn_enumT a (s1.heap.objs.size + 1) s1.heap.objs.size (Nat.ne_of_lt hal) (Nat.ne_of_lt (Nat.lt_succ_of_lt hal)), ⟨⟨.none, he⟩, hit, Nat.succ_ne_self _⟩, fun b hb => ?_, q⟩
    have e' : b = s1.heap.objs.size + 1 ∨ b = s1.heap.objs.size := by simpa using hb
    have hle : s1.heap.objs.size ≤ b := by
      rcases e' with z | z
      · rw [z]; exact Nat.le_add_right _ _
      · rw [z]; exact Nat.le_refl _
    exact I1.fpOk hle (I1.hok.fresh hle)
def enumD (xs : List D) : List D := xs.zipIdx.map fun p => D.tup [.int (p.2 : Nat), p.1]
theorem enumD_length (xs : List D) : (enumD xs).length = xs.length := by simp [enumD]
theorem enumD_at {xs : List D} {i : Nat} {x : D} (h : xs[i]? = some x) : (enumD xs)[i]? = some (.tup [.int (i : Nat), x]) := by
  simp [enumD, h]
def mEnum (f : AE) : AI := fun ls hp => match f ls hp with
  | some (d, hp1) => match tupOf d with
    | some ds => some (enumD ds, [], hp1)
    | none => match d with
      | .ref n => match hp1[n]? with
        | some (.lst xs) => some (enumD xs, [(n, xs)], hp1)
        | _ => none
      | _ => none
  | none => none
section
variable {X : Cx} {e : Expr} {fa : AE} {elts : List Expr} {kk : Nat} {pos tpos : Pos}
theorem di_enum {p : Pos} (hg : Gl X "enumerate") (hm : X.mg "enumerate" = none) (ha : DE X e fa)
    (hs0 : starEach [e] X.env = (false, eval e X.env) :: starEach [] X.env := by rfl) (hs : starEach [e] X.env = [(false, eval e X.env)] := by rfl) :
    DI X (.Tuple elts kk tpos) (.Call (.Name "enumerate" p) [e] [] pos) (mEnum fa) :=
  PI.imp (PI.or (pi_enum hg hm (pa_cons ha pa_nil hs0) hs) (pi_enumT hg hm (pa_cons ha pa_nil hs0) hs)) fun σ H R ⟨ls, hp, μ, items, gd, hp', rl, rh, e, q⟩ => by
    unfold mEnum at e
    split at e
    · rename_i d hp1 e1
      split at e
      · rename_i ds e2
        cases e
        refine .inr ⟨ls, hp, μ, d, hp', rl, rh, e1, fun v H1 μ1 x1 rh1 r1 => ?_⟩
        obtain ⟨a, vs, rfl, ta, ra⟩ := tupOf_some e2 r1
        have qa : ∀ {H3 : Hp} {μ3 : List Addr}, Ext μ1 H1 μ3 H3 → SqT X.K H3 a vs := fun x3 => ta.elim (fun t => (t.ext x3).sq) fun t => (t.mon x3.m).sq
        refine ⟨a, vs, rfl, qa Ext.refl, q _ H1 μ1 x1 rh1 ?_⟩
        intro i H2 μ2 hp2 x2 rh2 _
        have h2 := qa x2
        have hlen := ra.len
        rw [enumD_length]
        refine ⟨fun hi => ⟨vs, h2, by omega⟩, fun hi => ?_⟩
        obtain ⟨v, ev, rv⟩ := ra.get (List.getElem?_eq_getElem hi)
        refine ⟨⟨vs, v, h2, ev⟩, fun x H3 hy => ?_⟩
        obtain ⟨T, x0, rfl, hT, rfl, hx⟩ := hy
        have := hx vs h2
        rw [ev] at this
        cases this
        have x4 := Ext.laid rh2 (o := .tup [.int (i : Nat), v]) hT
        exact ⟨_, enumD_at (List.getElem?_eq_getElem hi), x4, rh2.laid hT, Rp.tup upd_same (Rps.mk Rp.int (Rps.mk ((rv.ext x2).ext x4) Rps.nil))⟩
      · split at e
        · rename_i n
          split at e
          · rename_i xs e3
            cases e
            refine .inl ⟨ls, hp, μ, _, hp', rl, rh, e1, fun v H1 μ1 x1 rh1 r1 => ?_⟩
            obtain ⟨a, ea, rfl⟩ := r1.refE
            obtain ⟨vs, ev, ra⟩ := rh1.lst ea e3
            refine ⟨a, vs, rfl, .inl (.inl ev), q _ H1 μ1 x1 rh1 ?_⟩
            intro i H2 μ2 hp2 x2 rh2 hgd
            obtain ⟨vs, ev, ra⟩ := rh2.lst (x2.m.at_ ea) (gdOk_one hgd)
            have h2 : SqL X.K H2 a vs := .inl (.inl ev)
            have hlen := ra.len
            rw [enumD_length]
            refine ⟨fun hi => ⟨vs, h2, by omega⟩, fun hi => ?_⟩
            obtain ⟨v, ev', rv⟩ := ra.get (List.getElem?_eq_getElem hi)
            refine ⟨⟨vs, v, h2, ev'⟩, fun x H3 hy => ?_⟩
            obtain ⟨T, x0, rfl, hT, rfl, hx⟩ := hy
            have := hx vs h2
            rw [ev'] at this
            cases this
            have x4 := Ext.laid rh2 (o := .tup [.int (i : Nat), v]) hT
            exact ⟨_, enumD_at (List.getElem?_eq_getElem hi), x4, rh2.laid hT, Rp.tup upd_same (Rps.mk Rp.int (Rps.mk (rv.ext x4) Rps.nil))⟩
          · cases e
        · cases e
    · cases e
end
end Ve
namespace Ve
open PySem PySem.Spec L2
mutual
def plainD : D → Bool
  | .non => true
  | .bl _ => true
  | .int _ => true
  | .str _ => true
  | .tup ds => plainDs ds
  | _ => false
def plainDs : List D → Bool
  | [] => true
  | d :: ds => plainD d && plainDs ds
end
mutual
def decD : PyData → Option D
  | .none => some .non
  | .bool b => some (.bl b)
  | .int i => some (.int i)
  | .str x => some (.str x)
  | .tuple xs => (decDs xs).map .tup
  | _ => none
def decDs : List PyData → Option (List D)
  | [] => some []
  | x :: xs => match decD x, decDs xs with
    | some d, some ds => some (d :: ds)
    | _, _ => none
end
theorem dec_mapO {hp : Hd} {n : Nat} (ih : ∀ d p, plainD d = true → pyF hp n d = some p → decD p = some d) : ∀ (ds : List D) (ps : List PyData), plainDs ds = true → mapO (pyF hp n) ds = some ps → decDs ps = some ds
  | [], ps, _, e => by
    rw [mapO] at e
    cases e
    rw [decDs]
  | d :: ds, ps, h, e => by
    rw [plainDs, Bool.and_eq_true] at h
    rw [mapO] at e
    split at e
    · rename_i y ys e1 e2
      cases e
      rw [decDs, ih d y h.1 e1, dec_mapO ih ds ys h.2 e2]
    · cases e
theorem dec_enc {hp : Hd} : ∀ (n : Nat) (d : D) (p : PyData), plainD d = true → pyF hp n d = some p → decD p = some d
  | 0, _, _, _, e => by simp [pyF] at e
  | n + 1, d, p, h, e => by
    cases d <;> simp only [pyF] at e <;> try (simp [plainD] at h; done)
    · cases e; rw [decD]
    · cases e; rw [decD]
    · cases e; rw [decD]
    · cases e; rw [decD]
    · rename_i ds
      rw [plainD] at h
      cases e1 : mapO (pyF hp n) ds with
      | none => rw [e1] at e; cases e
      | some ps =>
        rw [e1] at e
        cases e
        rw [decD, dec_mapO (fun d p => dec_enc n d p) ds ps h e1]
        rfl
def alikeB (ps : List PyData) : Bool := (ps.all fun x => ps.all fun y => PySem.W.alike x y) && ps.all notNon
theorem alikeB_all {ps : List PyData} (h : alikeB ps = true) : PySem.W.AlikeAll ps := by
  unfold alikeB at h
  rw [Bool.and_eq_true, List.all_eq_true, List.all_eq_true] at h
  exact ⟨fun x hx y hy => List.all_eq_true.mp (h.1 x hx) y hy, fun x hx => notNon_ne (h.2 x hx)⟩
def bestD (mx : Bool) (ds : List D) (hp : Hd) : Option D := match mapO (pyF hp 15) ds with
  | some (p :: ps) => if (plainDs ds && (alikeB (p :: ps) && decide (PyData.depthAll (p :: ps) ≤ 40))) = true then decD (if mx = true then PySem.W.maxD p ps else PySem.W.minD p ps) else none
  | _ => none
theorem bestD_some {mx : Bool} {ds : List D} {hp : Hd} {d : D} (h : bestD mx ds hp = some d) : ∃ p ps, mapO (pyF hp 15) ds = some (p :: ps) ∧ plainDs ds = true ∧ PySem.W.AlikeAll (p :: ps) ∧ PyData.depthAll (p :: ps) ≤ 40 ∧ decD (if mx = true then PySem.W.maxD p ps else PySem.W.minD p ps) = some d := by
  unfold bestD at h
  split at h
  · rename_i p ps e
    split at h
    · rename_i hc
      rw [Bool.and_eq_true, Bool.and_eq_true] at hc
      exact ⟨p, ps, e, hc.1, alikeB_all hc.2.1, of_decide_eq_true hc.2.2, h⟩
    · cases h
  · cases h
theorem plainDs_at : ∀ {ds : List D} {i : Nat} {d : D}, plainDs ds = true → ds[i]? = some d → plainD d = true
  | [], _, _, _, e => by simp at e
  | x :: xs, 0, d, h, e => by
    rw [plainDs, Bool.and_eq_true] at h
    simp at e
    rw [← e]
    exact h.1
  | x :: xs, i + 1, d, h, e => by
    rw [plainDs, Bool.and_eq_true] at h
    exact plainDs_at h.2 (by simpa using e)
theorem mapO_at {α β : Type} {f : α → Option β} : ∀ {xs : List α} {ys : List β} {i : Nat} {x : α}, mapO f xs = some ys → xs[i]? = some x → ∃ y, f x = some y
  | [], _, _, _, _, e => by simp at e
  | a :: xs, ys, i, x, h, e => by
    rw [mapO] at h
    split at h
    · rename_i y ys' e1 e2
      cases i with
      | zero =>
        simp at e
        exact ⟨y, by rw [← e]; exact e1⟩
      | succ i => exact mapO_at e2 (by simpa using e)
    · cases h
section
variable {X : Cx} {pins : List (Addr × Obj)} {σ : L2.St} {H : Hp} {s : Shared} {μ : List Addr} {hp : Hd}
theorem best_item (I : Inv X pins σ H s) (rh : RelH X.K H μ hp) {ds : List D} {vs : List V} {us : List Value} {qs : List PyData} (rs : Rps X.K H μ ds vs) (rv : Vals vs us) (em : mapO (pyF hp 15) ds = some qs) (pl : plainDs ds = true) {i : Nat} {v : Value} (hv : us[i]? = some v) {h' : Heap} {p : PyData} {bs : List Addr} (hr : Reads h' v p bs)
    (hk : ∀ b o, s.heap.get? b = some o → h'.get? b = some o) {d : D} (hd : decD p = some d) : ∃ x, RelV x v ∧ Rp X.K H μ d x := by
  have hi := (List.getElem?_eq_some_iff.mp hv).1
  have hlen := rv.length
  have hl2 := rs.len
  have ed : ds[i]? = some ds[i] := List.getElem?_eq_getElem (by omega)
  obtain ⟨x, ex, rx⟩ := rs.get ed
  obtain ⟨u, eu, ru⟩ := rv.get ex
  rw [hv] at eu
  cases eu
  obtain ⟨q, eq⟩ := mapO_at em ed
  obtain ⟨as, ra⟩ := Dp.reads I q _ _ (pyF_dp rh 15 _ q _ eq rx) ru
  have := (Reads.unique (PyProof.Rows.Reads.keeps hk ra) _ _ hr).1
  subst this
  rw [dec_enc 15 _ _ (plainDs_at pl ed) eq] at hd
  cases hd
  exact ⟨x, ru, rx⟩
theorem best_list (hc : X.calm = true) (hu : X.A.units + 64 < cLine) (mx : Bool) (I : Inv X pins σ H s) (rh : RelH X.K H μ hp) {ds : List D} {vs : List V} {a : Addr} (hq : SqL X.K H a vs) (rs : Rps X.K H μ ds vs) {d : D} (e : bestD mx ds hp = some d) {Q : VK} (q : ∀ v, Rp X.K H μ d v → Q v H) :
    wpAny (model X.prog X.w) X.A (call (.builtin (if mx = true then "max" else "min")) [.ref a]) (EP X pins σ Q) X.xe s := by
  obtain ⟨p, ps, em, pl, ha, hdp, hd⟩ := bestD_some e
  obtain ⟨its, rv, ht, hz⟩ := I.list hq
  obtain ⟨as, ra⟩ := Dp.readsAll I (p :: ps) vs its (dpAll_of rh ds (p :: ps) vs em rs) rv
  cases mx with
  | true =>
    refine PySem.W.max_list_data (I.ok.hd hc) ht.isList (by simpa using ra) ha (by omega) fun i v h' tk bs hv hr hk => ?_
    obtain ⟨x, rx, rd⟩ := best_item I rh rs rv em pl (by simpa using hv) hr hk hd
    exact ⟨x, H, I.kept hk, rx, q x rd⟩
  | false =>
    refine PySem.W.min_list_data (I.ok.hd hc) ht.isList (by simpa using ra) ha (by omega) fun i v h' tk bs hv hr hk => ?_
    obtain ⟨x, rx, rd⟩ := best_item I rh rs rv em pl (by simpa using hv) hr hk hd
    exact ⟨x, H, I.kept hk, rx, q x rd⟩
end
def gBestL (mx : Bool) (ds : List D) (hp : Hd) : Option (D × Hd) := match bestD mx ds hp with
  | some d => some (d, hp)
  | none => none
theorem gBestL_some {mx : Bool} {ds : List D} {hp hp' : Hd} {d : D} (h : gBestL mx ds hp = some (d, hp')) : bestD mx ds hp = some d ∧ hp' = hp := by
  unfold gBestL at h
  split at h
  · rename_i e
    cases h
    exact ⟨e, rfl⟩
  · cases h
section
variable {X : Cx}
theorem n_best (mx : Bool) (hc : X.calm = true) (hu : X.A.units + 64 < cLine) : CallR X (.builtin (if mx = true then "max" else "min")) (RN X.K (gBestL mx)) := fun pins s σ H xs us Q I r ⟨hp, μ, ds, vs, p, d, hp', rh, ex, hn, hl, rs, e, q⟩ => by
  obtain ⟨e, rfl⟩ := gBestL_some e
  subst ex
  rw [Vals.ref1 r]
  exact best_list hc hu mx I rh (.inl (.inl hl)) rs e fun v rv => q v H μ Ext.refl rh rv
end
end Ve
namespace Ve
open PySem PySem.Spec L2
def idxP (d : PyData) (ds : List PyData) : Option Nat := ds.findIdx? fun z => PyData.eqv z d
theorem idxP_some {d : PyData} {ds : List PyData} {j : Nat} (h : idxP d ds = some j) : ∃ z, ds[j]? = some z ∧ PyData.eqv z d = true ∧ ∀ (m : Nat) (z' : PyData), m < j → ds[m]? = some z' → PyData.eqv z' d = false := by
  unfold idxP at h
  obtain ⟨hj, h1, h2⟩ := List.findIdx?_eq_some_iff_getElem.mp h
  refine ⟨ds[j], List.getElem?_eq_getElem hj, h1, fun m z' hm hz => ?_⟩
  have := h2 m hm
  obtain ⟨hm', e⟩ := List.getElem?_eq_some_iff.mp hz
  rw [← e]
  simpa using this
def idxD (hp : Hd) (x : D) (ys : List D) : Option Nat := match pyF hp 16 x, mapO (pyF hp 15) ys with
  | some d, some ds => if (SeqAt.shaped d && SeqAt.shaped (.list ds)) = true then idxP d ds else none
  | _, _ => none
theorem idxD_some {hp : Hd} {x : D} {ys : List D} {j : Nat} (h : idxD hp x ys = some j) : ∃ d ds, pyF hp 16 x = some d ∧ mapO (pyF hp 15) ys = some ds ∧ SeqAt.shaped d = true ∧ SeqAt.shaped (.list ds) = true ∧ idxP d ds = some j := by
  unfold idxD at h
  split at h
  · rename_i d ds e1 e2
    split at h
    · rename_i hs
      rw [Bool.and_eq_true] at hs
      exact ⟨d, ds, e1, e2, hs.1, hs.2, h⟩
    · cases h
  · cases h
def isT (d : D) (_ : Hd) : Bool := (tupOf d).isSome
def gTIdx (x : D) (ds : List D) (hp : Hd) : Option (D × Hd) := match tupOf x, ds with
  | some ys, [d] => (idxD hp d ys).map fun j => (.int (j : Nat), hp)
  | _, _ => none
section
variable {X : Cx} {e : Expr} {es : List Expr} {fr : AA}
theorem Rps.one1 {K : PySem.W.Frag} {H : Hp} {μ : List Addr} {d : D} {xs : List V} (h : Rps K H μ [d] xs) : ∃ v, xs = [v] ∧ Rp K H μ d v := by
  rw [Rps] at h
  obtain ⟨v, w, e, r1, r2⟩ := h
  rw [Rps] at r2
  subst r2
  exact ⟨v, e, r1⟩
theorem t_tindex (hu : X.A.units + 65 < cLine) : MtR X "tuple.index" (RM X.K gTIdx) := fun pins s σ H x xs v us Q I rx rxs ⟨hp, μ, dx, ds, d, hp', rh, r1, rs, e, q⟩ => by
  unfold gTIdx at e
  split at e
  · rename_i ys y e1
    rw [Option.map_eq_some_iff] at e
    obtain ⟨j, e2, e3⟩ := e
    cases e3
    obtain ⟨w, rfl, rw⟩ := rs.one1
    obtain ⟨p, ps, h1, h2, s1, s2, h3⟩ := idxD_some e2
    obtain ⟨a, vs, rfl, ta, ra⟩ := tupOf_some e1 r1
    have qa : SqT X.K H a vs := ta.elim (fun t => t.sq) fun t => t.sq
    obtain ⟨z, hz, hzj, hno⟩ := idxP_some h3
    have dps := dpAll_of rh _ _ _ h2 ra
    have dpy := pyF_dp rh _ _ _ _ h1 rw
    cases rx
    cases rxs with
    | cons ry rt =>
      rename_i uy ut
      cases rt
      obtain ⟨bs, q1⟩ := Dp.reads I p w uy dpy ry
      have hxs : PyData.canLayAll0 ps = true := SeqAt.canLay_of_shaped s2
      have hroom : X.A.units + 1 + min (PyData.depthAll ps) p.depth < cLine := PyProof.Rows.room_in_shaped s1 hu
      obtain ⟨its, rv, pl, hlen⟩ := I.tuple qa
      obtain ⟨⟨cls, dd, dt, sl⟩, ho, hc, n, hd⟩ := pl
      simp only at hc hd
      subst hc
      subst hd
      obtain ⟨as, h4⟩ := Dp.readsAll I ps _ its dps rv
      have hn : its.length = ps.length := SeqAt.ReadsAll.length ps its as h4
      have hmap : its.map (SeqAt.readOf s.heap) = ps := SeqAt.readsAll_map ps its as hxs h4
      obtain ⟨hjd, _⟩ := List.getElem?_eq_some_iff.mp hz
      have hjl : j < its.length := by omega
      have hj : j < its.toArray.size := by simpa using hjl
      have at_ : ∀ (m : Nat) (hm : m < its.toArray.size) (z' : PyData), ps[m]? = some z' → SeqAt.readOf s.heap its.toArray[m] = z' := by
        intro m hm z' hz'
        have hml : m < its.length := by simpa using hm
        rw [← hmap, List.getElem?_map, List.getElem?_eq_getElem hml] at hz'
        have e1 : SeqAt.readOf s.heap its[m] = z' := Option.some.inj (show some (SeqAt.readOf s.heap its[m]) = some z' from hz')
        simpa using e1
      refine call_meets PySem.F.slot_tuple_index ⟨_, ho, rfl⟩ PySem.F.entry_tuple_index (PySem.F.args_tuple_index_2 _ _)
        (TI.tuple_indexAt a its.toArray n dd sl uy (fun u => PyData.eqv (SeqAt.readOf s.heap u) p) j hj ?_ ?_) ⟨ho, SeqAt.items_eqAt (vs := its.toArray) (show ReadsAll s.heap its.toArray.toList ps as from h4) q1 hxs (SeqAt.canLay_of_shaped s1) hroom, ?_⟩
      · show PyData.eqv (SeqAt.readOf s.heap its.toArray[j]) p = true
        rw [at_ j hj z hz]
        exact hzj
      · intro m hm hmj
        have hmd : m < ps.length := by omega
        have hz' : ps[m]? = some ps[m] := List.getElem?_eq_getElem hmd
        show PyData.eqv (SeqAt.readOf s.heap its.toArray[m]) p = false
        rw [at_ m hm _ hz']
        exact hno m _ hmj hz'
      · exact ⟨.int (j : Nat), H, I.tok _, ⟨_, rfl⟩, q _ H μ Ext.refl rh Rp.int⟩
  · cases e
def mCatOO (fa fb : AE) : AA := fun ls hp => match fa ls hp with
  | some (x, hp1) => match fb ls hp1 with
    | some (y, hp2) => match lstOf x hp2, lstOf y hp2 with
      | some xs, some ys => if xs.length + ys.length ≤ sizeLine then some (xs ++ ys, hp2) else none
      | _, _ => none
    | none => none
  | none => none
end
end Ve
namespace Ve
open PySem PySem.Spec L2
def rgOk (a b : Int) : Prop := -(2 ^ 62) ≤ a ∧ a < 2 ^ 62 ∧ -(2 ^ 62) ≤ b ∧ b < 2 ^ 62 ∧ (b - a).toNat ≤ 2 ^ 24
instance (a b : Int) : Decidable (rgOk a b) := by unfold rgOk; infer_instance
def rgD (a b : Int) : List D := (List.range (b - a).toNat).map fun k : Nat => D.int (a + (k : Nat))
def mLRg1 (fa : AE) : AA := fun ls hp => match fa ls hp with
  | some (.int j, hp1) => if rgOk 0 j then some (rgD 0 j, hp1) else none
  | _ => none
def mLRg2 (fa fb : AE) : AA := fun ls hp => match fa ls hp with
  | some (.int i, hp1) => match fb ls hp1 with
    | some (.int j, hp2) => if rgOk i j then some (rgD i j, hp2) else none
    | _ => none
  | _ => none
def mTRg1 (fa : AE) : AE := fun ls hp => match mLRg1 fa ls hp with
  | some (ds, hp1) => some (.tup ds, hp1)
  | none => none
def mTRg2 (fa fb : AE) : AE := fun ls hp => match mLRg2 fa fb ls hp with
  | some (ds, hp1) => some (.tup ds, hp1)
  | none => none
end Ve
namespace Ve
open PySem PySem.Spec L2
def reprOk (p : PyData) : Bool := (p.showable && !p.hasDict) && (decide (p.depth ≤ 40) && decide (p.shown.length ≤ sizeLine))
end Ve
namespace Ve
open PySem PySem.Spec L2 PyProof.Rows
section
variable {X : Cx} {a b c d : Expr} {ta tb tc td : TE} {pos : Pos} {fa fb fc fd : AE}
def mChain3 (fa fb fc fd : AE) (g g' g'' : D → D → Hd → Option (D × Hd)) : AE := fun ls hp => match fa ls hp with
  | some (x, hp1) => match fb ls hp1 with
    | some (y, hp2) => match g x y hp2 with
      | some (.bl true, hp3) => match fc ls hp3 with
        | some (z, hp4) => match g' y z hp4 with
          | some (.bl true, hp5) => match fd ls hp5 with
            | some (w, hp6) => g'' z w hp6
            | none => none
          | some (.bl false, hp5) => some (.bl false, hp5)
          | _ => none
        | none => none
      | some (.bl false, hp3) => some (.bl false, hp3)
      | _ => none
    | none => none
  | none => none
end
end Ve
namespace Ve
open PySem PySem.Spec L2
section
variable {ls : Ls} {hp : Hd} {fa fb fc : AE} {ft fu : AT} {fr fl fm : AA} {f g : AS}
theorem sIf_s2 : sIf ft f g ls hp = (match ft ls hp with
  | some (b, hp1) => if b = true then f ls hp1 else g ls hp1
  | none => none) := by
  unfold sIf
  split
  · rename_i e; rw [e]; rfl
  · rename_i e; rw [e]; rfl
  · rename_i e; rw [e]
theorem mIfE_s2 : mIfE ft fa fb ls hp = (match ft ls hp with
  | some (b, hp1) => if b = true then fa ls hp1 else fb ls hp1
  | none => none) := by
  unfold mIfE
  split
  · rename_i e; rw [e]; rfl
  · rename_i e; rw [e]; rfl
  · rename_i e; rw [e]
theorem mAnd_s2 : mAnd ft fu ls hp = (match ft ls hp with
  | some (b, hp1) => if b = true then fu ls hp1 else some (false, hp1)
  | none => none) := by
  unfold mAnd
  split
  · rename_i e; rw [e]; rfl
  · rename_i h
    cases e : ft ls hp with
    | none => rfl
    | some p =>
      obtain ⟨b, hp1⟩ := p
      cases b with
      | true => exact absurd e (h _)
      | false => rfl
theorem mOr_s2 : mOr ft fu ls hp = (match ft ls hp with
  | some (b, hp1) => if b = true then some (true, hp1) else fu ls hp1
  | none => none) := by
  unfold mOr
  split
  · rename_i e; rw [e]; rfl
  · rename_i h
    cases e : ft ls hp with
    | none => rfl
    | some p =>
      obtain ⟨b, hp1⟩ := p
      cases b with
      | false => exact absurd e (h _)
      | true => rfl
theorem mNot_s : mNot ft ls hp = (match ft ls hp with
  | some (b, hp1) => some (!b, hp1)
  | none => none) := rfl
theorem mAndV_s2 : mAndV fa fb ls hp = (match fa ls hp with
  | some (.bl b, hp1) => if b = true then fb ls hp1 else some (.bl false, hp1)
  | _ => none) := by
  unfold mAndV
  cases e : fa ls hp with
  | none => rfl
  | some p =>
    obtain ⟨d, hp1⟩ := p
    cases d <;> try rfl
    rename_i b
    cases b <;> rfl
theorem mOrV_s2 : mOrV fa fb ls hp = (match fa ls hp with
  | some (.bl b, hp1) => if b = true then some (.bl true, hp1) else fb ls hp1
  | _ => none) := by
  unfold mOrV
  cases e : fa ls hp with
  | none => rfl
  | some p =>
    obtain ⟨d, hp1⟩ := p
    cases d <;> try rfl
    rename_i b
    cases b <;> rfl
theorem mNotV_s : mNotV fa ls hp = (match fa ls hp with
  | some (.bl b, hp1) => some (.bl (!b), hp1)
  | _ => none) := rfl
theorem mChain_s2 {g g' : D → D → Hd → Option (D × Hd)} : mChain fa fb fc g g' ls hp = (match fa ls hp with
  | some (x, hp1) => match fb ls hp1 with
    | some (y, hp2) => match g x y hp2 with
      | some (.bl b, hp3) => if b = true then (match fc ls hp3 with
        | some (z, hp4) => g' y z hp4
        | none => none) else some (.bl false, hp3)
      | _ => none
    | none => none
  | none => none) := by
  unfold mChain
  cases e1 : fa ls hp with
  | none => rfl
  | some p1 =>
    obtain ⟨x, hp1⟩ := p1
    dsimp only
    cases e2 : fb ls hp1 with
    | none => rfl
    | some p2 =>
      obtain ⟨y, hp2⟩ := p2
      dsimp only
      cases e3 : g x y hp2 with
      | none => rfl
      | some p3 =>
        obtain ⟨d, hp3⟩ := p3
        cases d <;> try rfl
        rename_i b
        cases b <;> rfl
theorem mChain3_s {fd : AE} {g g' g'' : D → D → Hd → Option (D × Hd)} : mChain3 fa fb fc fd g g' g'' ls hp = (match fa ls hp with
  | some (x, hp1) => match fb ls hp1 with
    | some (y, hp2) => match g x y hp2 with
      | some (.bl true, hp3) => match fc ls hp3 with
        | some (z, hp4) => match g' y z hp4 with
          | some (.bl true, hp5) => match fd ls hp5 with
            | some (w, hp6) => g'' z w hp6
            | none => none
          | some (.bl false, hp5) => some (.bl false, hp5)
          | _ => none
        | none => none
      | some (.bl false, hp3) => some (.bl false, hp3)
      | _ => none
    | none => none
  | none => none) := rfl
theorem mL_s {g : List D → Hd → Option (D × Hd)} : mL fl g ls hp = (match fl ls hp with
  | some (ds, hp1) => g ds hp1
  | none => none) := rfl
theorem m2L_s {g : D → List D → Hd → Option (D × Hd)} : m2L fa fl g ls hp = (match fa ls hp with
  | some (a, hp1) => match fl ls hp1 with
    | some (ds, hp2) => g a ds hp2
    | none => none
  | none => none) := rfl
theorem mMet_s {ck : D → Hd → Bool} {g : D → List D → Hd → Option (D × Hd)} : mMet ck fa fr g ls hp = (match fa ls hp with
  | some (x, hp1) => if ck x hp1 = true then (match fr ls hp1 with
    | some (ds, hp2) => g x ds hp2
    | none => none) else none
  | none => none) := rfl
theorem mExt_s : mExt fa fl ls hp = (match fa ls hp with
  | some (x, hp1) => if isL x hp1 = true then (match fl ls hp1 with
    | some (ds, hp2) => onL x hp2 fun xs => if xs.length + ds.length ≤ sizeLine then some (.non, xs ++ ds) else none
    | none => none) else none
  | none => none) := rfl
theorem mExtO_s : mExtO fa fb ls hp = (match fa ls hp with
  | some (x, hp1) => if isL x hp1 = true then (match fb ls hp1 with
    | some (y, hp2) => (match lstOf y hp2 with
      | some ds => onL x hp2 fun xs => if xs.length + ds.length ≤ sizeLine then some (.non, xs ++ ds) else none
      | none => none)
    | none => none) else none
  | none => none) := rfl
theorem mIsi_s {T : String} : mIsi T fa ls hp = (match fa ls hp with
  | some (x, hp1) => gIsi T [x] hp1
  | none => none) := rfl
theorem mSl_s {a b : Option AE} : mSl fa a b ls hp = (match fa ls hp with
  | some (x, hp1) => match mPo a ls hp1 with
    | some (l, hp2) => match mPo b ls hp2 with
      | some (u, hp3) => gSl x l u hp3
      | none => none
    | none => none
  | none => none) := rfl
theorem mPo_n : mPo none ls hp = some (none, hp) := rfl
theorem mPo_s : mPo (some fa) ls hp = (match fa ls hp with
  | some (.int i, hp1) => some (some i, hp1)
  | _ => none) := rfl
theorem mCat_s : mCat fl fm ls hp = (match fl ls hp with
  | some (xs, hp1) => match fm ls hp1 with
    | some (ys, hp2) => if xs.length + ys.length ≤ sizeLine then some (xs ++ ys, hp2) else none
    | none => none
  | none => none) := rfl
theorem mCatOL_s : mCatOL fa fm ls hp = (match fa ls hp with
  | some (x, hp1) => match fm ls hp1 with
    | some (ys, hp2) => match lstOf x hp2 with
      | some xs => if xs.length + ys.length ≤ sizeLine then some (xs ++ ys, hp2) else none
      | none => none
    | none => none
  | none => none) := rfl
theorem mCatLO_s : mCatLO fl fb ls hp = (match fl ls hp with
  | some (xs, hp1) => match fb ls hp1 with
    | some (y, hp2) => match lstOf y hp2 with
      | some ys => if xs.length + ys.length ≤ sizeLine then some (xs ++ ys, hp2) else none
      | none => none
    | none => none
  | none => none) := rfl
theorem mCatOO_s : mCatOO fa fb ls hp = (match fa ls hp with
  | some (x, hp1) => match fb ls hp1 with
    | some (y, hp2) => match lstOf x hp2, lstOf y hp2 with
      | some xs, some ys => if xs.length + ys.length ≤ sizeLine then some (xs ++ ys, hp2) else none
      | _, _ => none
    | none => none
  | none => none) := rfl
theorem mLRg1_s : mLRg1 fa ls hp = (match fa ls hp with
  | some (.int j, hp1) => if rgOk 0 j then some (rgD 0 j, hp1) else none
  | _ => none) := rfl
theorem mLRg2_s : mLRg2 fa fb ls hp = (match fa ls hp with
  | some (.int i, hp1) => match fb ls hp1 with
    | some (.int j, hp2) => if rgOk i j then some (rgD i j, hp2) else none
    | _ => none
  | _ => none) := rfl
theorem mTRg1_s : mTRg1 fa ls hp = (match mLRg1 fa ls hp with
  | some (ds, hp1) => some (.tup ds, hp1)
  | none => none) := rfl
theorem mTRg2_s : mTRg2 fa fb ls hp = (match mLRg2 fa fb ls hp with
  | some (ds, hp1) => some (.tup ds, hp1)
  | none => none) := rfl
theorem lstOf_ref {n : Nat} {xs : List D} (h : hp[n]? = some (.lst xs)) : lstOf (.ref n) hp = some xs := by
  unfold lstOf
  dsimp only
  rw [h]
theorem mRep_s : mRep fl fb ls hp = (match fl ls hp with
  | some (xs, hp1) => match fb ls hp1 with
    | some (.int k, hp2) => if 0 ≤ k ∧ k < 2 ^ 40 ∧ xs.length * k.toNat ≤ sizeLine then some ((List.replicate k.toNat xs).flatten, hp2) else none
    | _ => none
  | none => none) := rfl
theorem sAsgL_s {ts : List Tg} : sAsgL ts fl ls hp = (match fl ls hp with
  | some (ds, hp1) => match Tg.asgs ts ds ls with
    | some ls1 => some (.nx, ls1, hp1)
    | none => none
  | none => none) := rfl
theorem sPar3_s {i j l : Nat} : sPar3 i j l fr ls hp = (match fr ls hp with
  | some ([a, b, c], hp1) => some (.nx, ((ls.set i (some a)).set j (some b)).set l (some c), hp1)
  | _ => none) := rfl
theorem sAug_s {i : Nat} {g : D → D → Hd → Option (D × Hd)} : sAug i fa g ls hp = (match ls[i]? with
  | some (some x) => match fa ls hp with
    | some (y, hp1) => match g x y hp1 with
      | some (z, hp2) => some (.nx, ls.set i (some z), hp2)
      | none => none
    | none => none
  | _ => none) := rfl
theorem sBrk_s : sBrk ls hp = some (.bk, ls, hp) := rfl
theorem sCnt_s : sCnt ls hp = some (.ct, ls, hp) := rfl
theorem sRetN_s : sRetN ls hp = some (.rt .non, ls, hp) := rfl
theorem tYesD_s : tYesD ls hp = some (true, hp) := rfl
theorem mSorted_s : mSorted fa ls hp = (match fa ls hp with
  | some (d, hp1) => gSrtO d hp1
  | none => none) := rfl
theorem mSortedL_s : mSortedL fl ls hp = (match fl ls hp with
  | some (ds, hp1) => gSrt ds hp1
  | none => none) := rfl
theorem mIS_s : mIS fa ls hp = (match fa ls hp with
  | some (d, hp1) => match itOf d hp1 with
    | some (items, gd) => some (items, gd, hp1)
    | none => none
  | none => none) := rfl
theorem sAsgM_s {t : TgM} : sAsgM t fa ls hp = (match fa ls hp with
  | some (d, hp1) => match t d ls hp1 with
    | some (ls1, hp2) => some (.nx, ls1, hp2)
    | none => none
  | none => none) := rfl
theorem tNm_s {i : Nat} {d : D} : tNm i d ls hp = some (ls.set i (some d), hp) := rfl
theorem tSub_s {d : D} : tSub fa fb d ls hp = (match fa ls hp with
  | some (x, hp1) => match fb ls hp1 with
    | some (y, hp2) => match gSet x y d hp2 with
      | some hp3 => some (ls, hp3)
      | none => none
    | none => none
  | none => none) := rfl
theorem tTp_s {ts : List TgM} {ds : List D} : tTp ts (.tup ds) ls hp = tTps ts ds ls hp := rfl
theorem tTps_nil : tTps [] [] ls hp = some (ls, hp) := rfl
theorem tTps_cons {t : TgM} {ts : List TgM} {d : D} {ds : List D} : tTps (t :: ts) (d :: ds) ls hp = (match t d ls hp with
  | some (ls1, hp1) => tTps ts ds ls1 hp1
  | none => none) := rfl
theorem mEnum_tup {ds : List D} {hp1 : Hd} (e : fa ls hp = some (.tup ds, hp1)) : mEnum fa ls hp = some (enumD ds, [], hp1) := by
  unfold mEnum
  rw [e]
  rfl
theorem mEnum_ref {n : Nat} {xs : List D} {hp1 : Hd} (e : fa ls hp = some (.ref n, hp1)) (h : hp1[n]? = some (.lst xs)) : mEnum fa ls hp = some (enumD xs, [(n, xs)], hp1) := by
  unfold mEnum
  rw [e]
  dsimp only
  rw [show tupOf (.ref n) = none from rfl]
  dsimp only
  rw [h]
theorem mList_s : mList fa ls hp = (match fa ls hp with
  | some (d, hp1) => gListO d hp1
  | none => none) := rfl
theorem mIL_s : mIL fl ls hp = (match fl ls hp with
  | some (ds, hp1) => some (ds, [], hp1)
  | none => none) := rfl
theorem mDict0_s : mDict0 ls hp = some (.ref hp.length, hp ++ [.dic []]) := rfl
theorem asg_nm {i : Nat} {d : D} : Tg.asg (.nm i) d ls = some (ls.set i (some d)) := by rw [Tg.asg]
theorem asg_tp {ts : List Tg} {ds : List D} : Tg.asg (.tp ts) (.tup ds) ls = Tg.asgs ts ds ls := by rw [Tg.asg]
theorem asg_tpT {ts : List Tg} {a : List Int} : Tg.asg (.tp ts) (T a) ls = Tg.asgs ts (a.map D.int) ls := by rw [T, Tg.asg]
theorem asgs_nil : Tg.asgs [] [] ls = some ls := by rw [Tg.asgs]
theorem asgs_cons {t : Tg} {ts : List Tg} {d : D} {ds : List D} : Tg.asgs (t :: ts) (d :: ds) ls = (match Tg.asg t d ls with
  | some ls1 => Tg.asgs ts ds ls1
  | none => none) := by rw [Tg.asgs]; try rfl
theorem sForI_s {fi : AI} {t : Tg} {b : AS} : sForI fi t b ls hp = (match fi ls hp with
  | some (items, gd, hp1) => sFor t gd b items ls hp1
  | none => none) := rfl
theorem mR1_of {j : Int} {hp1 : Hd} (e : fr ls hp = some ([.int j], hp1)) (h : -(2 ^ 62) ≤ j ∧ j < 2 ^ 62) : mR1 fr ls hp = some ((List.range j.toNat).map fun i => D.int (i : Nat), [], hp1) := by
  unfold mR1
  rw [e]
  dsimp only
  rw [if_pos h]
theorem mR1_nat {j : Nat} {hp1 : Hd} (e : fr ls hp = some ([.int (j : Nat)], hp1)) (h : j < 2 ^ 62) : mR1 fr ls hp = some ((List.range j).map fun i => D.int (i : Nat), [], hp1) := by
  rw [mR1_of e (by omega)]
  rfl
theorem mR2_nat {i j : Nat} {hp1 : Hd} (e : fr ls hp = some ([.int (i : Nat), .int (j : Nat)], hp1)) (h : i < 2 ^ 62 ∧ j < 2 ^ 62) : mR2 fr ls hp = some ((List.range (j - i)).map fun k => D.int ((i + k : Nat) : Int), [], hp1) := by
  unfold mR2
  rw [e]
  dsimp only
  rw [if_pos (by omega)]
  have : ((j : Int) - (i : Int)).toNat = j - i := by omega
  rw [this]
  simp
end
theorem sFor_pre {α : Type} {t : Tg} {b : AS} {gd : Gd} (φ : α → D) (Inv : List α → Ls → Hd → Prop) (hg : ∀ d ls hp, Inv d ls hp → gdOk gd hp = true) : ∀ (items done : List α) (ls : Ls) (hp : Hd), Inv done ls hp →
    (∀ (d : List α) (x : α) (r : List α) ls hp, done ++ items = d ++ x :: r → Inv d ls hp → ∃ ls1 ls2 hp2, t.asg (φ x) ls = some ls1 ∧ (b ls1 hp = some (.nx, ls2, hp2) ∨ b ls1 hp = some (.ct, ls2, hp2)) ∧ Inv (d ++ [x]) ls2 hp2) →
    ∃ ls' hp', sFor t gd b (items.map φ) ls hp = some (.nx, ls', hp') ∧ Inv (done ++ items) ls' hp'
  | [], done, ls, hp, h, _ => ⟨ls, hp, by simp only [List.map_nil, sFor, hg _ _ _ h, if_true], by simpa using h⟩
  | x :: xs, done, ls, hp, h, step => by
    obtain ⟨ls1, ls2, hp2, e1, e2, h2⟩ := step done x xs ls hp rfl h
    obtain ⟨ls', hp', e3, h3⟩ := sFor_pre φ Inv hg xs (done ++ [x]) ls2 hp2 h2 fun d y r ls hp e hi => step d y r ls hp (by rw [← e, List.append_assoc]; rfl) hi
    refine ⟨ls', hp', ?_, by rw [List.append_assoc] at h3; exact h3⟩
    rcases e2 with e2 | e2 <;> simp only [List.map_cons, sFor, hg _ _ _ h, if_true, e1, e2, e3]
theorem sForI_pre {α : Type} {fi : AI} {t : Tg} {b : AS} {gd : Gd} {items : List α} {ls : Ls} {hp hp1 : Hd} (φ : α → D) (Inv : List α → Ls → Hd → Prop) (ei : fi ls hp = some (items.map φ, gd, hp1)) (hg : ∀ d ls hp, Inv d ls hp → gdOk gd hp = true) (h0 : Inv [] ls hp1)
    (step : ∀ (d : List α) (x : α) (r : List α) ls hp, items = d ++ x :: r → Inv d ls hp → ∃ ls1 ls2 hp2, t.asg (φ x) ls = some ls1 ∧ (b ls1 hp = some (.nx, ls2, hp2) ∨ b ls1 hp = some (.ct, ls2, hp2)) ∧ Inv (d ++ [x]) ls2 hp2) :
    ∃ ls' hp', sForI fi t b ls hp = some (.nx, ls', hp') ∧ Inv items ls' hp' := by
  obtain ⟨ls', hp', e, h⟩ := sFor_pre φ Inv hg items [] ls hp1 h0 fun d x r ls hp e hi => step d x r ls hp (by simpa using e) hi
  refine ⟨ls', hp', ?_, by simpa using h⟩
  rw [sForI_s, ei]
  exact e
theorem sWhile_rel {S : Type} {c : AT} {b : AS} (Rel : S → Ls → Hd → Prop) (Done : S → Prop) (μ : S → Nat)
    (h : ∀ s ls hp, Rel s ls hp → (c ls hp = some (false, hp) ∧ Done s) ∨ (c ls hp = some (true, hp) ∧ ∃ s' ls2 hp2, (b ls hp = some (.nx, ls2, hp2) ∨ b ls hp = some (.ct, ls2, hp2)) ∧ Rel s' ls2 hp2 ∧ μ s' < μ s)) :
    ∀ (n : Nat) (s : S) (ls : Ls) (hp : Hd), μ s < n → Rel s ls hp → ∃ s' ls' hp', sWhile c b n ls hp = some (.nx, ls', hp') ∧ Rel s' ls' hp' ∧ Done s'
  | 0, s, ls, hp, hn, _ => by omega
  | n + 1, s, ls, hp, hn, hr => by
    rcases h s ls hp hr with ⟨e, d⟩ | ⟨e, s', ls2, hp2, e2, hr2, hm⟩
    · exact ⟨s, ls, hp, by rw [sWhile, e], hr, d⟩
    · obtain ⟨s3, ls3, hp3, e3, hr3, d⟩ := sWhile_rel Rel Done μ h n s' ls2 hp2 (by omega) hr2
      refine ⟨s3, ls3, hp3, ?_, hr3, d⟩
      rcases e2 with e2 | e2 <;> rw [sWhile, e] <;> dsimp only <;> rw [e2] <;> exact e3
theorem mLc_pre {α : Type} {fi : AI} {t : Tg} {own : List Nat} {te : AE} {gd : Gd} {items : List α} {ls : Ls} {hp hp1 : Hd} (φ : α → D) (Inv : List α → List D → Hd → Prop) (ei : fi ls hp = some (items.map φ, gd, hp1)) (hl : items.length ≤ sizeLine) (hg : ∀ d o hp, Inv d o hp → gdOk gd hp = true) (h0 : Inv [] [] hp1)
    (step : ∀ (d : List α) (x : α) (r : List α) (o : List D) hp, items = d ++ x :: r → Inv d o hp → ∃ ls1 y hp2, t.asg (φ x) (wipeL ls own) = some ls1 ∧ te ls1 hp = some (y, hp2) ∧ Inv (d ++ [x]) (o ++ [y]) hp2) :
    ∃ out hp', mLc fi t own tYesD te ls hp = some (out, hp') ∧ Inv items out hp' := by
  have key : ∀ (its done : List α) (o : List D) (hp : Hd), items = done ++ its → Inv done o hp → ∃ out hp', lcGo t gd tYesD te (wipeL ls own) (its.map φ) hp = some (out, hp') ∧ Inv items (o ++ out) hp' := by
    intro its
    induction its with
    | nil =>
      intro done o hp e h
      refine ⟨[], hp, by simp only [List.map_nil, lcGo, hg _ _ _ h, if_true], ?_⟩
      rw [e, List.append_nil, List.append_nil]
      exact h
    | cons x xs ih =>
      intro done o hp e h
      obtain ⟨ls1, y, hp2, e1, e2, h2⟩ := step done x xs o hp e h
      obtain ⟨out, hp', e3, h3⟩ := ih (done ++ [x]) (o ++ [y]) hp2 (by rw [e, List.append_assoc]; rfl) h2
      refine ⟨y :: out, hp', ?_, by rw [List.append_assoc] at h3; exact h3⟩
      simp only [List.map_cons, lcGo, hg _ _ _ h, if_true, e1, tYesD_s, e2, e3]
  obtain ⟨out, hp', e, h⟩ := key items [] [] hp1 rfl h0
  refine ⟨out, hp', ?_, h⟩
  unfold mLc
  rw [ei]
  dsimp only
  rw [if_pos (by rw [List.length_map]; exact hl)]
  exact e
structure EqE {α : Type} (n : Nat) (e : α → D) where
  py : α → PyData
  f : ∀ hp m a, pyF hp (m + n) (e a) = some (py a)
  lay : ∀ a, PyData.canLay0 (py a) = true
  dep : ∀ a, (py a).depth < n
  pos : 0 < n
  eqv : ∀ a b : α, PyData.eqv (py a) (py b) = true ↔ a = b
namespace EqE
variable {α : Type} {n : Nat} {e : α → D}
def int : EqE 1 D.int := ⟨PyData.int, fun _ _ _ => rfl, fun _ => rfl, fun _ => Nat.zero_lt_one, Nat.zero_lt_one, fun a b => by
  show (a == b) = true ↔ a = b
  exact beq_iff_eq⟩
theorem mapO_e (E : EqE n e) {hp : Hd} {m : Nat} : ∀ xs : List α, mapO (pyF hp (m + n)) (xs.map e) = some (xs.map E.py)
  | [] => rfl
  | x :: r => by rw [List.map_cons, mapO, E.f, mapO_e E r]; rfl
theorem canAll (E : EqE n e) : ∀ xs : List α, PyData.canLayAll0 (xs.map E.py) = true
  | [] => rfl
  | x :: r => by rw [List.map_cons, PyData.canLayAll0, E.lay, canAll E r]; rfl
theorem depAll (E : EqE n e) : ∀ xs : List α, PyData.depthAll (xs.map E.py) ≤ n - 1
  | [] => Nat.zero_le _
  | x :: r => by
    have := E.dep x
    have := depAll E r
    rw [List.map_cons, PyData.depthAll]
    omega
theorem eqvAll (E : EqE n e) : ∀ xs ys : List α, PyData.eqvAll (xs.map E.py) (ys.map E.py) = true ↔ xs = ys
  | [], [] => by simp [PyData.eqvAll]
  | [], _ :: _ => by simp [PyData.eqvAll]
  | _ :: _, [] => by simp [PyData.eqvAll]
  | x :: r, y :: s => by
    rw [List.map_cons, List.map_cons, PyData.eqvAll, Bool.and_eq_true, E.eqv, eqvAll E r s]
    simp
def tup (E : EqE n e) : EqE (n + 1) (fun xs : List α => D.tup (xs.map e)) := ⟨fun xs => .tuple (xs.map E.py),
  fun hp m xs => by
    show (mapO (pyF hp (m + n)) (xs.map e)).map PyData.tuple = _
    rw [mapO_e]
    rfl,
  fun xs => by rw [PyData.canLay0]; exact E.canAll xs,
  fun xs => by
    have := E.depAll xs
    rw [PyData.depth]
    have := E.pos
    omega,
  Nat.succ_pos _,
  fun xs ys => by rw [PyData.eqv]; exact E.eqvAll xs ys⟩
theorem shaped (E : EqE n e) (hn : n ≤ 16) (a : α) : SeqAt.shaped (E.py a) = true := by
  unfold SeqAt.shaped
  have := E.dep a
  rw [E.lay, Bool.true_and, decide_eq_true_eq]
  omega
theorem f16 (E : EqE n e) (hn : n ≤ 16) (hp : Hd) (a : α) : pyF hp 16 (e a) = some (E.py a) := by
  have := E.f hp (16 - n) a
  rwa [show 16 - n + n = 16 by omega] at this
theorem eq [DecidableEq α] (E : EqE n e) (hn : n ≤ 16) (hp : Hd) (a b : α) : eqH hp (e a) (e b) = some (decide (a = b)) := by
  unfold eqH
  rw [E.f16 hn, E.f16 hn]
  dsimp only
  rw [E.shaped hn, E.shaped hn]
  simp only [Bool.and_self, if_true, Option.some.injEq]
  rw [Bool.eq_iff_iff, E.eqv, decide_eq_true_eq]
end EqE
def eT : EqE 2 T := EqE.int.tup
def TT (bs : List (List Int)) : D := .tup (bs.map T)
def TTT (bs : List (List (List Int))) : D := .tup (bs.map TT)
theorem nr_TT (bs : List (List Int)) : nr (TT bs) = true := nrs_T bs
theorem nrs_of {ds : List D} (h : ∀ d ∈ ds, nr d = true) : nrs ds = true := by
  induction ds with
  | nil => rfl
  | cons d r ih => exact nrs_cons (h d List.mem_cons_self) (ih fun x hx => h x (List.mem_cons_of_mem _ hx))
theorem nrs_map {α : Type} {e : α → D} (h : ∀ a, nr (e a) = true) (xs : List α) : nrs (xs.map e) = true := nrs_of fun d hd => by
  obtain ⟨a, _, rfl⟩ := List.mem_map.mp hd
  exact h a
theorem nr_TTT (bs : List (List (List Int))) : nr (TTT bs) = true := nrs_map nr_TT bs
theorem ixN_i {n : Nat} {i : Int} (h : 0 ≤ i ∧ i < n) : ixN n i = some i.toNat := by
  unfold ixN
  rw [if_pos h.1, if_pos h.2]
theorem gIx_ref {hp : Hd} {n : Nat} {xs : List D} {i : Int} (h : hp[n]? = some (.lst xs)) : gIx (.ref n) (.int i) hp = (match atI xs i with
  | some d => some (d, hp)
  | none => none) := by
  unfold gIx
  dsimp only
  rw [h]
  try rfl
theorem gIx_tupI {hp : Hd} {xs : List D} {i : Int} : gIx (.tup xs) (.int i) hp = (match atI xs i with
  | some d => some (d, hp)
  | none => none) := rfl
theorem gIx_refN {hp : Hd} {n j : Nat} {xs : List D} {x : D} (h : hp[n]? = some (.lst xs)) (e : xs[j]? = some x) : gIx (.ref n) (.int (j : Nat)) hp = some (x, hp) := by
  rw [gIx_ref h, atI_nat e]
theorem gIx_tupN {hp : Hd} {j : Nat} {xs : List D} {x : D} (e : xs[j]? = some x) : gIx (.tup xs) (.int (j : Nat)) hp = some (x, hp) := by
  rw [gIx_tupI, atI_nat e]
theorem gSet_int {hp : Hd} {n : Nat} {xs : List D} {i : Int} {v : D} (h : hp[n]? = some (.lst xs)) (hi : 0 ≤ i ∧ i < xs.length) : gSet (.ref n) (.int i) v hp = some (hp.set n (.lst (xs.set i.toNat v))) := by
  unfold gSet
  dsimp only
  rw [h]
  dsimp only
  rw [ixN_i hi]
theorem gSet_nat {hp : Hd} {n j : Nat} {xs : List D} {v : D} (h : hp[n]? = some (.lst xs)) (hi : j < xs.length) : gSet (.ref n) (.int (j : Nat)) v hp = some (hp.set n (.lst (xs.set j v))) := by
  rw [gSet_int h (by omega)]
  rfl
theorem gPopAt_of {hp : Hd} {n i : Nat} {xs : List D} {y : D} (h : hp[n]? = some (.lst xs)) (e : xs[i]? = some y) (hi : i < 2 ^ 62) : gPopAt (.ref n) [.int (i : Nat)] hp = some (y, hp.set n (.lst (xs.eraseIdx i))) := by
  have hl := (List.getElem?_eq_some_iff.mp e).1
  unfold gPopAt
  dsimp only
  rw [if_pos (by omega)]
  unfold onL
  dsimp only
  rw [h]
  dsimp only
  rw [show seqIndex? (i : Nat) xs.length = some i from by
    unfold seqIndex?
    simp only [show ¬ ((i : Nat) : Int) < 0 by omega, if_false]
    simp; omega]
  dsimp only
  rw [e]
theorem isL_of {hp : Hd} {n : Nat} {xs : List D} (h : hp[n]? = some (.lst xs)) : isL (.ref n) hp = true := by
  unfold isL
  dsimp only
  rw [h]
theorem onL_of {hp : Hd} {n : Nat} {xs ys : List D} {d : D} {g : List D → Option (D × List D)} (h : hp[n]? = some (.lst xs)) (e : g xs = some (d, ys)) : onL (.ref n) hp g = some (d, hp.set n (.lst ys)) := by
  unfold onL
  dsimp only
  rw [h]
  dsimp only
  rw [e]
theorem gAppend_of {hp : Hd} {n : Nat} {xs : List D} {d : D} (h : hp[n]? = some (.lst xs)) (hl : xs.length < 16777216) : gAppend (.ref n) [d] hp = some (.non, hp.set n (.lst (xs ++ [d]))) := by
  unfold gAppend
  dsimp only
  exact onL_of h (by rw [sizeLine_eq, if_pos hl])
theorem gPop_of {hp : Hd} {n : Nat} {xs : List D} {d : D} (h : hp[n]? = some (.lst (xs ++ [d]))) : gPop (.ref n) [] hp = some (d, hp.set n (.lst xs)) := by
  unfold gPop
  dsimp only
  refine onL_of h ?_
  rw [List.length_append, List.length_singleton, Nat.add_sub_cancel, List.getElem?_concat_length, List.dropLast_concat]
theorem eraseIdx_map' {α β : Type} (f : α → β) : ∀ (l : List α) (k : Nat), (l.map f).eraseIdx k = (l.eraseIdx k).map f
  | [], _ => rfl
  | _ :: _, 0 => rfl
  | x :: xs, k + 1 => by rw [List.map_cons, List.eraseIdx_cons_succ, List.eraseIdx_cons_succ, List.map_cons, eraseIdx_map' f xs k]
theorem cons_eraseIdx_perm {α : Type} : ∀ (l : List α) (k : Nat) (h : k < l.length), (l[k] :: l.eraseIdx k).Perm l
  | x :: xs, 0, _ => List.Perm.refl _
  | x :: xs, k + 1, h => by
    rw [List.getElem_cons_succ, List.eraseIdx_cons_succ]
    exact (List.Perm.swap x _ _).trans ((cons_eraseIdx_perm xs k (by simpa using h)).cons x)
end Ve
namespace Ve
open PySem PySem.Spec L2
section
variable {α : Type} [DecidableEq α]
def psh (st : List α × List α) (b : α) : List α × List α := if b ∈ st.1 then st else (st.1 ++ [b], st.2 ++ [b])
structure Mt (P : α → Prop) (N : α → List α) (met wait : List α) : Prop where
  nd : met.Nodup
  pr : ∀ a ∈ met, P a
  wm : ∀ a ∈ wait, a ∈ met
  cl : ∀ a ∈ met, a ∉ wait → ∀ b ∈ N a, b ∈ met
structure Ex (P : α → Prop) (met0 wa : List α) (l : List α) (st : List α × List α) : Prop where
  nd : st.1.Nodup
  pr : ∀ a ∈ st.1, P a
  m0 : ∀ a ∈ met0, a ∈ st.1
  w0 : ∀ a ∈ wa, a ∈ st.2
  wm : ∀ a ∈ st.2, a ∈ st.1
  new : ∀ a ∈ st.1, a ∈ met0 ∨ a ∈ st.2
  cnt : st.2.length + met0.length = wa.length + st.1.length
  done : ∀ b ∈ l, b ∈ st.1
theorem Ex.fold {P : α → Prop} {met0 w0 : List α} : ∀ (l done : List α) (st : List α × List α), Ex P met0 w0 done st → (∀ b ∈ l, P b) → Ex P met0 w0 (done ++ l) (l.foldl psh st)
  | [], done, st, h, _ => by rw [List.append_nil]; exact h
  | b :: l, done, st, h, hp => by
    have hb := hp b List.mem_cons_self
    have h2 : Ex P met0 w0 (done ++ [b]) (psh st b) := by
      unfold psh
      by_cases hm : b ∈ st.1
      · rw [if_pos hm]
        exact ⟨h.nd, h.pr, h.m0, h.w0, h.wm, h.new, h.cnt, fun x hx => by
          rcases List.mem_append.mp hx with hx | hx
          · exact h.done x hx
          · rw [List.mem_singleton.mp hx]; exact hm⟩
      · rw [if_neg hm]
        refine ⟨List.nodup_append.mpr ⟨h.nd, by simp, fun x hx y hy e => ?_⟩, fun a ha => ?_, fun a ha => List.mem_append_left _ (h.m0 a ha), fun a ha => List.mem_append_left _ (h.w0 a ha), fun a ha => ?_, fun a ha => ?_, ?_, fun x hx => ?_⟩
        · rw [List.mem_singleton.mp hy] at e
          rw [e] at hx
          exact hm hx
        · rcases List.mem_append.mp ha with ha | ha
          · exact h.pr a ha
          · rw [List.mem_singleton.mp ha]; exact hb
        · rcases List.mem_append.mp ha with ha | ha
          · exact List.mem_append_left _ (h.wm a ha)
          · exact List.mem_append_right _ ha
        · rcases List.mem_append.mp ha with ha | ha
          · rcases h.new a ha with z | z
            · exact .inl z
            · exact .inr (List.mem_append_left _ z)
          · exact .inr (List.mem_append_right _ ha)
        · have := h.cnt
          simp only [List.length_append, List.length_singleton]
          omega
        · rcases List.mem_append.mp hx with hx | hx
          · exact List.mem_append_left _ (h.done x hx)
          · exact List.mem_append_right _ hx
    have := Ex.fold l (done ++ [b]) (psh st b) h2 fun x hx => hp x (List.mem_cons_of_mem _ hx)
    rw [List.append_assoc] at this
    exact this
theorem Mt.begin (P : α → Prop) (N : α → List α) (a : α) (h : P a) : Mt P N [a] [a] := ⟨by simp, fun x hx => by rw [List.mem_singleton.mp hx]; exact h, fun _ h => h, fun x hx hn => absurd hx hn⟩
theorem nodup_len {l m : List α} (nd : l.Nodup) (h : ∀ a ∈ l, a ∈ m) : l.length ≤ m.length := by
  induction l generalizing m with
  | nil => exact Nat.zero_le _
  | cons a l ih =>
    rw [List.nodup_cons] at nd
    have ha := h a List.mem_cons_self
    have := ih nd.2 (m := m.erase a) fun b hb => (List.mem_erase_of_ne (fun e => nd.1 (by rw [← e]; exact hb))).mpr (h b (List.mem_cons_of_mem _ hb))
    rw [List.length_erase_of_mem ha] at this
    have := List.length_pos_of_mem ha
    rw [List.length_cons]
    omega
theorem Mt.len {P : α → Prop} {N : α → List α} {met wait U : List α} (h : Mt P N met wait) (hU : ∀ a, P a → a ∈ U) : met.length ≤ U.length := nodup_len h.nd fun a ha => hU a (h.pr a ha)
theorem Mt.pop {P : α → Prop} {N : α → List α} {met w : List α} {here : α} (h : Mt P N met (w ++ [here])) (hN : ∀ a b, P a → b ∈ N a → P b) {U : List α} (hU : ∀ a, P a → a ∈ U) :
    Mt P N ((N here).foldl psh (met, w)).1 ((N here).foldl psh (met, w)).2 ∧ (∀ a ∈ met, a ∈ ((N here).foldl psh (met, w)).1) ∧
    (U.length - ((N here).foldl psh (met, w)).1.length) + ((N here).foldl psh (met, w)).2.length < (U.length - met.length) + (w ++ [here]).length := by
  have hh : here ∈ met := h.wm here (by simp)
  have e0 : Ex P met w [] (met, w) := ⟨h.nd, h.pr, fun _ h => h, fun _ h => h, fun a ha => h.wm a (List.mem_append_left _ ha), fun a ha => .inl ha, rfl, fun _ h => by cases h⟩
  have e := e0.fold (N here) [] (met, w) fun b hb => hN here b (h.pr here hh) hb
  rw [List.nil_append] at e
  generalize (N here).foldl psh (met, w) = st at e
  have l1 : st.1.length ≤ U.length := nodup_len e.nd fun a ha => hU a (e.pr a ha)
  have l0 : met.length ≤ st.1.length := nodup_len h.nd e.m0
  refine ⟨⟨e.nd, e.pr, e.wm, fun a ha hw b hb => ?_⟩, e.m0, ?_⟩
  · rcases e.new a ha with z | z
    · by_cases q : a = here
      · subst q
        exact e.done b hb
      · exact e.m0 _ (h.cl a z (fun y => by
          rcases List.mem_append.mp y with y | y
          · exact hw (e.w0 a y)
          · exact q (by simpa using y)) b hb)
    · exact absurd z hw
  · have := e.cnt
    rw [List.length_append, List.length_singleton]
    omega
theorem psh_filter (p : α → Bool) (l : List α) (st : List α × List α) : l.foldl (fun st b => if p b = true ∧ b ∉ st.1 then (st.1 ++ [b], st.2 ++ [b]) else st) st = (l.filter p).foldl psh st := by
  rw [List.foldl_filter]
  congr 1
  funext st b
  unfold psh
  by_cases h1 : p b = true <;> by_cases h2 : b ∈ st.1 <;> simp [h1, h2]
theorem sForI_psh {β : Type} {fi : AI} {t : Tg} {b : AS} {gd : Gd} {ls : Ls} {hp hp1 : Hd} (items : List β) (φ : β → D) (nx : β → α) (p : α → Bool) (Rel : List α × List α → Ls → Hd → Prop) (ei : fi ls hp = some (items.map φ, gd, hp1)) (hg : ∀ s ls hp, Rel s ls hp → gdOk gd hp = true) (st0 : List α × List α) (h0 : Rel st0 ls hp1)
    (hs : ∀ x ∈ items, ∀ st ls hp, Rel st ls hp → (∀ a ∈ st0.1, a ∈ st.1) → st.1.length ≤ st0.1.length + items.length → st.2.length ≤ st0.2.length + items.length → ∃ ls1 ls2 hp2, t.asg (φ x) ls = some ls1 ∧ (b ls1 hp = some (.nx, ls2, hp2) ∨ b ls1 hp = some (.ct, ls2, hp2)) ∧
      Rel (if p (nx x) = true ∧ nx x ∉ st.1 then (st.1 ++ [nx x], st.2 ++ [nx x]) else st) ls2 hp2) :
    ∃ ls' hp', sForI fi t b ls hp = some (.nx, ls', hp') ∧ Rel (((items.map nx).filter p).foldl psh st0) ls' hp' := by
  let f := fun (st : List α × List α) (x : β) => if p (nx x) = true ∧ nx x ∉ st.1 then (st.1 ++ [nx x], st.2 ++ [nx x]) else st
  obtain ⟨ls', hp', e, h, _⟩ := sForI_pre (t := t) (b := b) φ (fun d ls hp => Rel (d.foldl f st0) ls hp ∧ (∀ a ∈ st0.1, a ∈ (d.foldl f st0).1) ∧ (d.foldl f st0).1.length ≤ st0.1.length + d.length ∧ (d.foldl f st0).2.length ≤ st0.2.length + d.length) ei (fun d ls hp h => hg _ _ _ h.1) ⟨h0, fun _ h => h, Nat.le_add_right _ _, Nat.le_add_right _ _⟩ fun d x r ls hp ed ⟨h1, h2, h3, h4⟩ => by
    have hl : d.length + 1 ≤ items.length := by rw [ed, List.length_append, List.length_cons]; omega
    obtain ⟨ls1, ls2, hp2, a, b, c⟩ := hs x (by rw [ed]; simp) _ ls hp h1 h2 (by omega) (by omega)
    refine ⟨ls1, ls2, hp2, a, b, ?_⟩
    rw [List.foldl_append, List.foldl_cons, List.foldl_nil, List.length_append, List.length_singleton]
    generalize d.foldl f st0 = st at *
    refine ⟨c, ?_⟩
    show (∀ a ∈ st0.1, a ∈ (if p (nx x) = true ∧ nx x ∉ st.1 then (st.1 ++ [nx x], st.2 ++ [nx x]) else st).1) ∧ (if p (nx x) = true ∧ nx x ∉ st.1 then (st.1 ++ [nx x], st.2 ++ [nx x]) else st).1.length ≤ _ ∧ (if p (nx x) = true ∧ nx x ∉ st.1 then (st.1 ++ [nx x], st.2 ++ [nx x]) else st).2.length ≤ _
    split
    · refine ⟨fun a ha => List.mem_append_left _ (h2 a ha), ?_, ?_⟩ <;> simp only [List.length_append, List.length_singleton] <;> omega
    · exact ⟨h2, by omega, by omega⟩
  refine ⟨ls', hp', e, ?_⟩
  have : items.foldl f st0 = ((items.map nx).filter p).foldl psh st0 := by
    rw [← psh_filter, List.foldl_map]
  rw [← this]
  exact h
theorem search_while {P : α → Prop} {N : α → List α} (U : List α) (hU : ∀ a, P a → a ∈ U) (hN : ∀ a b, P a → b ∈ N a → P b) {c : AT} {b : AS} (Rel : List α → List α → Ls → Hd → Prop)
    (hc0 : ∀ met ls hp, Rel met [] ls hp → c ls hp = some (false, hp)) (hc1 : ∀ met w here ls hp, Rel met (w ++ [here]) ls hp → c ls hp = some (true, hp))
    (hb : ∀ met w here ls hp, Rel met (w ++ [here]) ls hp → here ∈ met → P here → met.length ≤ U.length → w.length ≤ U.length → (∀ a ∈ met, P a) → ∃ ls2 hp2, b ls hp = some (.nx, ls2, hp2) ∧ Rel ((N here).foldl psh (met, w)).1 ((N here).foldl psh (met, w)).2 ls2 hp2)
    (n : Nat) (a : α) (ha : P a) (ls : Ls) (hp : Hd) (h0 : Rel [a] [a] ls hp) (hn : U.length + 1 < n) : ∃ met ls' hp', sWhile c b n ls hp = some (.nx, ls', hp') ∧ Rel met [] ls' hp' ∧ Mt P N met [] ∧ a ∈ met := by
  have loop := sWhile_rel (S := List α × List α) (c := c) (b := b) (fun st ls hp => Rel st.1 st.2 ls hp ∧ Mt P N st.1 st.2 ∧ a ∈ st.1 ∧ (U.length - st.1.length) + st.2.length ≤ U.length + 1) (fun st => st.2 = []) (fun st => (U.length - st.1.length) + st.2.length) (by
    rintro ⟨met, wait⟩ ls hp ⟨hr, hm, h0, hw⟩
    have hml := hm.len hU
    rcases List.eq_nil_or_concat wait with rfl | ⟨w, here, rfl⟩
    · exact .inl ⟨hc0 met ls hp hr, rfl⟩
    · rw [List.concat_eq_append] at *
      have hh : here ∈ met := hm.wm here (by simp)
      dsimp only at hw hr hm hml
      rw [List.length_append, List.length_singleton] at hw
      obtain ⟨p1, p2, p3⟩ := hm.pop hN hU
      obtain ⟨ls2, hp2, e, hr2⟩ := hb met w here ls hp hr hh (hm.pr here hh) hml (by omega) hm.pr
      refine .inr ⟨hc1 met w here ls hp hr, ((N here).foldl psh (met, w)), ls2, hp2, .inl e, ⟨hr2, p1, p2 a h0, ?_⟩, p3⟩
      rw [List.length_append, List.length_singleton] at p3
      omega) n ([a], [a]) ls hp (by simp only [List.length_singleton]; omega) ⟨h0, Mt.begin _ _ a ha, by simp, by simp only [List.length_singleton]; omega⟩
  obtain ⟨⟨met, wait⟩, ls', hp', e, ⟨hr, hm, h0, _⟩, hd⟩ := loop
  dsimp only at hd hr hm h0
  subst hd
  exact ⟨met, ls', hp', e, hr, hm, h0⟩
inductive Rch (N : α → List α) (a : α) : α → Prop where
  | refl : Rch N a a
  | step {b c : α} : Rch N a b → c ∈ N b → Rch N a c
theorem Rch.closed {N : α → List α} {a : α} {met : List α} (ha : a ∈ met) (cl : ∀ x ∈ met, ∀ b ∈ N x, b ∈ met) : ∀ {b}, Rch N a b → b ∈ met := by
  intro b h
  induction h with
  | refl => exact ha
  | step _ hc ih => exact cl _ ih _ hc
theorem Rch.trans {N : α → List α} {a b c : α} (h1 : Rch N a b) (h2 : Rch N b c) : Rch N a c := by
  induction h2 with
  | refl => exact h1
  | step _ hc ih => exact ih.step hc
theorem Rch.symm {N : α → List α} (hs : ∀ a b, b ∈ N a → a ∈ N b) {a b : α} (h : Rch N a b) : Rch N b a := by
  induction h with
  | refl => exact .refl
  | step _ hc ih => exact Rch.trans (.step .refl (hs _ _ hc)) ih
end
def Gd' (g : List Int → D) (cs : List (List Int)) : List (D × D) := cs.map fun c => (T c, g c)
theorem look_Gd (g : List Int → D) : ∀ (cs : List (List Int)) (a : List Int), look (Gd' g cs) (T a) = if a ∈ cs then some (g a) else none
  | [], a => rfl
  | c :: cs, a => by
    show look ((T c, g c) :: Gd' g cs) (T a) = _
    rw [look, look_Gd g cs a]
    by_cases h : c = a
    · subst h
      rw [if_pos (same_T.mpr rfl), if_pos List.mem_cons_self]
    · rw [if_neg (fun z => h (same_T.mp z))]
      by_cases h2 : a ∈ cs
      · rw [if_pos h2, if_pos (List.mem_cons_of_mem _ h2)]
      · rw [if_neg h2, if_neg (fun z => by
          rcases List.mem_cons.mp z with z | z
          · exact h z.symm
          · exact h2 z)]
theorem dKind_Gd (g : List Int → D) (cs : List (List Int)) (a : List Int) : dKind (Gd' g cs) (T a) = true := by
  show ((toKeys (a.map D.int)).isSome && _) = true
  rw [toKeys_ints]
  cases cs <;> rfl
theorem putD_Gd (g : List Int → D) : ∀ (cs : List (List Int)) (a : List Int), putD (Gd' g cs) (T a) (g a) = Gd' g (addC cs a)
  | [], a => rfl
  | c :: cs, a => by
    show putD ((T c, g c) :: Gd' g cs) (T a) (g a) = _
    rw [putD]
    by_cases h : c = a
    · rw [if_pos (same_T.mpr h)]
      subst h
      unfold addC
      rw [if_pos List.mem_cons_self]
      rfl
    · rw [if_neg (fun z => h (same_T.mp z)), putD_Gd g cs a]
      unfold addC
      by_cases h2 : a ∈ cs
      · rw [if_pos h2, if_pos (List.mem_cons_of_mem _ h2)]
        rfl
      · rw [if_neg h2, if_neg (fun z => by
          rcases List.mem_cons.mp z with z | z
          · exact h z.symm
          · exact h2 z)]
        rfl
theorem gIx_Gd {hp : Hd} {n : Nat} {a : List Int} {g : List Int → D} {cs : List (List Int)} (h : hp[n]? = some (.dic (Gd' g cs))) (ha : a ∈ cs) : gIx (.ref n) (T a) hp = some (g a, hp) := by
  unfold gIx
  dsimp only
  rw [h]
  show (if dKind (Gd' g cs) (T a) = true then (match look (Gd' g cs) (T a) with
    | some d => some (d, hp)
    | none => none) else none) = _
  rw [if_pos (dKind_Gd g cs a), look_Gd, if_pos ha]
theorem gSet_Gd {hp : Hd} {n : Nat} {a : List Int} {g : List Int → D} {cs : List (List Int)} (h : hp[n]? = some (.dic (Gd' g cs))) (hn : a ∉ cs) (hl : cs.length < sizeLine) : gSet (.ref n) (T a) (g a) hp = some (hp.set n (.dic (Gd' g (cs ++ [a])))) := by
  unfold gSet
  dsimp only
  rw [h]
  dsimp only
  have hz : (Gd' g cs).length < sizeLine := by
    unfold Gd'
    rw [List.length_map]
    exact hl
  rw [dKind_Gd, decide_eq_true hz, Bool.and_self, if_pos rfl, putD_Gd]
  unfold addC
  rw [if_neg hn]
theorem EqE.gEqL_nil {α : Type} {n : Nat} {e : α → D} (E : EqE n e) (hn : n ≤ 15) {hp : Hd} {k : Nat} {xs : List α} (h : hp[k]? = some (.lst (xs.map e))) (neg : Bool) : gEqL neg (.ref k) [] hp = some (.bl (if neg then !xs.isEmpty else xs.isEmpty), hp) := by
  have f : pyF hp 16 (.ref k) = some (.list (xs.map E.py)) := by
    rw [pyF_ref (n := 15) h]
    have := E.mapO_e (hp := hp) (m := 15 - n) xs
    rw [show 15 - n + n = 15 by omega] at this
    rw [this]
    rfl
  have s1 : ∀ xs : List α, SeqAt.shaped (.list (xs.map E.py)) = true := by
    intro xs
    unfold SeqAt.shaped
    have := E.depAll xs
    rw [PyData.canLay0, E.canAll, Bool.true_and, decide_eq_true_eq, PyData.depth]
    omega
  unfold gEqL
  rw [f]
  show (if (SeqAt.shaped (.list (xs.map E.py)) && SeqAt.shaped (.list [])) = true then _ else none) = _
  rw [s1, show SeqAt.shaped (.list []) = true from s1 []]
  have e2 : PyData.eqv (.list (xs.map E.py)) (.list []) = xs.isEmpty := by
    rw [PyData.eqv]
    cases xs <;> simp [PyData.eqvAll]
  rw [e2]
  rfl
theorem head_ok (lo hi : Nat) (hlo : lo ≤ 63) (hhi : hi ≤ 63) {ls : Ls} {ns : List Int} (h0 : ls[0]? = some (some (.scr ns))) (hp : Hd) :
    ∃ N : Nat, N ≤ 63 ∧ mR1 (mCons (mAs (mCons (mC (.int (lo : Nat))) (mCons (mAs (mCons (mC (.int (hi : Nat))) (mCons (mAs (mCons (mVar 0) mNil) gLen) mNil)) gMin2) mNil)) gMax2) mNil) ls hp = some ((List.range N).map fun i => D.int (i : Nat), [], hp) := by
  let j : Int := if (if (ns.length : Int) < (hi : Nat) then (ns.length : Int) else (hi : Nat)) > (lo : Nat) then (if (ns.length : Int) < (hi : Nat) then (ns.length : Int) else (hi : Nat)) else (lo : Nat)
  have hj : 0 ≤ j ∧ j ≤ 63 := by
    simp only [j]
    split <;> split <;> omega
  refine ⟨j.toNat, by omega, ?_⟩
  rw [mR1_of (j := j) ?_ (by omega)]
  simp only [mCons_s, mAs_s, mC_s, mVar_s, h0, mNil_s, gLen, gMin2, gMax2]
  rfl
def ddp (cs : List (List Int)) : List (List Int) := cs.foldl addC []
theorem addC_mem {cs : List (List Int)} {a b : List Int} : b ∈ addC cs a ↔ b ∈ cs ∨ b = a := by
  unfold addC
  split
  · rename_i h
    exact ⟨fun z => .inl z, fun z => z.elim id fun e => by rw [e]; exact h⟩
  · rw [List.mem_append, List.mem_singleton]
theorem foldl_addC_mem {b : List Int} : ∀ (cs acc : List (List Int)), b ∈ cs.foldl addC acc ↔ b ∈ acc ∨ b ∈ cs
  | [], acc => by simp
  | c :: cs, acc => by
    rw [List.foldl_cons, foldl_addC_mem cs, addC_mem, List.mem_cons]
    exact ⟨fun h => by rcases h with (h | h) | h <;> simp [h], fun h => by rcases h with h | h | h <;> simp [h]⟩
theorem ddp_mem {b : List Int} {cs : List (List Int)} : b ∈ ddp cs ↔ b ∈ cs := by
  unfold ddp
  rw [foldl_addC_mem]
  simp
theorem addC_nodup {cs : List (List Int)} {a : List Int} (h : cs.Nodup) : (addC cs a).Nodup := by
  unfold addC
  split
  · exact h
  · rename_i hn
    exact List.nodup_append.mpr ⟨h, by simp, fun x hx y hy e => hn (by rw [← List.mem_singleton.mp hy, ← e]; exact hx)⟩
theorem foldl_addC_nodup : ∀ (cs acc : List (List Int)), acc.Nodup → (cs.foldl addC acc).Nodup
  | [], acc, h => h
  | c :: cs, acc, h => foldl_addC_nodup cs _ (addC_nodup h)
theorem ddp_nodup (cs : List (List Int)) : (ddp cs).Nodup := foldl_addC_nodup cs [] List.nodup_nil
theorem foldl_addC_len : ∀ (cs acc : List (List Int)), (cs.foldl addC acc).length ≤ acc.length + cs.length
  | [], acc => Nat.le_refl _
  | c :: cs, acc => by
    have h1 := foldl_addC_len cs (addC acc c)
    have h2 : (addC acc c).length ≤ acc.length + 1 := by
      unfold addC
      split
      · omega
      · rw [List.length_append]; exact Nat.le_refl _
    rw [List.foldl_cons, List.length_cons]
    omega
theorem putAll_ddp : ∀ (cs acc : List (List Int)), putAll (Cd acc) (Cd cs) = Cd (cs.foldl addC acc)
  | [], acc => rfl
  | c :: cs, acc => by
    show putAll (putD (Cd acc) (T c) (.bl true)) (Cd cs) = _
    rw [putD_Cd, putAll_ddp cs]
    rfl
end Ve
namespace Ve
open PySem PySem.Spec L2
theorem nrO_Ts (bs : List (List Int)) : nrO (.lst (bs.map T)) = true := nrs_T bs
def nb (c : List Int) (d : Int) : List Int := match c with
  | [x, y, z] => if d = 0 then [x + 1, y, z] else if d = 1 then [x + -1, y, z] else if d = 2 then [x, y + 1, z] else if d = 3 then [x, y + -1, z] else if d = 4 then [x, y, z + 1] else [x, y, z + -1]
  | _ => c
theorem six {d : Int} (h : 0 ≤ d ∧ d < 6) : d = 0 ∨ d = 1 ∨ d = 2 ∨ d = 3 ∨ d = 4 ∨ d = 5 := by omega
theorem nrs_Ti (c : List Int) (d : Int) : nrs [T c, .int d] = true := nrs_cons (nr_T c) rfl
def Cb (B : Int) (c : List Int) : Prop := ∃ x y z : Int, c = [x, y, z] ∧ (-B ≤ x ∧ x ≤ B) ∧ (-B ≤ y ∧ y ≤ B) ∧ (-B ≤ z ∧ z ≤ B)
theorem Cb.mono {B B' : Int} {c : List Int} (h : Cb B c) (hb : B ≤ B') : Cb B' c := by
  obtain ⟨x, y, z, e, h1, h2, h3⟩ := h
  exact ⟨x, y, z, e, by omega, by omega, by omega⟩
theorem Cb.ne {B : Int} {c : List Int} (h : Cb B c) : c ≠ [] := by
  obtain ⟨x, y, z, rfl, _⟩ := h
  exact fun z => by cases z
def Conn (cs : List (List Int)) : Prop := ∀ S : List Int → Prop, (∃ c ∈ cs, S c) → (∀ a ∈ cs, ∀ d, (0 ≤ d ∧ d < 6) → S a → nb a d ∈ cs → S (nb a d)) → ∀ c ∈ cs, S c
theorem conn_congr {cs ds : List (List Int)} (h : Conn cs) (e : ∀ c, c ∈ cs ↔ c ∈ ds) : Conn ds := fun S ⟨a, ha, sa⟩ cl c hc =>
  h S ⟨a, (e a).mpr ha, sa⟩ (fun a ha d hd sa hn => cl a ((e a).mp ha) d hd sa ((e _).mp hn)) c ((e c).mpr hc)
structure BodyS (B : Int) (cs : List (List Int)) : Prop where
  nd : cs.Nodup
  cb : ∀ c ∈ cs, Cb B c
  conn : Conn cs
  ne : cs ≠ []
  few : cs.length ≤ 30
theorem BodyS.mono {B B' : Int} {cs : List (List Int)} (h : BodyS B cs) (hb : B ≤ B') : BodyS B' cs := ⟨h.nd, fun c hc => (h.cb c hc).mono hb, h.conn, h.ne, h.few⟩
theorem mVar_of {ls : Ls} {hp : Hd} {i : Nat} {d : D} (h : ls[i]? = some (some d)) : mVar i ls hp = some (d, hp) := by
  rw [mVar_s, h]
theorem mSorted_dic {fa : AE} {ls : Ls} {hp hp1 : Hd} {n : Nat} {cs : List (List Int)} (e : fa ls hp = some (.ref n, hp1)) (h : hp1[n]? = some (.dic (Cd cs))) (hn : ∀ c ∈ cs, c ≠ []) : mSorted fa ls hp = some ((sortC cs).map T, hp1) := by
  unfold mSorted
  rw [e]
  exact gSrtO_dic h hn
def mv (a b c : Int) (l : List Int) : List Int := match l with
  | [x, y, z] => [x + a, y + b, z + c]
  | l => l
theorem mv_nb (a b c x y z d : Int) : nb (mv a b c [x, y, z]) d = mv a b c (nb [x, y, z] d) := by
  unfold nb
  by_cases h0 : d = 0
  · simp [h0, mv]; omega
  · by_cases h1 : d = 1
    · simp [h1, mv]; omega
    · by_cases h2 : d = 2
      · simp [h2, mv]; omega
      · by_cases h3 : d = 3
        · simp [h3, mv]; omega
        · by_cases h4 : d = 4
          · simp [h4, mv]; omega
          · simp [h0, h1, h2, h3, h4, mv]; omega
theorem mv_inj {a b c B : Int} {l m : List Int} (hl : Cb B l) (hm : Cb B m) (h : mv a b c l = mv a b c m) : l = m := by
  obtain ⟨x, y, z, rfl, _⟩ := hl
  obtain ⟨x', y', z', rfl, _⟩ := hm
  simp [mv] at h
  simp
  omega
theorem conn_map {cs : List (List Int)} {a b c B : Int} (h : Conn cs) (hb : ∀ l ∈ cs, Cb B l) : Conn (cs.map (mv a b c)) := by
  intro S ⟨l, hl, sl⟩ cl m hm
  obtain ⟨l0, hl0, rfl⟩ := List.mem_map.mp hl
  obtain ⟨m0, hm0, rfl⟩ := List.mem_map.mp hm
  refine h (fun l => S (mv a b c l)) ⟨l0, hl0, sl⟩ (fun l hl d hd sl hn => ?_) m0 hm0
  obtain ⟨x, y, z, rfl, _⟩ := hb l hl
  have := cl (mv a b c [x, y, z]) (List.mem_map.mpr ⟨_, hl, rfl⟩) d hd sl (by rw [mv_nb]; exact List.mem_map.mpr ⟨_, hn, rfl⟩)
  rw [mv_nb] at this
  exact this
structure Bod (B : Int) (bs : List (List Int)) : Prop where
  srt : bs.Pairwise (· < ·)
  cb : ∀ c ∈ bs, Cb B c
  conn : Conn bs
  ne : bs ≠ []
  few : bs.length ≤ 30
theorem lt_of {a b : List Int} (h : a ≤ b) (hne : a ≠ b) : a < b := by
  rcases Decidable.em (a < b) with h2 | h2
  · exact h2
  · exact absurd (List.le_antisymm h (List.not_lt.mp h2)) hne
theorem nodup_of_lt {bs : List (List Int)} (h : bs.Pairwise (· < ·)) : bs.Nodup := h.imp fun {a b} h e => by
  subst e
  exact List.lt_irrefl a h
theorem BodyS.told {B : Int} {cs : List (List Int)} (h : BodyS B cs) {a b c M : Int} (ha : -M ≤ a ∧ a ≤ M) (hb : -M ≤ b ∧ b ≤ M) (hc : -M ≤ c ∧ c ≤ M) : Bod (B + M) (sortC (cs.map (mv a b c))) := by
  have pm := sortC_perm (cs.map (mv a b c))
  have nd : (cs.map (mv a b c)).Nodup := by
    refine List.pairwise_map.mpr (List.Pairwise.imp_of_mem (fun {x y} hx hy hne e => hne (mv_inj (h.cb x hx) (h.cb y hy) e)) h.nd)
  refine ⟨?_, fun l hl => ?_, conn_congr (conn_map h.conn h.cb) fun l => pm.mem_iff.symm, fun e => ?_, by rw [pm.length_eq, List.length_map]; exact h.few⟩
  · have nd2 : (sortC (cs.map (mv a b c))).Nodup := pm.nodup_iff.mpr nd
    exact (List.Pairwise.and (sortC_sorted _) nd2).imp fun ⟨h1, h2⟩ => lt_of h1 h2
  · obtain ⟨m, hm, rfl⟩ := List.mem_map.mp (pm.mem_iff.mp hl)
    obtain ⟨x, y, z, rfl, h1, h2, h3⟩ := h.cb m hm
    exact ⟨x + a, y + b, z + c, rfl, by omega, by omega, by omega⟩
  · have := pm.length_eq
    rw [e, List.length_map] at this
    exact h.ne (List.eq_nil_of_length_eq_zero this.symm)
theorem sDrop_of {fa : AE} {ls : Ls} {hp hp1 : Hd} {d : D} (e : fa ls hp = some (d, hp1)) : sDrop fa ls hp = some (.nx, ls, hp1) := by
  rw [sDrop_s, e]
def Three (bs : List (List Int)) : Prop := ∀ c ∈ bs, ∃ x y z, c = [x, y, z]
theorem nrs_tTs (bs : List (List Int)) : nrs [.tup (bs.map T)] = true := nrs_cons (nr_tTs bs) rfl
def fF (bs : List (List Int)) (c : List Int) : List (List Int) := ((List.range 6).filter fun d : Nat => !decide (nb c (d : Int) ∈ bs)).map fun d : Nat => c ++ [(d : Int)]
def FC (bs cs : List (List Int)) : List (List Int) := cs.flatMap (fF bs)
theorem FC_take {bs cs : List (List Int)} {i : Nat} (h : i < cs.length) : FC bs (cs.take (i + 1)) = FC bs (cs.take i) ++ fF bs cs[i] := by
  unfold FC
  rw [List.take_add_one, List.getElem?_eq_getElem h, List.flatMap_append]
  simp
theorem fF_len (bs : List (List Int)) (c : List Int) : (fF bs c).length ≤ 6 := by
  unfold fF
  rw [List.length_map]
  exact Nat.le_trans (List.length_filter_le _ _) (by simp)
theorem FC_len (bs : List (List Int)) : ∀ cs : List (List Int), (FC bs cs).length ≤ 6 * cs.length
  | [] => by simp [FC]
  | c :: cs => by
    have h1 := FC_len bs cs
    have h2 := fF_len bs c
    unfold FC at h1 ⊢
    rw [List.flatMap_cons, List.length_append, List.length_cons]
    omega
theorem mR1_six {fr : AA} {ls : Ls} {hp : Hd} (e : fr ls hp = some ([.int 6], hp)) : mR1 fr ls hp = some ((List.range 6).map fun i => D.int (i : Nat), [], hp) := by
  unfold mR1
  rw [e]
  rfl
def mnC (bs : List (List Int)) (i : Nat) : Int := match bs.map fun l => l.getD i 0 with
  | a :: r => minI a r
  | [] => 0
theorem sortC_eq_of_perm {xs ys : List (List Int)} (h : xs.Perm ys) : sortC xs = sortC ys :=
  ((sortC_perm xs).trans (h.trans (sortC_perm ys).symm)).eq_of_pairwise (fun a b _ _ h1 h2 => List.le_antisymm h1 h2) (sortC_sorted xs) (sortC_sorted ys)
theorem FC_ne {bs : List (List Int)} : ∀ {cs : List (List Int)}, ∀ f ∈ FC bs cs, f ≠ [] := fun {cs} f hf => by
  unfold FC fF at hf
  obtain ⟨c, _, h⟩ := List.mem_flatMap.mp hf
  obtain ⟨d, _, rfl⟩ := List.mem_map.mp h
  simp
end Ve
namespace Ve
open PySem PySem.Spec L2
theorem plainDs_I : ∀ xs : List Int, plainDs (xs.map D.int) = true
  | [] => by rw [List.map_nil, plainDs]
  | x :: xs => by
    rw [List.map_cons, plainDs, plainDs_I xs, plainD]
    rfl
end Ve
namespace Ve
open PySem PySem.Spec L2
end Ve
namespace L2
open PySem PySem.Spec PyProof.Rows
end L2
namespace L2
open PySem PySem.Spec PyProof.Rows
end L2
namespace Ve
open PySem PySem.Spec L2 PyProof.Rows
def insS (k : Int) : List Int → List Int
  | [] => [k]
  | x :: r => if k < x then k :: x :: r else if k = x then x :: r else x :: insS k r
def srtS (ns : List Int) : List Int := ns.foldr insS []
theorem mem_insS {k j : Int} : ∀ {l : List Int}, j ∈ insS k l ↔ j = k ∨ j ∈ l
  | [] => by simp [insS]
  | x :: r => by
    unfold insS
    split
    · simp
    · split
      · rename_i h
        subst h
        simp
      · simp only [List.mem_cons, mem_insS (l := r)]
        constructor
        · rintro (h | h | h)
          · exact .inr (.inl h)
          · exact .inl h
          · exact .inr (.inr h)
        · rintro (h | h | h)
          · exact .inr (.inl h)
          · exact .inl h
          · exact .inr (.inr h)
theorem insS_lt {k : Int} : ∀ {l : List Int}, l.Pairwise (· < ·) → (insS k l).Pairwise (· < ·)
  | [], _ => List.pairwise_singleton _ _
  | x :: r, h => by
    obtain ⟨h1, h2⟩ := List.pairwise_cons.mp h
    unfold insS
    split
    · rename_i hk
      refine List.pairwise_cons.mpr ⟨fun y hy => ?_, h⟩
      rcases List.mem_cons.mp hy with z | z
      · rw [z]; exact hk
      · have := h1 y z
        omega
    · split
      · exact h
      · refine List.pairwise_cons.mpr ⟨fun y hy => ?_, insS_lt h2⟩
        rcases mem_insS.mp hy with z | z
        · omega
        · exact h1 y z
theorem mem_srtS {j : Int} : ∀ {l : List Int}, j ∈ srtS l ↔ j ∈ l
  | [] => by simp [srtS]
  | x :: r => by
    show j ∈ insS x (srtS r) ↔ _
    rw [mem_insS, mem_srtS (l := r), List.mem_cons]
theorem srtS_lt : ∀ {l : List Int}, (srtS l).Pairwise (· < ·)
  | [] => List.Pairwise.nil
  | x :: r => insS_lt (srtS_lt (l := r))
theorem lt_unique : ∀ {a b : List Int}, a.Pairwise (· < ·) → b.Pairwise (· < ·) → (∀ k, k ∈ a ↔ k ∈ b) → a = b
  | [], [], _, _, _ => rfl
  | [], y :: b, _, _, h => by have := (h y).mpr List.mem_cons_self; cases this
  | x :: a, [], _, _, h => by have := (h x).mp List.mem_cons_self; cases this
  | x :: a, y :: b, ha, hb, h => by
    obtain ⟨ha1, ha2⟩ := List.pairwise_cons.mp ha
    obtain ⟨hb1, hb2⟩ := List.pairwise_cons.mp hb
    have exy : x = y := by
      rcases List.mem_cons.mp ((h x).mp List.mem_cons_self) with z | z
      · exact z
      · rcases List.mem_cons.mp ((h y).mpr List.mem_cons_self) with z2 | z2
        · exact z2.symm
        · have q1 := hb1 x z
          have q2 := ha1 y z2
          omega
    subst exy
    refine congrArg (x :: ·) (lt_unique ha2 hb2 fun k => ?_)
    have := h k
    rw [List.mem_cons, List.mem_cons] at this
    constructor
    · intro hk
      rcases this.mp (.inr hk) with z | z
      · have := ha1 k hk; omega
      · exact z
    · intro hk
      rcases this.mpr (.inr hk) with z | z
      · have := hb1 k hk; omega
      · exact z
theorem lt_nodup {a : List Int} (h : a.Pairwise (· < ·)) : a.Nodup := h.imp fun h => by omega
theorem nodup_len_eq {a b : List Int} (ha : a.Nodup) (hb : b.Nodup) (h : ∀ k, k ∈ a ↔ k ∈ b) : a.length = b.length := by
  have le : ∀ {a b : List Int}, a.Nodup → (∀ k, k ∈ a → k ∈ b) → a.length ≤ b.length := by
    intro a
    induction a with
    | nil => intro b _ _; exact Nat.zero_le _
    | cons x r ih =>
      intro b hn hm
      obtain ⟨n1, n2⟩ := List.nodup_cons.mp hn
      have hx := hm x List.mem_cons_self
      have := ih (b := b.erase x) n2 fun k hk => (List.mem_erase_of_ne (fun z => n1 (by rw [← z]; exact hk))).mpr (hm k (List.mem_cons_of_mem _ hk))
      have h3 := List.length_erase_of_mem hx
      have h4 := List.length_pos_of_mem hx
      rw [List.length_cons]
      omega
  exact Nat.le_antisymm (le ha fun k => (h k).mp) (le hb fun k => (h k).mpr)
def intsD : List D → Option (List Int)
  | [] => some []
  | .int i :: r => (intsD r).map (i :: ·)
  | _ :: _ => none
theorem intsD_map : ∀ ns : List Int, intsD (ns.map D.int) = some ns
  | [] => rfl
  | n :: ns => by
    show (intsD (ns.map D.int)).map (n :: ·) = _
    rw [intsD_map ns]
    rfl
theorem intsD_some : ∀ {ds : List D} {ns : List Int}, intsD ds = some ns → ds = ns.map D.int
  | [], ns, h => by cases h; rfl
  | d :: ds, ns, h => by
    cases d <;> try (cases h; done)
    rename_i i
    replace h : (intsD ds).map (i :: ·) = some ns := h
    rw [Option.map_eq_some_iff] at h
    obtain ⟨ms, e1, e2⟩ := h
    subst e2
    rw [intsD_some e1]
    rfl
theorem Rps.intsE' {K : PySem.W.Frag} {H : Hp} {μ : List Addr} : ∀ {ns : List Int} {vs : List V}, Rps K H μ (ns.map D.int) vs → vs = ns.map V.int
  | [], vs, h => by
    rw [List.map_nil, Rps] at h
    exact h
  | n :: ns, vs, h => by
    rw [List.map_cons, Rps] at h
    obtain ⟨v, r, e, h1, h2⟩ := h
    rw [e, h1.intE, Rps.intsE' h2]
    rfl
end Ve
namespace Ve
open PySem PySem.Spec L2
def cS (m : List D → Hd → Option (D × Hd)) (ds : List D) (hp : Hd) : Option (D × Hd) := if nrs ds = true then match m ds [] with
  | some (d, g) => if (D.all (fun i => decide (i < g.length)) d && g.all (O.all fun i => decide (i < g.length))) = true then some (D.map (fun i => hp.length + i) d, hp ++ g.map (O.map fun i => hp.length + i)) else none
  | none => none else none
end Ve
namespace Ve
open PySem PySem.Spec L2
theorem def_of {n : Nat} {b : AS} {ds : List D} {hp hp' : Hd} {ls' : Ls} {d : D} (e : b (stD n ds) hp = some (.rt d, ls', hp')) : mDef n b ds hp = some (d, hp') := by
  rw [mDef_s, e]
theorem ret_of {fa : AE} {ls : Ls} {hp hp' : Hd} {d : D} (e : fa ls hp = some (d, hp')) : sRet fa ls hp = some (.rt d, ls, hp') := by
  rw [sRet_s, e]
theorem asg_of {t : Tg} {fa : AE} {ls ls1 : Ls} {hp hp' : Hd} {d : D} (e : fa ls hp = some (d, hp')) (e2 : t.asg d ls = some ls1) : sAsg t fa ls hp = some (.nx, ls1, hp') := by
  rw [sAsg_s, e]
  dsimp only
  rw [e2]
theorem as_of {fr : AA} {g : List D → Hd → Option (D × Hd)} {ls : Ls} {hp hp1 : Hd} {ds : List D} {r : Option (D × Hd)} (e : fr ls hp = some (ds, hp1)) (e2 : g ds hp1 = r) : mAs fr g ls hp = r := by
  rw [mAs_s, e]
  exact e2
theorem call_of {k : Nat} {fr : AA} {g : List D → Hd → Option (D × Hd)} {ls : Ls} {hp hp1 : Hd} {ds : List D} {r : Option (D × Hd)} (e : fr ls hp = some (ds, hp1)) (h : ds.length = k) (e2 : g ds hp1 = r) : mAs fr (ar k g) ls hp = r := by
  rw [mAs_s, e]
  dsimp only
  rw [ar_s, if_pos h]
  exact e2
theorem cons_of {fa : AE} {fr : AA} {ls : Ls} {hp hp1 hp2 : Hd} {d : D} {ds : List D} (e : fa ls hp = some (d, hp1)) (e2 : fr ls hp1 = some (ds, hp2)) : mCons fa fr ls hp = some (d :: ds, hp2) := by
  rw [mCons_s, e]
  dsimp only
  rw [e2]
theorem tup_of {fr : AA} {ls : Ls} {hp hp1 : Hd} {ds : List D} (e : fr ls hp = some (ds, hp1)) (h : ds.length ≤ 1000) : mTup fr ls hp = some (.tup ds, hp1) := by
  rw [mTup_s, e]
  dsimp only
  rw [if_pos (by rw [sizeLine_eq]; omega)]
theorem m2_ev {fa fb : AE} {g : D → D → Hd → Option (D × Hd)} {ls : Ls} {hp hp1 hp2 : Hd} {a b : D} {r : Option (D × Hd)} (e1 : fa ls hp = some (a, hp1)) (e2 : fb ls hp1 = some (b, hp2)) (e3 : g a b hp2 = r) : m2 fa fb g ls hp = r := (m2_of e1 e2).trans e3
theorem mC_of {d : D} {ls : Ls} {hp : Hd} : mC d ls hp = some (d, hp) := rfl
theorem nil_of {ls : Ls} {hp : Hd} : mNil ls hp = some ([], hp) := rfl
theorem lst_of {fr : AA} {ls : Ls} {hp hp1 : Hd} {ds : List D} (e : fr ls hp = some (ds, hp1)) (h : ds.length ≤ 1000) : mLst fr ls hp = some (ds, hp1) := by
  rw [mLst_s, e]
  dsimp only
  rw [if_pos (by rw [sizeLine_eq]; omega)]
theorem not_of {ft : AT} {ls : Ls} {hp hp1 : Hd} {b : Bool} (e : ft ls hp = some (b, hp1)) : mNot ft ls hp = some (!b, hp1) := by
  rw [mNot_s, e]
theorem m1_ev {fa : AE} {g : D → Hd → Option (D × Hd)} {ls : Ls} {hp hp1 : Hd} {a : D} {r : Option (D × Hd)} (e1 : fa ls hp = some (a, hp1)) (e3 : g a hp1 = r) : m1 fa g ls hp = r := by
  rw [m1_s, e1]
  exact e3
theorem met_of {ck : D → Hd → Bool} {fa : AE} {fr : AA} {g : D → List D → Hd → Option (D × Hd)} {ls : Ls} {hp hp1 hp2 : Hd} {x : D} {ds : List D} {r : Option (D × Hd)} (e : fa ls hp = some (x, hp1)) (c : ck x hp1 = true) (e1 : fr ls hp1 = some (ds, hp2)) (e2 : g x ds hp2 = r) : mMet ck fa fr g ls hp = r := by
  rw [mMet_s, e]
  dsimp only
  rw [if_pos c, e1]
  exact e2
theorem c1V_of {m : List D → Hd → Option (D × Hd)} {ds : List D} {hp : Hd} {n : Nat} {o o' : O} {d : D} {g : Hd} (e : hp[n]? = some o) (hn : nrs ds = true) (ho : nrO o = true) (em : m (.ref 0 :: ds) [o] = some (d, o' :: g)) (hd : nr d = true) (ho' : nrO o' = true) : c1V m (.ref n :: ds) hp = some (d, hp.set n o') := by
  unfold c1V
  dsimp only
  rw [e]
  dsimp only
  rw [if_pos (by rw [hn, ho]; rfl), em]
  dsimp only
  rw [if_pos (by rw [hd, ho']; rfl)]
theorem range_at {m : Nat} {d r : List Nat} {x : Nat} (h : List.range m = d ++ x :: r) : x = d.length ∧ d.length < m := by
  have hl : d.length < m := by
    have := congrArg List.length h
    rw [List.length_range, List.length_append, List.length_cons] at this
    omega
  refine ⟨?_, hl⟩
  have e : (List.range m)[d.length]? = (d ++ x :: r)[d.length]? := by rw [h]
  rw [List.getElem?_range hl, List.getElem?_append_right (Nat.le_refl _), Nat.sub_self] at e
  exact (Option.some.inj e).symm
abbrev Sd := Nat × Nat
def pI (p : Sd) : List Int := [(p.1 : Int), (p.2 : Int)]
theorem pI_inj {p q : Sd} (h : pI p = pI q) : p = q := by
  unfold pI at h
  simp only [List.cons.injEq, and_true] at h
  exact Prod.ext (by omega) (by omega)
theorem pI_lt {p q : Sd} : pI p < pI q ↔ p.1 < q.1 ∨ (p.1 = q.1 ∧ p.2 < q.2) := by
  unfold pI
  rw [List.cons_lt_cons_iff, List.cons_lt_cons_iff]
  simp only [List.not_lt_nil, and_false, or_false]
  omega
def sds (n : Nat) : List Sd := (List.range n).flatMap fun f => (List.range 4).map fun i => (f, i)
theorem mem_sds {n : Nat} {p : Sd} : p ∈ sds n ↔ p.1 < n ∧ p.2 < 4 := by
  unfold sds
  rw [List.mem_flatMap]
  constructor
  · rintro ⟨f, hf, h⟩
    obtain ⟨i, hi, rfl⟩ := List.mem_map.mp h
    exact ⟨List.mem_range.mp hf, List.mem_range.mp hi⟩
  · intro ⟨h1, h2⟩
    exact ⟨p.1, List.mem_range.mpr h1, List.mem_map.mpr ⟨p.2, List.mem_range.mpr h2, rfl⟩⟩
theorem sds_succ (n : Nat) : sds (n + 1) = sds n ++ (List.range 4).map fun i => (n, i) := by
  unfold sds
  rw [List.range_succ (n := n), List.flatMap_append]
  simp
theorem sds_length : ∀ n, (sds n).length = 4 * n
  | 0 => rfl
  | n + 1 => by
    rw [sds_succ, List.length_append, sds_length n, List.length_map, List.length_range]
    omega
theorem sds_nodup : ∀ n, (sds n).Nodup
  | 0 => List.nodup_nil
  | n + 1 => by
    rw [sds_succ]
    refine List.nodup_append.mpr ⟨sds_nodup n, by simp [List.range_succ], fun a ha b hb e => ?_⟩
    subst e
    obtain ⟨i, _, rfl⟩ := List.mem_map.mp hb
    have := (mem_sds.mp ha).1
    simp at this
theorem filter_two {l : List Sd} (nd : l.Nodup) {p q : Sd → Bool} {a b : Sd} (ha : a ∈ l) (hb : b ∈ l) (hab : a ≠ b) (pa : p a = true) (pb : p b = true) (hq : ∀ x ∈ l, q x = true ↔ (p x = true ∧ x ≠ a ∧ x ≠ b)) :
    (l.filter q).length + 2 = (l.filter p).length := by
  have n1 : (a :: b :: l.filter q).Nodup := by
    refine List.nodup_cons.mpr ⟨fun h => ?_, List.nodup_cons.mpr ⟨fun h => ?_, nd.filter _⟩⟩
    · rcases List.mem_cons.mp h with h | h
      · exact hab h
      · have := List.mem_filter.mp h
        exact ((hq a this.1).mp this.2).2.1 rfl
    · have := List.mem_filter.mp h
      exact ((hq b this.1).mp this.2).2.2 rfl
  have n2 : (l.filter p).Nodup := nd.filter _
  have m : ∀ x, x ∈ a :: b :: l.filter q ↔ x ∈ l.filter p := fun x => by
    rw [List.mem_cons, List.mem_cons, List.mem_filter, List.mem_filter]
    constructor
    · rintro (rfl | rfl | ⟨h1, h2⟩)
      · exact ⟨ha, pa⟩
      · exact ⟨hb, pb⟩
      · exact ⟨h1, ((hq x h1).mp h2).1⟩
    · intro ⟨h1, h2⟩
      by_cases e1 : x = a
      · exact .inl e1
      · by_cases e2 : x = b
        · exact .inr (.inl e2)
        · exact .inr (.inr ⟨h1, (hq x h1).mpr ⟨h2, e1, e2⟩⟩)
  have l1 := nodup_len n1 fun x hx => (m x).mp hx
  have l2 := nodup_len n2 fun x hx => (m x).mpr hx
  simp only [List.length_cons] at l1 l2
  omega
abbrev PJ := Nat → Nat → Option Sd
def oD : Option Sd → D
  | none => .non
  | some p => T (pI p)
def prow (P : PJ) (f : Nat) : List D := (List.range 4).map fun i => oD (P f i)
def opn (P : PJ) (m : Nat) : List Sd := (sds m).filter fun p => (P p.1 p.2).isNone
theorem mem_opn {P : PJ} {m : Nat} {p : Sd} : p ∈ opn P m ↔ (p.1 < m ∧ p.2 < 4) ∧ P p.1 p.2 = none := by
  unfold opn
  rw [List.mem_filter, mem_sds, Option.isNone_iff_eq_none]
theorem opn_nodup (P : PJ) (m : Nat) : (opn P m).Nodup := (sds_nodup m).filter _
theorem opn_le (P : PJ) (m : Nat) : (opn P m).length ≤ 4 * m := by
  have := List.length_filter_le (fun p : Sd => (P p.1 p.2).isNone) (sds m)
  rw [sds_length] at this
  exact this
def upd1 (P : PJ) (a : Sd) (v : Option Sd) : PJ := fun f i => if (f, i) = a then v else P f i
theorem prow_len (P : PJ) (f : Nat) : (prow P f).length = 4 := by simp [prow]
theorem prow_at (P : PJ) (f : Nat) {i : Nat} (h : i < 4) : (prow P f)[i]? = some (oD (P f i)) := by simp [prow, h]
theorem prow_set (P : PJ) (a : Sd) (v : Option Sd) : (prow P a.1).set a.2 (oD v) = prow (upd1 P a v) a.1 := by
  refine List.ext_getElem? fun k => ?_
  rw [List.getElem?_set, prow_len]
  by_cases hk : k < 4
  · rw [prow_at _ _ hk, prow_at _ _ hk]
    by_cases e : a.2 = k
    · subst e
      rw [if_pos rfl, if_pos hk]
      show _ = some (oD (if (a.1, a.2) = a then v else P a.1 a.2))
      rw [if_pos rfl]
    · rw [if_neg e]
      show _ = some (oD (if (a.1, k) = a then v else P a.1 k))
      rw [if_neg (fun z => e (by rw [← z]))]
  · have h1 : (prow P a.1)[k]? = none := List.getElem?_eq_none (by rw [prow_len]; omega)
    have h2 : (prow (upd1 P a v) a.1)[k]? = none := List.getElem?_eq_none (by rw [prow_len]; omega)
    rw [h1, h2]
    split
    · rw [if_neg (by omega)]
    · rfl
theorem prow_ne (P : PJ) {a : Sd} (v : Option Sd) {f : Nat} (h : f ≠ a.1) : prow (upd1 P a v) f = prow P f := by
  unfold prow
  congr 1
  funext i
  show oD (if (f, i) = a then v else P f i) = _
  rw [if_neg (fun z => h (by rw [← z]))]
structure RowsAt (hp : Hd) (r0 R n : Nat) (P : PJ) : Prop where
  lst : hp[R]? = some (.lst ((List.range n).map fun f => D.ref (r0 + f)))
  row : ∀ f, f < n → hp[r0 + f]? = some (.lst (prow P f))
theorem RowsAt.old {hp l : Hd} {r0 R n : Nat} {P : PJ} (h : RowsAt hp r0 R n P) : RowsAt (hp ++ l) r0 R n P := ⟨hget_old h.lst, fun f hf => hget_old (h.row f hf)⟩
theorem RowsAt.set {hp : Hd} {r0 R n k : Nat} {P : PJ} {o : O} (h : RowsAt hp r0 R n P) (hR : k ≠ R) (hr : ∀ f, f < n → k ≠ r0 + f) : RowsAt (hp.set k o) r0 R n P := ⟨hset_ne hR h.lst, fun f hf => hset_ne (hr f hf) (h.row f hf)⟩
theorem RowsAt.put {hp : Hd} {r0 R n : Nat} {P : PJ} (h : RowsAt hp r0 R n P) {a : Sd} (v : Option Sd) (ha : a.1 < n) (hR : r0 + a.1 ≠ R) : RowsAt (hp.set (r0 + a.1) (.lst ((prow P a.1).set a.2 (oD v)))) r0 R n (upd1 P a v) := by
  refine ⟨hset_ne hR h.lst, fun f hf => ?_⟩
  by_cases e : f = a.1
  · subst e
    rw [hset_same (h.row _ hf), prow_set]
  · rw [prow_ne P v e]
    exact hset_ne (by omega) (h.row f hf)
theorem RowsAt.at_ {hp : Hd} {r0 R n f : Nat} {P : PJ} (h : RowsAt hp r0 R n P) (hf : f < n) : gIx (.ref R) (.int (f : Nat)) hp = some (.ref (r0 + f), hp) :=
  gIx_refN (j := f) h.lst (x := .ref (r0 + f)) (by rw [List.getElem?_map, List.getElem?_range hf]; rfl)
theorem gIs_oD (x : Option Sd) (hp : Hd) : gIs (oD x) .non hp = some (.bl x.isNone, hp) := by cases x <;> rfl
def opnL (P : PJ) (d : List Nat) : List Sd := d.flatMap fun f => ((List.range 4).filter fun i => (P f i).isNone).map fun i => (f, i)
theorem opnL_range (P : PJ) (m : Nat) : opnL P (List.range m) = opn P m := by
  unfold opnL opn sds
  rw [List.filter_flatMap]
  congr 1
  funext f
  rw [List.filter_map]
  rfl
theorem opnL_len (P : PJ) (d : List Nat) : (opnL P d).length ≤ 4 * d.length := by
  induction d with
  | nil => exact Nat.zero_le _
  | cons x d ih =>
    have := List.length_filter_le (fun i => (P x i).isNone) (List.range 4)
    rw [List.length_range] at this
    unfold opnL at *
    rw [List.flatMap_cons, List.length_append, List.length_map, List.length_cons]
    omega
def upJ (P : PJ) (a b : Sd) : PJ := fun f i => if (f, i) = a then some b else if (f, i) = b then some a else P f i
theorem upJ_a (P : PJ) (a b : Sd) : upJ P a b a.1 a.2 = some b := if_pos rfl
theorem upJ_b (P : PJ) {a b : Sd} (h : a ≠ b) : upJ P a b b.1 b.2 = some a := by
  unfold upJ
  rw [if_neg (fun z => h z.symm), if_pos rfl]
theorem upJ_o (P : PJ) {a b p : Sd} (h1 : p ≠ a) (h2 : p ≠ b) : upJ P a b p.1 p.2 = P p.1 p.2 := by
  unfold upJ
  rw [if_neg h1, if_neg h2]
theorem upd_two (P : PJ) {a b : Sd} (h : a ≠ b) : upd1 (upd1 P a (some b)) b (some a) = upJ P a b := by
  funext f i
  unfold upd1 upJ
  by_cases e1 : (f, i) = a
  · rw [if_neg (fun z => h (e1.symm.trans z)), if_pos e1, if_pos e1]
  · rw [if_neg e1, if_neg e1]
theorem RowsAt.two {hp : Hd} {r0 R n : Nat} {P : PJ} (h : RowsAt hp r0 R n P) {a b : Sd} (hab : a ≠ b) (ha : a.1 < n) (hb : b.1 < n) (hR : ∀ f, f < n → r0 + f ≠ R) (ha2 : a.2 < 4) (hb2 : b.2 < 4) :
    ∃ hp1 hp2, gSet (.ref (r0 + a.1)) (.int (a.2 : Nat)) (T (pI b)) hp = some hp1 ∧ RowsAt hp1 r0 R n (upd1 P a (some b)) ∧ gSet (.ref (r0 + b.1)) (.int (b.2 : Nat)) (T (pI a)) hp1 = some hp2 ∧ RowsAt hp2 r0 R n (upJ P a b) ∧ (∀ k, (∀ f, f < n → k ≠ r0 + f) → hp2[k]? = hp[k]?) ∧ hp2.length = hp.length := by
  have h1 := h.put (some b) ha (hR _ ha)
  have h2 := h1.put (some a) hb (hR _ hb)
  rw [upd_two P hab] at h2
  refine ⟨_, _, gSet_nat (h.row _ ha) (by rw [prow_len]; exact ha2), h1, gSet_nat (h1.row _ hb) (by rw [prow_len]; exact hb2), h2, fun k hk => ?_, by rw [List.length_set, List.length_set]⟩
  rw [List.getElem?_set_ne (Ne.symm (hk _ hb)), List.getElem?_set_ne (Ne.symm (hk _ ha))]
theorem opn_up {P : PJ} {m : Nat} {a b : Sd} (ha : a ∈ opn P m) (hb : b ∈ opn P m) (hab : a ≠ b) : (opn (upJ P a b) m).length + 2 = (opn P m).length := by
  obtain ⟨a1, a2⟩ := mem_opn.mp ha
  obtain ⟨b1, b2⟩ := mem_opn.mp hb
  refine filter_two (sds_nodup m) (mem_sds.mpr a1) (mem_sds.mpr b1) hab (by rw [a2]; rfl) (by rw [b2]; rfl) fun x _ => ?_
  by_cases e1 : x = a
  · subst e1
    rw [upJ_a]
    simp
  · by_cases e2 : x = b
    · subst e2
      rw [upJ_b P hab]
      simp
    · rw [upJ_o P e1 e2]
      simp [e1, e2]
theorem opn_succ {P : PJ} {m : Nat} (h : ∀ i, P m i = none) : (opn P (m + 1)).length = (opn P m).length + 4 := by
  unfold opn
  have e : ((List.range 4).map fun i => (m, i)).filter (fun p : Sd => (P p.1 p.2).isNone) = (List.range 4).map fun i => (m, i) := List.filter_eq_self.mpr (fun x hx => by
    obtain ⟨i, _, rfl⟩ := List.mem_map.mp hx
    rw [h i]
    rfl)
  rw [sds_succ, List.filter_append, List.length_append, e, List.length_map, List.length_range]
def PM (n : Nat) (P : PJ) : Prop := ∀ f i p, f < n → i < 4 → P f i = some p → p.1 < n ∧ p.2 < 4 ∧ P p.1 p.2 = some (f, i) ∧ p ≠ (f, i)
theorem PM.up {n : Nat} {P : PJ} {a b : Sd} (h : PM n P) (hab : a ≠ b) (ha : a ∈ opn P n) (hb : b ∈ opn P n) : PM n (upJ P a b) := by
  obtain ⟨a1, a2⟩ := mem_opn.mp ha
  obtain ⟨b1, b2⟩ := mem_opn.mp hb
  intro f i p hf hi e
  by_cases e1 : (f, i) = a
  · have e2 : upJ P a b f i = some b := if_pos e1
    rw [e2] at e
    cases e
    exact ⟨b1.1, b1.2, by rw [upJ_b P hab, e1], fun z => hab (z.trans e1).symm⟩
  · by_cases e2 : (f, i) = b
    · subst e2
      have e3 : upJ P a (f, i) f i = some a := upJ_b P hab
      rw [e3] at e
      cases e
      exact ⟨a1.1, a1.2, by rw [upJ_a], fun z => hab z⟩
    · have e3 : upJ P a b f i = P f i := upJ_o P (p := (f, i)) e1 e2
      rw [e3] at e
      obtain ⟨h1, h2, h3, h4⟩ := h f i p hf hi e
      refine ⟨h1, h2, ?_, h4⟩
      rw [upJ_o P (fun z => by rw [z, a2] at h3; cases h3) (fun z => by rw [z, b2] at h3; cases h3), h3]
def Lnk (m : Nat) (P : PJ) : Prop := ∀ f, 0 < f → f < m → ∃ i p, i < 4 ∧ P f i = some p ∧ p.1 < f
theorem Lnk.up {m : Nat} {P : PJ} {a b : Sd} (h : Lnk m P) (ha : P a.1 a.2 = none) (hb : P b.1 b.2 = none) : Lnk m (upJ P a b) := fun f h0 hf => by
  obtain ⟨i, p, hi, e, hp⟩ := h f h0 hf
  exact ⟨i, p, hi, by rw [upJ_o P (p := (f, i)) (fun z => by rw [← z] at ha; rw [ha] at e; cases e) (fun z => by rw [← z] at hb; rw [hb] at e; cases e), e], hp⟩
structure Skin (n : Nat) (J : Nat → Nat → Sd) : Prop where
  pos : 0 < n
  rng : ∀ f i, f < n → i < 4 → (J f i).1 < n ∧ (J f i).2 < 4
  inv : ∀ f i, f < n → i < 4 → J (J f i).1 (J f i).2 = (f, i)
  ne : ∀ f i, f < n → i < 4 → J f i ≠ (f, i)
  con : ∀ S : Nat → Prop, S 0 → (∀ f i, f < n → i < 4 → S f → S (J f i).1) → ∀ f, f < n → S f
def endJ (P : PJ) : Nat → Nat → Sd := fun f i => (P f i).getD (0, 0)
theorem skin_of {n : Nat} {P : PJ} (h0 : 0 < n) (h : PM n P) (hl : Lnk n P) (hn : opn P n = []) : Skin n (endJ P) := by
  have all : ∀ f i, f < n → i < 4 → P f i = some (endJ P f i) := fun f i hf hi => by
    cases e : P f i with
    | none =>
      have : (f, i) ∈ opn P n := mem_opn.mpr ⟨⟨hf, hi⟩, e⟩
      rw [hn] at this
      cases this
    | some p => simp [endJ, e]
  refine ⟨h0, fun f i hf hi => ?_, fun f i hf hi => ?_, fun f i hf hi => ?_, fun S s0 cl f => ?_⟩
  · obtain ⟨h1, h2, _, _⟩ := h f i _ hf hi (all f i hf hi)
    exact ⟨h1, h2⟩
  · obtain ⟨h1, h2, h3, _⟩ := h f i _ hf hi (all f i hf hi)
    have := all _ _ h1 h2
    rw [h3] at this
    exact (Option.some.inj this).symm
  · exact (h f i _ hf hi (all f i hf hi)).2.2.2
  · induction f using Nat.strongRecOn with
    | ind f ih =>
      intro hf
      by_cases h0' : f = 0
      · rw [h0']; exact s0
      · obtain ⟨i, p, hi, e, hp⟩ := hl f (by omega) hf
        obtain ⟨h1, h2, h3, _⟩ := h f i p hf hi e
        have q := cl p.1 p.2 h1 h2 (ih p.1 hp h1)
        rw [show endJ P p.1 p.2 = (f, i) by unfold endJ; rw [h3]; rfl] at q
        exact q
def rowI (J : Nat → Nat → Sd) (f : Nat) : List (List Int) := (List.range 4).map fun i => pI (J f i)
def skI (n : Nat) (J : Nat → Nat → Sd) : List (List (List Int)) := (List.range n).map (rowI J)
def skD (n : Nat) (J : Nat → Nat → Sd) : D := TTT (skI n J)
theorem skD_tup (n : Nat) (J : Nat → Nat → Sd) : skD n J = .tup ((List.range n).map fun f => TT (rowI J f)) := by
  unfold skD TTT skI
  rw [List.map_map]
  rfl
theorem rowI_tup (J : Nat → Nat → Sd) (f : Nat) : TT (rowI J f) = .tup ((List.range 4).map fun i => T (pI (J f i))) := by
  unfold TT rowI
  rw [List.map_map]
  rfl
theorem nr_sk (n : Nat) (J : Nat → Nat → Sd) : nr (skD n J) = true := nr_TTT _
section
variable {n : Nat} {J : Nat → Nat → Sd} {hp : Hd} {f i : Nat}
theorem gIx_sk (h : f < n) : gIx (skD n J) (.int (f : Nat)) hp = some (TT (rowI J f), hp) := by
  rw [skD_tup]
  exact gIx_tupN (by simp [h])
theorem gIx_row (h : i < 4) : gIx (TT (rowI J f)) (.int (i : Nat)) hp = some (T (pI (J f i)), hp) := by
  rw [rowI_tup]
  exact gIx_tupN (by simp [h])
theorem gLen_sk : gLen [skD n J] hp = some (.int (n : Nat), hp) := by
  rw [skD_tup]
  show some (D.int (((List.range n).map fun f => TT (rowI J f)).length : Nat), hp) = _
  rw [List.length_map, List.length_range]
end
theorem enumD_range (g : Nat → D) (n : Nat) : enumD ((List.range n).map g) = (List.range n).map fun k => D.tup [.int (k : Nat), g k] := by
  refine List.ext_getElem? fun k => ?_
  simp only [enumD, List.getElem?_map, List.getElem?_zipIdx]
  by_cases h : k < n
  · simp [h]
  · simp [h]
theorem mEnum_sk {fa : AE} {ls : Ls} {hp hp1 : Hd} {n : Nat} {J : Nat → Nat → Sd} (e : fa ls hp = some (skD n J, hp1)) : mEnum fa ls hp = some ((List.range n).map fun f => D.tup [.int (f : Nat), TT (rowI J f)], [], hp1) := by
  rw [skD_tup] at e
  rw [mEnum_tup e, enumD_range]
def sms (n : Nat) (J : Nat → Nat → Sd) : List Sd := (sds n).filter fun p => decide (pI p < pI (J p.1 p.2))
theorem mem_sms {n : Nat} {J : Nat → Nat → Sd} {p : Sd} : p ∈ sms n J ↔ (p.1 < n ∧ p.2 < 4) ∧ pI p < pI (J p.1 p.2) := by
  unfold sms
  rw [List.mem_filter, mem_sds, decide_eq_true_eq]
theorem sms_nodup (n : Nat) (J : Nat → Nat → Sd) : (sms n J).Nodup := (sds_nodup n).filter _
theorem Skin.sms_length {n : Nat} {J : Nat → Nat → Sd} (h : Skin n J) : (sms n J).length = 2 * n := by
  let A := sms n J
  let B := (sds n).filter fun p => !decide (pI p < pI (J p.1 p.2))
  have hAB : A.length + B.length = 4 * n := by
    rw [← sds_length n]
    show ((sds n).filter fun p => decide (pI p < pI (J p.1 p.2))).length + ((sds n).filter fun p => !decide (pI p < pI (J p.1 p.2))).length = _
    induction sds n with
    | nil => rfl
    | cons x l ih =>
      rw [List.filter_cons, List.filter_cons]
      by_cases q : pI x < pI (J x.1 x.2)
      · simp [q] at ih ⊢
        omega
      · simp [q] at ih ⊢
        omega
  let g : Sd → Sd := fun p => J p.1 p.2
  have inj : ∀ {l : List Sd}, l.Nodup → (∀ x ∈ l, x ∈ sds n) → (l.map g).Nodup := by
    intro l hl hm
    refine List.Pairwise.map g (R := fun a b => a ∈ l ∧ b ∈ l ∧ a ≠ b) (fun a b ⟨ha, hb, hab⟩ e => hab ?_) ?_
    · have ha := mem_sds.mp (hm a ha)
      have hb := mem_sds.mp (hm b hb)
      have e1 := h.inv a.1 a.2 ha.1 ha.2
      have e2 := h.inv b.1 b.2 hb.1 hb.2
      have e3 : J a.1 a.2 = J b.1 b.2 := e
      rw [e3, e2] at e1
      exact e1.symm
    · exact List.Pairwise.imp_of_mem (fun ha hb hab => ⟨ha, hb, hab⟩) hl
  have memA : ∀ x ∈ A, x ∈ sds n := fun x hx => (List.mem_filter.mp hx).1
  have memB : ∀ x ∈ B, x ∈ sds n := fun x hx => (List.mem_filter.mp hx).1
  have l1 : A.length ≤ B.length := by
    have := nodup_len (inj (sms_nodup n J) memA) (m := B) fun y hy => by
      obtain ⟨x, hx, rfl⟩ := List.mem_map.mp hy
      obtain ⟨⟨h1, h2⟩, h3⟩ := mem_sms.mp hx
      obtain ⟨r1, r2⟩ := h.rng x.1 x.2 h1 h2
      refine List.mem_filter.mpr ⟨mem_sds.mpr ⟨r1, r2⟩, ?_⟩
      show (!decide (pI (J x.1 x.2) < pI (J (J x.1 x.2).1 (J x.1 x.2).2))) = true
      rw [h.inv x.1 x.2 h1 h2]
      rw [pI_lt] at h3
      simp only [Bool.not_eq_true', decide_eq_false_iff_not, pI_lt]
      omega
    rwa [List.length_map] at this
  have l2 : B.length ≤ A.length := by
    have := nodup_len (inj ((sds_nodup n).filter _) memB) (m := A) fun y hy => by
      obtain ⟨x, hx, rfl⟩ := List.mem_map.mp hy
      obtain ⟨hs, h3⟩ := List.mem_filter.mp hx
      obtain ⟨h1, h2⟩ := mem_sds.mp hs
      obtain ⟨r1, r2⟩ := h.rng x.1 x.2 h1 h2
      refine mem_sms.mpr ⟨⟨r1, r2⟩, ?_⟩
      show pI (J x.1 x.2) < pI (J (J x.1 x.2).1 (J x.1 x.2).2)
      rw [h.inv x.1 x.2 h1 h2]
      have hne := h.ne x.1 x.2 h1 h2
      simp only [Bool.not_eq_true', decide_eq_false_iff_not, pI_lt] at h3
      rw [pI_lt]
      have : ¬ ((J x.1 x.2).1 = x.1 ∧ (J x.1 x.2).2 = x.2) := fun ⟨z1, z2⟩ => hne (Prod.ext z1 z2)
      show (J x.1 x.2).1 < x.1 ∨ (J x.1 x.2).1 = x.1 ∧ (J x.1 x.2).2 < x.2
      omega
    rwa [List.length_map] at this
  show A.length = 2 * n
  omega
end Ve
namespace Ve
open PySem PySem.Spec L2
end Ve
namespace Ve
open PySem PySem.Spec L2
def joinG (L : List Int) (a b : Nat) : List Int := L.map fun z => if z = max (L.getD a 0) (L.getD b 0) then min (L.getD a 0) (L.getD b 0) else z
theorem joinG_len (L : List Int) (a b : Nat) : (joinG L a b).length = L.length := by unfold joinG; rw [List.length_map]
def smAt (n : Nat) (J : Nat → Nat → Sd) (k : Int) : Sd := (sms n J).getD k.toNat (0, 0)
def grpS (n : Nat) (J : Nat → Nat → Sd) (L : List Int) (k : Int) : List Int := joinG L (smAt n J k).1 (J (smAt n J k).1 (smAt n J k).2).1
theorem smAt_mem {n : Nat} {J : Nat → Nat → Sd} {k : Int} (h : 0 ≤ k ∧ k < (sms n J).length) : smAt n J k ∈ sms n J := by
  unfold smAt
  rw [List.getD_eq_getElem?_getD, List.getElem?_eq_getElem (by omega)]
  exact List.getElem_mem _
end Ve
namespace Ve
open PySem PySem.Spec L2
def manyB (n : Nat) (J : Nat → Nat → Sd) (ks L : List Int) (lot : Int) : Nat := (ks.filter fun k => L.getD (smAt n J k).1 0 == lot).length
theorem seq_ret {f g : AS} {ls ls' : Ls} {hp hp' : Hd} {d : D} (e : f ls hp = some (.rt d, ls', hp')) : sSeq f g ls hp = some (.rt d, ls', hp') := by
  rw [sSeq_s, e]
end Ve
namespace Ve
open PySem PySem.Spec L2
theorem mList_ev {fa : AE} {ls : Ls} {hp hp1 : Hd} {d : D} {r : Option (List D × Hd)} (e : fa ls hp = some (d, hp1)) (e2 : gListO d hp1 = r) : mList fa ls hp = r := by
  rw [mList_s, e]
  exact e2
end Ve
namespace Ve
open PySem PySem.Spec L2
theorem or_f {fa fb : AT} {ls : Ls} {hp hp1 : Hd} {r : Option (Bool × Hd)} (e : fa ls hp = some (false, hp1)) (e2 : fb ls hp1 = r) : mOr fa fb ls hp = r := by
  rw [mOr_s2, e]
  exact e2
end Ve
namespace Ve
open PySem PySem.Spec L2
theorem all_cons {α : Type} {P : α → Prop} {x : α} {l : List α} (h1 : P x) (h2 : ∀ y ∈ l, P y) : ∀ y ∈ x :: l, P y := fun y hy => by
  rcases List.mem_cons.mp hy with z | z
  · rw [z]; exact h1
  · exact h2 y z
theorem all_nil {α : Type} {P : α → Prop} : ∀ y ∈ ([] : List α), P y := fun y hy => by cases hy
end Ve
namespace Ve
open PySem PySem.Spec L2
end Ve
namespace Ve
open PySem PySem.Spec L2
theorem mIL_ev {fl : AA} {ls : Ls} {hp hp1 : Hd} {ds : List D} (e : fl ls hp = some (ds, hp1)) : mIL fl ls hp = some (ds, [], hp1) := by
  rw [mIL_s, e]
end Ve
namespace L2
open PySem PySem.Spec PyProof.Rows
def EnS (h : Heap) (e it : Addr) (i : Nat) : Prop := (∃ old, IsEnum h e it ((i : Nat) : Int) old) ∨ ∃ old T f oT, PySem.IsEnumHeld h e it ((i : Nat) : Int) old T f ∧ h.get? T = some oT ∧ T ≠ e ∧ T ≠ it
theorem EnS.keep {h h' : Heap} {e it : Addr} {i : Nat} (x : EnS h e it i) (k : ∀ b o, b = e ∨ b = it → h.get? b = some o → h'.get? b = some o) (there : ∀ b o, h.get? b = some o → ∃ u, h'.get? b = some u) : EnS h' e it i := by
  rcases x with ⟨old, he⟩ | ⟨old, T, f, oT, he, hT, r1, r2⟩
  · exact .inl ⟨old, k _ _ (.inl rfl) he⟩
  · obtain ⟨u, hu⟩ := there T oT hT
    exact .inr ⟨old, T, f, u, k _ _ (.inl rfl) he, hu, r1, r2⟩
theorem EnS.get {h : Heap} {e it : Addr} {i : Nat} (x : EnS h e it i) : ∃ o, h.get? e = some o ∧ o.cls = .type "enumerate" := by
  rcases x with ⟨old, he⟩ | ⟨old, T, f, oT, he, _⟩
  · exact ⟨_, he, rfl⟩
  · exact ⟨_, he, rfl⟩
end L2
namespace L2
open PySem PySem.Spec PyProof.Rows
end L2
namespace Ve
open PySem PySem.Spec L2
theorem Ext.more {μ : List Addr} {H H' : Hp} (keep : ∀ c u, H c = some u → H' c = some u) : Ext μ H μ H' := ⟨⟨[], by simp⟩, fun _ _ n _ => n, fun a u _ e => keep a u e, fun a xs e => keep a _ e, fun a o xs e => keep a _ e⟩
theorem RelH.more {K : PySem.W.Frag} {H H' : Hp} {μ : List Addr} {hp : Hd} (r : RelH K H μ hp) (keep : ∀ c u, H c = some u → H' c = some u) : RelH K H' μ hp :=
  ⟨r.len, r.nd, fun n ob a e1 e2 => by
    have q := r.obj n ob a e1 e2
    obtain ⟨u, e, _⟩ := q.some
    rw [keep a u e, ← e]
    exact q.mon (Ext.more keep).m, r.tabs⟩
end Ve
namespace Ve
open PySem PySem.Spec L2
end Ve
namespace Ve
open PySem PySem.Spec L2
structure Pl where
  x : Int
  y : Int
  t : Int
def dX (k : Int) : Int := if k = 0 then 1 else if k = 2 then -1 else 0
def dY (k : Int) : Int := if k = 1 then 1 else if k = 3 then -1 else 0
def nxt (p : Pl) (i j : Int) : Pl := ⟨p.x + dX ((i + p.t) % 4), p.y + dY ((i + p.t) % 4), ((i + p.t) % 4 + 2 - j) % 4⟩
theorem nxt_t (p : Pl) (i j : Int) : 0 ≤ (nxt p i j).t ∧ (nxt p i j).t < 4 := by
  show 0 ≤ ((i + p.t) % 4 + 2 - j) % 4 ∧ ((i + p.t) % 4 + 2 - j) % 4 < 4
  omega
theorem four {k : Int} (h : 0 ≤ k ∧ k < 4) : k = 0 ∨ k = 1 ∨ k = 2 ∨ k = 3 := by omega
theorem nxt_back {p : Pl} {i j : Int} (hp : 0 ≤ p.t ∧ p.t < 4) (hi : 0 ≤ i ∧ i < 4) (hj : 0 ≤ j ∧ j < 4) : nxt (nxt p i j) j i = p := by
  obtain ⟨x, y, t⟩ := p
  obtain ⟨k, hk⟩ : ∃ k, (i + t) % 4 = k := ⟨_, rfl⟩
  have hk2 : (j + (k + 2 - j) % 4) % 4 = (k + 2) % 4 := by omega
  show Pl.mk (x + dX ((i + t) % 4) + dX ((j + ((i + t) % 4 + 2 - j) % 4) % 4)) (y + dY ((i + t) % 4) + dY ((j + ((i + t) % 4 + 2 - j) % 4) % 4)) (((j + ((i + t) % 4 + 2 - j) % 4) % 4 + 2 - i) % 4) = ⟨x, y, t⟩
  rw [hk, hk2]
  have ht : ((k + 2) % 4 + 2 - i) % 4 = t := by
    dsimp only at hp
    omega
  rw [ht]
  rcases four (show 0 ≤ k ∧ k < 4 by omega) with rfl | rfl | rfl | rfl <;> simp [dX, dY] <;> omega
def mo (r a b : Int) (p : Pl) : Pl := if r = 0 then ⟨p.x + a, p.y + b, p.t⟩ else if r = 1 then ⟨-p.y + a, p.x + b, (p.t + 1) % 4⟩ else if r = 2 then ⟨-p.x + a, -p.y + b, (p.t + 2) % 4⟩ else ⟨p.y + a, -p.x + b, (p.t + 3) % 4⟩
theorem mo_t {r a b : Int} {p : Pl} (h : 0 ≤ p.t ∧ p.t < 4) : 0 ≤ (mo r a b p).t ∧ (mo r a b p).t < 4 := by
  unfold mo
  split
  · exact h
  · split
    · dsimp only; omega
    · split <;> (dsimp only; omega)
theorem nxt_mo {r a b i j : Int} {p : Pl} (hr : 0 ≤ r ∧ r < 4) : nxt (mo r a b p) i j = mo r a b (nxt p i j) := by
  obtain ⟨x, y, t⟩ := p
  obtain ⟨k, hk⟩ : ∃ k, (i + t) % 4 = k := ⟨_, rfl⟩
  have k4 : 0 ≤ k ∧ k < 4 := by omega
  have key : ∀ x' y' t', nxt ⟨x', y', t'⟩ i j = ⟨x' + dX ((i + t') % 4), y' + dY ((i + t') % 4), ((i + t') % 4 + 2 - j) % 4⟩ := fun _ _ _ => rfl
  rcases four hr with rfl | rfl | rfl | rfl
  · simp only [mo, if_true, key]
    congr 1 <;> omega
  · have e : (i + (t + 1) % 4) % 4 = (k + 1) % 4 := by omega
    simp only [mo, key, hk, e, show ¬ ((1 : Int) = 0) by decide, if_false, if_true]
    have e2 : ((k + 1) % 4 + 2 - j) % 4 = ((k + 2 - j) % 4 + 1) % 4 := by omega
    rw [e2]
    rcases four k4 with rfl | rfl | rfl | rfl <;> simp [dX, dY] <;> omega
  · have e : (i + (t + 2) % 4) % 4 = (k + 2) % 4 := by omega
    simp only [mo, key, hk, e, show ¬ ((2 : Int) = 0) by decide, show ¬ ((2 : Int) = 1) by decide, if_false, if_true]
    have e2 : ((k + 2) % 4 + 2 - j) % 4 = ((k + 2 - j) % 4 + 2) % 4 := by omega
    rw [e2]
    rcases four k4 with rfl | rfl | rfl | rfl <;> simp [dX, dY] <;> omega
  · have e : (i + (t + 3) % 4) % 4 = (k + 3) % 4 := by omega
    simp only [mo, key, hk, e, show ¬ ((3 : Int) = 0) by decide, show ¬ ((3 : Int) = 1) by decide, show ¬ ((3 : Int) = 2) by decide, if_false, if_true]
    have e2 : ((k + 3) % 4 + 2 - j) % 4 = ((k + 2 - j) % 4 + 3) % 4 := by omega
    rw [e2]
    rcases four k4 with rfl | rfl | rfl | rfl <;> simp [dX, dY] <;> omega
theorem mo_to {p q : Pl} (hp : 0 ≤ p.t ∧ p.t < 4) (hq : 0 ≤ q.t ∧ q.t < 4) : ∃ r a b, (0 ≤ r ∧ r < 4) ∧ mo r a b p = q := by
  obtain ⟨x, y, t⟩ := p
  obtain ⟨x2, y2, t2⟩ := q
  dsimp only at hp hq
  obtain ⟨r, hr⟩ : ∃ r, (t2 - t) % 4 = r := ⟨_, rfl⟩
  rcases four (show 0 ≤ r ∧ r < 4 by omega) with rfl | rfl | rfl | rfl
  · exact ⟨0, x2 - x, y2 - y, by decide, by simp only [mo, if_true]; congr 1 <;> omega⟩
  · exact ⟨1, x2 + y, y2 - x, by decide, by simp only [mo, show ¬ ((1 : Int) = 0) by decide, if_false, if_true]; congr 1 <;> omega⟩
  · exact ⟨2, x2 + x, y2 + y, by decide, by simp only [mo, show ¬ ((2 : Int) = 0) by decide, show ¬ ((2 : Int) = 1) by decide, if_false, if_true]; congr 1 <;> omega⟩
  · exact ⟨3, x2 - y, y2 + x, by decide, by simp only [mo, show ¬ ((3 : Int) = 0) by decide, show ¬ ((3 : Int) = 1) by decide, show ¬ ((3 : Int) = 2) by decide, if_false]; congr 1 <;> omega⟩
inductive Cn (A : Nat → Nat → Prop) (a : Nat) : Nat → Prop where
  | refl : Cn A a a
  | step {b c : Nat} : Cn A a b → A b c → Cn A a c
theorem Cn.trans {A : Nat → Nat → Prop} {a b c : Nat} (h1 : Cn A a b) (h2 : Cn A b c) : Cn A a c := by
  induction h2 with
  | refl => exact h1
  | step _ hc ih => exact ih.step hc
theorem Cn.symm {A : Nat → Nat → Prop} (hs : ∀ a b, A a b → A b a) {a b : Nat} (h : Cn A a b) : Cn A b a := by
  induction h with
  | refl => exact .refl
  | step _ hc ih => exact Cn.trans (.step .refl (hs _ _ hc)) ih
theorem Cn.mono {A B : Nat → Nat → Prop} (h : ∀ a b, A a b → B a b) {a b : Nat} (c : Cn A a b) : Cn B a b := by
  induction c with
  | refl => exact .refl
  | step _ hc ih => exact ih.step (h _ _ hc)
theorem Cn.closed {A : Nat → Nat → Prop} {a b : Nat} {S : Nat → Prop} (ha : S a) (cl : ∀ x y, S x → A x y → S y) (h : Cn A a b) : S b := by
  induction h with
  | refl => exact ha
  | step _ hc ih => exact cl _ _ ih hc
section
variable {n : Nat} {J : Nat → Nat → Sd}
def oth (J : Nat → Nat → Sd) (p : Sd) : Sd := J p.1 p.2
def Adj (n : Nat) (J : Nat → Nat → Sd) (E : List Int) (b c : Nat) : Prop := ∃ k ∈ E, (b = (smAt n J k).1 ∧ c = (oth J (smAt n J k)).1) ∨ (c = (smAt n J k).1 ∧ b = (oth J (smAt n J k)).1)
theorem Adj.symm {E : List Int} : ∀ a b, Adj n J E a b → Adj n J E b a := fun a b ⟨k, hk, h⟩ => ⟨k, hk, h.symm⟩
def Bes (Pt : Nat → Pl) (J : Nat → Nat → Sd) (p : Sd) : Prop := nxt (Pt p.1) p.2 (oth J p).2 = Pt (oth J p).1
def Inb (n : Nat) (E : List Int) : Prop := ∀ k ∈ E, 0 ≤ k ∧ k < (2 * n : Nat)
structure Frs (n : Nat) (J : Nat → Nat → Sd) (L E : List Int) : Prop where
  len : L.length = n
  inb : Inb n E
  pot : ∃ Pt : Nat → Pl, (∀ f, 0 ≤ (Pt f).t ∧ (Pt f).t < 4) ∧ ∀ k ∈ E, Bes Pt J (smAt n J k)
  same : ∀ k ∈ E, L.getD (smAt n J k).1 0 = L.getD (oth J (smAt n J k)).1 0
  conn : ∀ f g, f < n → g < n → L.getD f 0 = L.getD g 0 → Cn (Adj n J E) f g
theorem Skin.sm (sk : Skin n J) {k : Int} (h : 0 ≤ k ∧ k < (2 * n : Nat)) : (smAt n J k).1 < n ∧ (smAt n J k).2 < 4 ∧ (oth J (smAt n J k)).1 < n ∧ (oth J (smAt n J k)).2 < 4 := by
  have h2 : 0 ≤ k ∧ k < (sms n J).length := by rw [sk.sms_length]; exact h
  obtain ⟨⟨a, b⟩, _⟩ := mem_sms.mp (smAt_mem h2)
  obtain ⟨c, d⟩ := sk.rng _ _ a b
  exact ⟨a, b, c, d⟩
theorem Frs.start (n : Nat) (J : Nat → Nat → Sd) : Frs n J ((List.range n).map fun k : Nat => (k : Int)) [] := by
  have e : ∀ f, f < n → ((List.range n).map fun k : Nat => (k : Int)).getD f 0 = (f : Int) := fun f hf => by
    rw [List.getD_eq_getElem?_getD, List.getElem?_map, List.getElem?_range hf]
    rfl
  refine ⟨by rw [List.length_map, List.length_range], (fun k h => absurd h List.not_mem_nil), ⟨fun _ => ⟨0, 0, 0⟩, (fun _ => (by decide : (0 : Int) ≤ 0 ∧ (0 : Int) < 4)), (fun k h => absurd h List.not_mem_nil)⟩, (fun k h => absurd h List.not_mem_nil), fun f g hf hg h => ?_⟩
  rw [e f hf, e g hg] at h
  have : f = g := by omega
  rw [this]
  exact .refl
def joinL (L : List Int) (a b : Nat) : List Int := L.map fun z => if z = L.getD a 0 then L.getD b 0 else z
theorem joinL_at {L : List Int} {a b f : Nat} (h : f < L.length) : (joinL L a b).getD f 0 = if L.getD f 0 = L.getD a 0 then L.getD b 0 else L.getD f 0 := by
  have e1 : (joinL L a b).getD f 0 = ((joinL L a b)[f]?).getD 0 := List.getD_eq_getElem?_getD
  have e2 : L.getD f 0 = L[f] := by rw [List.getD_eq_getElem?_getD, List.getElem?_eq_getElem h]; rfl
  rw [e1, e2]
  unfold joinL
  rw [List.getElem?_map, List.getElem?_eq_getElem h]
  rfl
theorem Frs.put {L E : List Int} (h : Frs n J L E) (sk : Skin n J) {k : Int} (hk : 0 ≤ k ∧ k < (2 * n : Nat)) (hne : L.getD (smAt n J k).1 0 ≠ L.getD (oth J (smAt n J k)).1 0) : Frs n J (joinL L (smAt n J k).1 (oth J (smAt n J k)).1) (E ++ [k]) := by
  obtain ⟨hf, hi, hg, hj⟩ := sk.sm hk
  obtain ⟨Pt, ht, hb⟩ := h.pot
  have at_ : ∀ a, a < n → (joinL L (smAt n J k).1 (oth J (smAt n J k)).1).getD a 0 = if L.getD a 0 = L.getD (smAt n J k).1 0 then L.getD (oth J (smAt n J k)).1 0 else L.getD a 0 := fun a ha => joinL_at (by rw [h.len]; exact ha)
  have ends : ∀ e ∈ E, (smAt n J e).1 < n ∧ (oth J (smAt n J e)).1 < n := fun e he => let ⟨a, _, b, _⟩ := sk.sm (h.inb e he); ⟨a, b⟩
  obtain ⟨r, a, b, hr, em⟩ := mo_to (ht (smAt n J k).1) (nxt_t (Pt (oth J (smAt n J k)).1) (oth J (smAt n J k)).2 (smAt n J k).2)
  refine ⟨by unfold joinL; rw [List.length_map]; exact h.len, fun e he => ?_, ⟨fun f => if L.getD f 0 = L.getD (smAt n J k).1 0 then mo r a b (Pt f) else Pt f, fun f => ?_, fun e he => ?_⟩, fun e he => ?_, fun f g hf' hg' e => ?_⟩
  · rcases List.mem_append.mp he with z | z
    · exact h.inb e z
    · rw [List.mem_singleton.mp z]; exact hk
  · dsimp only
    split
    · exact mo_t (ht f)
    · exact ht f
  · rcases List.mem_append.mp he with z | z
    · have s := h.same e z
      have q := hb e z
      unfold Bes at q ⊢
      dsimp only
      by_cases c : L.getD (smAt n J e).1 0 = L.getD (smAt n J k).1 0
      · rw [if_pos c, if_pos (s.symm.trans c), nxt_mo hr, q]
      · rw [if_neg c, if_neg (fun z => c (s.trans z)), q]
    · rw [List.mem_singleton.mp z]
      unfold Bes
      dsimp only
      rw [if_pos rfl, if_neg (Ne.symm hne), em]
      exact nxt_back (ht _) (by omega) (by omega)
  · rcases List.mem_append.mp he with z | z
    · obtain ⟨e1, e2⟩ := ends e z
      rw [at_ _ e1, at_ _ e2, h.same e z]
    · rw [List.mem_singleton.mp z, at_ _ hf, at_ _ hg, if_pos rfl, if_neg (Ne.symm hne)]
  · have mono : ∀ x y, Adj n J E x y → Adj n J (E ++ [k]) x y := fun x y ⟨e, he, q⟩ => ⟨e, List.mem_append_left _ he, q⟩
    have edge : Cn (Adj n J (E ++ [k])) (smAt n J k).1 (oth J (smAt n J k)).1 := .step .refl ⟨k, by simp, .inl ⟨rfl, rfl⟩⟩
    rw [at_ f hf', at_ g hg'] at e
    by_cases c1 : L.getD f 0 = L.getD (smAt n J k).1 0 <;> by_cases c2 : L.getD g 0 = L.getD (smAt n J k).1 0
    · exact (h.conn f g hf' hg' (c1.trans c2.symm)).mono mono
    · rw [if_pos c1, if_neg c2] at e
      exact (((h.conn f _ hf' hf c1).mono mono).trans edge).trans ((h.conn _ g hg hg' e).mono mono)
    · rw [if_neg c1, if_pos c2] at e
      exact (((h.conn f _ hf' hg e).mono mono).trans (edge.symm Adj.symm)).trans ((h.conn _ g hf hg' c2.symm).mono mono)
    · rw [if_neg c1, if_neg c2] at e
      exact (h.conn f g hf' hg' e).mono mono
theorem Frs.all {L E : List Int} (h : Frs n J L E) (sk : Skin n J) (done : ∀ k : Int, 0 ≤ k → k < (2 * n : Nat) → L.getD (smAt n J k).1 0 = L.getD (oth J (smAt n J k)).1 0) : ∀ f, f < n → L.getD f 0 = L.getD 0 0 := by
  have side : ∀ p : Sd, p.1 < n → p.2 < 4 → L.getD p.1 0 = L.getD (oth J p).1 0 := by
    have one : ∀ p : Sd, p ∈ sms n J → L.getD p.1 0 = L.getD (oth J p).1 0 := fun p hp => by
      obtain ⟨k, hk, e⟩ := List.mem_iff_getElem.mp hp
      have e2 : smAt n J (k : Nat) = p := by
        unfold smAt
        rw [Int.toNat_natCast, List.getD_eq_getElem?_getD, List.getElem?_eq_getElem hk, e]
        rfl
      have := done (k : Nat) (by omega) (by rw [sk.sms_length] at hk; omega)
      rw [e2] at this
      exact this
    intro p h1 h2
    by_cases c : pI p < pI (oth J p)
    · exact one p (mem_sms.mpr ⟨⟨h1, h2⟩, c⟩)
    · obtain ⟨r1, r2⟩ := sk.rng _ _ h1 h2
      have inv : oth J (oth J p) = p := sk.inv _ _ h1 h2
      have ne := sk.ne _ _ h1 h2
      have : oth J p ∈ sms n J := mem_sms.mpr ⟨⟨r1, r2⟩, by
        show pI (oth J p) < pI (oth J (oth J p))
        rw [inv]
        rw [pI_lt] at c ⊢
        have : ¬ ((oth J p).1 = p.1 ∧ (oth J p).2 = p.2) := fun ⟨z1, z2⟩ => ne (Prod.ext z1 z2)
        omega⟩
      have q := one _ this
      rw [inv] at q
      exact q.symm
  exact sk.con (fun f => L.getD f 0 = L.getD 0 0) rfl fun f i hf hi h => (side (f, i) hf hi).symm.trans h
structure Tre (n : Nat) (J : Nat → Nat → Sd) (E : List Int) : Prop where
  inb : Inb n E
  pot : ∀ f0, ∃ Pt : Nat → Pl, Pt f0 = ⟨0, 0, 0⟩ ∧ (∀ f, 0 ≤ (Pt f).t ∧ (Pt f).t < 4) ∧ ∀ k ∈ E, Bes Pt J (smAt n J k)
  conn : ∀ f g, f < n → g < n → Cn (Adj n J E) f g
theorem Bes.back {Pt : Nat → Pl} {p : Sd} (h : Bes Pt J p) (ht : ∀ f, 0 ≤ (Pt f).t ∧ (Pt f).t < 4) (h2 : p.2 < 4) (h3 : (oth J p).2 < 4) : nxt (Pt (oth J p).1) (oth J p).2 p.2 = Pt p.1 := by
  unfold Bes at h
  rw [← h]
  exact nxt_back (ht _) (by omega) (by omega)
end
end Ve
namespace Ve
open PySem PySem.Spec L2
end Ve
namespace Ve
open PySem PySem.Spec L2
end Ve
namespace Ve
open PySem PySem.Spec L2
section
variable {n : Nat} {J : Nat → Nat → Sd} {E : List Int}
def stp (n : Nat) (J : Nat → Nat → Sd) (K : List Nat) (k : Int) : List Nat :=
  if (smAt n J k).1 ∈ K ∧ (oth J (smAt n J k)).1 ∉ K then K ++ [(oth J (smAt n J k)).1] else if (oth J (smAt n J k)).1 ∈ K ∧ (smAt n J k).1 ∉ K then K ++ [(smAt n J k).1] else K
theorem stp_sub (K : List Nat) (k : Int) : ∀ f ∈ K, f ∈ stp n J K k := fun f hf => by
  unfold stp
  split
  · exact List.mem_append_left _ hf
  · split
    · exact List.mem_append_left _ hf
    · exact hf
theorem stp_nodup {K : List Nat} (k : Int) (h : K.Nodup) : (stp n J K k).Nodup := by
  unfold stp
  split
  · rename_i c
    exact List.nodup_append.mpr ⟨h, by simp, fun a ha b hb e => c.2 (by rw [← List.mem_singleton.mp hb, ← e]; exact ha)⟩
  · split
    · rename_i c
      exact List.nodup_append.mpr ⟨h, by simp, fun a ha b hb e => c.2 (by rw [← List.mem_singleton.mp hb, ← e]; exact ha)⟩
    · exact h
theorem stp_lt (sk : Skin n J) {K : List Nat} {k : Int} (hk : 0 ≤ k ∧ k < (2 * n : Nat)) (h : ∀ f ∈ K, f < n) : ∀ f ∈ stp n J K k, f < n := fun f hf => by
  obtain ⟨a, _, b, _⟩ := sk.sm hk
  unfold stp at hf
  split at hf
  · rcases List.mem_append.mp hf with z | z
    · exact h f z
    · rw [List.mem_singleton.mp z]; exact b
  · split at hf
    · rcases List.mem_append.mp hf with z | z
      · exact h f z
      · rw [List.mem_singleton.mp z]; exact a
    · exact h f hf
theorem Tre.full (tr : Tre n J E) {K : List Nat} {f0 : Nat} (h0 : f0 ∈ K) (hK : ∀ f ∈ K, f < n) (cl : ∀ k ∈ E, ((smAt n J k).1 ∈ K ↔ (oth J (smAt n J k)).1 ∈ K)) : ∀ f, f < n → f ∈ K := fun f hf =>
  (tr.conn f0 f (hK f0 h0) hf).closed (S := fun x => x ∈ K) h0 fun x y hx ⟨k, hk, h⟩ => by
    rcases h with ⟨a, b⟩ | ⟨a, b⟩
    · rw [b]; exact (cl k hk).mp (by rw [← a]; exact hx)
    · rw [a]; exact (cl k hk).mpr (by rw [← b]; exact hx)
structure Met (n : Nat) (f0 : Nat) (K : List Nat) : Prop where
  nd : K.Nodup
  lt : ∀ f ∈ K, f < n
  has : f0 ∈ K
theorem Met.stp (sk : Skin n J) {f0 : Nat} {K : List Nat} {k : Int} (hk : 0 ≤ k ∧ k < (2 * n : Nat)) (h : Met n f0 K) : Met n f0 (stp n J K k) := ⟨stp_nodup k h.nd, stp_lt sk hk h.lt, stp_sub K k f0 h.has⟩
theorem Met.fold (sk : Skin n J) {f0 : Nat} : ∀ (E : List Int) (K : List Nat), Inb n E → Met n f0 K → Met n f0 (E.foldl (Ve.stp n J) K)
  | [], K, _, h => h
  | k :: E, K, hi, h => Met.fold sk E _ (fun z hz => hi z (List.mem_cons_of_mem _ hz)) (h.stp sk (hi k List.mem_cons_self))
theorem Met.len {f0 : Nat} {K : List Nat} (h : Met n f0 K) : K.length ≤ n := by
  have := nodup_len h.nd (m := List.range n) fun f hf => List.mem_range.mpr (h.lt f hf)
  rwa [List.length_range] at this
def tb1 (n : Nat) (J : Nat → Nat → Sd) (k : Int) (f : Nat) : List Nat := (if (smAt n J k).1 = f then [(smAt n J k).2] else []) ++ (if (oth J (smAt n J k)).1 = f then [(oth J (smAt n J k)).2] else [])
def tbl (n : Nat) (J : Nat → Nat → Sd) (E : List Int) (f : Nat) : List Nat := E.flatMap fun k => tb1 n J k f
end
end Ve
set_option maxHeartbeats 1000000
namespace L2
open PySem PySem.Spec PyProof.Rows
end L2
namespace Ve
open PySem PySem.Spec L2
def isDc : D → Hd → Bool
  | .ref n, hp => match hp[n]? with
    | some (.dic _) => true
    | _ => false
  | _, _ => false
theorem isDc_some {d : D} {hp : Hd} (h : isDc d hp = true) : ∃ n kvs, d = .ref n ∧ hp[n]? = some (.dic kvs) := by
  unfold isDc at h
  split at h
  · rename_i n
    split at h
    · rename_i xs e
      exact ⟨n, _, rfl, e⟩
    · cases h
  · cases h
theorem isDc_ty {X : Cx} {H : Hp} {μ : List Addr} {hp : Hd} {d : D} {v : V} (rh : RelH X.K H μ hp) (r : Rp X.K H μ d v) (h : isDc d hp = true) : tyV X.K "dict" v H := by
  obtain ⟨n, kvs, rfl, e⟩ := isDc_some h
  obtain ⟨a, ea, rfl⟩ := r.refE
  obtain ⟨_, ⟨vs, ev, _⟩ | ⟨vs, ev, _⟩⟩ := rh.dic ea e
  · exact .inr (.inr (.inl ⟨rfl, .inl ⟨_, ev⟩⟩))
  · exact .inr (.inr (.inl ⟨rfl, .inr ⟨_, ev⟩⟩))
section
variable {X : Cx} {e : Expr} {es : List Expr} {fr : AA} {fa : AE} {tg : Expr}
theorem de_dm {name : Str} {id : String} {o : Expr} {fo : AE} {apos cpos : Pos} {g : D → List D → Hd → Option (D × Hd)} (slot : Slot "dict" name id) (hty : typeOf (.builtin id) = pure (.type "method_descriptor")) (hm : MtR X id (RM X.K g)) (ho : DE X o fo) (ha : DA X (e :: es) fr)
    (hbase : attributeBase o name X.env (eval o X.env) = eval o X.env := by rfl)
    (hfew : ((backTo cpos (starEach (e :: es) X.env)).all (fun x => !x.1) && (backToKw cpos (keywordEach [] X.env)).all (fun x => x.1.isSome)
      && decide ((e :: es).length + ([] : List Keyword).length + (if ([] : List Keyword).isEmpty then 0 else 1) < 30)) = true := by rfl)
    (hline : (apos.endLine == cpos.line) = true := by rfl) (hs : starEach (e :: es) X.env = (false, eval e X.env) :: starEach es X.env := by rfl) (hplain : (backTo cpos (starEach es X.env)).any (·.1) = false := by rfl) :
    DE X (.Call (.Attribute o name apos) (e :: es) [] cpos) (mMet isDc fo fr g) :=
  PE.imp (pe_bm PySem.F.plainAttrs_dict slot hty hm ho ha hbase hfew hline hs hplain) fun σ H Q ⟨ls, hp, μ, d, hp', rl, rh, e, q⟩ => by
    unfold mMet at e
    split at e
    · rename_i x hp1 e1
      split at e
      · rename_i hck
        split at e
        · rename_i ds hp2 e2
          exact ⟨ls, hp, μ, x, hp1, rl, rh, e1, fun v1 H1 μ1 x1 rh1 r1 => ⟨isDc_ty rh1 r1 hck, ls, hp1, μ1, ds, hp2, rl.ext x1, rh1, e2, fun vs H2 μ2 x2 rh2 r2 =>
            ⟨hp2, μ2, x, ds, d, hp', rh2, r1.ext x2, r2, e, fun v H3 μ3 x3 rh3 r3 => q v H3 μ3 ((x1.trans x2).trans x3) rh3 r3⟩⟩⟩
        · cases e
      · cases e
    · cases e
end
end Ve
namespace Ve
open PySem PySem.Spec L2
theorem perm_same {α : Type} [DecidableEq α] : ∀ {a b : List α}, a.Nodup → b.Nodup → (∀ k, k ∈ a ↔ k ∈ b) → a.Perm b
  | [], b, _, _, h => by
    cases b with
    | nil => exact List.Perm.nil
    | cons y b => exact absurd ((h y).mpr List.mem_cons_self) (by simp)
  | x :: a, b, ha, hb, h => by
    obtain ⟨hx, ha2⟩ := List.nodup_cons.mp ha
    have xb := (h x).mp List.mem_cons_self
    refine ((perm_same ha2 (hb.erase x) fun k => ?_).cons x).trans (List.perm_cons_erase xb).symm
    rw [hb.mem_erase_iff]
    constructor
    · intro hk
      exact ⟨fun e => hx (e ▸ hk), (h k).mp (List.mem_cons_of_mem _ hk)⟩
    · rintro ⟨h1, h2⟩
      rcases List.mem_cons.mp ((h k).mpr h2) with z | z
      · exact absurd z h1
      · exact z
theorem Gd_congr {g g' : List Int → D} {cs : List (List Int)} (h : ∀ c ∈ cs, g c = g' c) : Gd' g cs = Gd' g' cs := List.map_congr_left fun c hc => by rw [h c hc]
end Ve
namespace Ve
open PySem PySem.Spec L2
theorem mExt_of {fa : AE} {fl : AA} {ls : Ls} {hp hp1 hp2 : Hd} {n : Nat} {ds xs : List D} (e1 : fa ls hp = some (.ref n, hp1)) (c : isL (.ref n) hp1 = true) (e2 : fl ls hp1 = some (ds, hp2)) (h : hp2[n]? = some (.lst xs)) (hl : xs.length + ds.length ≤ 1000000) : mExt fa fl ls hp = some (.non, hp2.set n (.lst (xs ++ ds))) := by
  rw [mExt_s, e1]
  dsimp only
  rw [if_pos c, e2]
  dsimp only
  unfold onL
  dsimp only
  rw [h]
  dsimp only
  rw [if_pos (by rw [sizeLine_eq]; omega)]
end Ve
namespace Ve
open PySem PySem.Spec L2
open PySem.W (Tup Datum DatumOrd listLt minOf minD_map)
structure Tot {α : Type} (lt : α → α → Bool) : Prop where
  irr : ∀ a, lt a a = false
  tra : ∀ a b c, lt a b = true → lt b c = true → lt a c = true
  tri : ∀ a b, lt a b = false → lt b a = false → a = b
theorem Tot.int : Tot (DatumOrd.lt : Int → Int → Bool) :=
  ⟨fun a => decide_eq_false (Int.lt_irrefl a), fun a b c h1 h2 => decide_eq_true (Int.lt_trans (of_decide_eq_true h1) (of_decide_eq_true h2)), fun a b h1 h2 => by
    have h1 := of_decide_eq_false h1
    have h2 := of_decide_eq_false h2
    omega⟩
section
variable {α : Type} [DecidableEq α] [DatumOrd α]
theorem Tot.list (h : Tot (DatumOrd.lt : α → α → Bool)) : Tot (listLt : List α → List α → Bool) := by
  refine ⟨fun a => ?_, ?_, ?_⟩
  · induction a with
    | nil => rfl
    | cons x xs ih => rw [listLt, if_pos rfl, ih]
  · intro a
    induction a with
    | nil =>
      intro b c h1 h2
      cases b with
      | nil => cases h1
      | cons y ys => cases c with
        | nil => cases h2
        | cons z zs => rfl
    | cons x xs ih =>
      intro b c h1 h2
      cases b with
      | nil => cases h1
      | cons y ys => cases c with
        | nil => cases h2
        | cons z zs =>
          rw [listLt] at h1 h2 ⊢
          by_cases e1 : x = y
          · rw [if_pos e1] at h1
            by_cases e2 : y = z
            · rw [if_pos e2] at h2
              rw [if_pos (e1.trans e2)]
              exact ih _ _ h1 h2
            · rw [if_neg e2] at h2
              rw [if_neg (by rw [e1]; exact e2), e1]
              exact h2
          · rw [if_neg e1] at h1
            by_cases e2 : y = z
            · rw [if_neg (by rw [← e2]; exact e1), ← e2]
              exact h1
            · rw [if_neg e2] at h2
              have q := h.tra _ _ _ h1 h2
              rw [if_neg (fun e => by rw [e, h.irr] at q; cases q)]
              exact q
  · intro a
    induction a with
    | nil =>
      intro b h1 h2
      cases b with
      | nil => rfl
      | cons y ys => cases h1
    | cons x xs ih =>
      intro b h1 h2
      cases b with
      | nil => cases h2
      | cons y ys =>
        rw [listLt] at h1 h2
        by_cases e : x = y
        · rw [if_pos e] at h1
          rw [if_pos e.symm] at h2
          rw [e, ih _ h1 h2]
        · rw [if_neg e] at h1
          rw [if_neg (fun z => e z.symm)] at h2
          exact absurd (h.tri _ _ h1 h2) e
theorem Tot.tup (h : Tot (DatumOrd.lt : α → α → Bool)) : Tot (DatumOrd.lt : Tup α → Tup α → Bool) := by
  have l := h.list
  refine ⟨fun a => l.irr a.items, fun a b c h1 h2 => l.tra _ _ _ h1 h2, fun a b h1 h2 => ?_⟩
  have := l.tri _ _ h1 h2
  cases a
  cases b
  exact congrArg Tup.mk this
theorem minOf_mem (x : α) : ∀ xs : List α, minOf x xs ∈ x :: xs := fun xs => by
  unfold minOf
  induction xs generalizing x with
  | nil => exact List.mem_cons_self
  | cons y ys ih =>
    rw [List.foldl_cons]
    by_cases h : DatumOrd.lt y x = true
    · rw [if_pos h]
      exact List.mem_cons_of_mem _ (ih y)
    · rw [if_neg h]
      rcases List.mem_cons.mp (ih x) with z | z
      · rw [z]; exact List.mem_cons_self
      · exact List.mem_cons_of_mem _ (List.mem_cons_of_mem _ z)
theorem minOf_le (h : Tot (DatumOrd.lt : α → α → Bool)) (x : α) : ∀ xs : List α, ∀ y ∈ x :: xs, DatumOrd.lt y (minOf x xs) = false := fun xs => by
  unfold minOf
  induction xs generalizing x with
  | nil =>
    intro y hy
    rw [List.mem_singleton.mp hy]
    exact h.irr x
  | cons y ys ih =>
    intro w hw
    rw [List.foldl_cons]
    by_cases c : DatumOrd.lt y x = true
    · rw [if_pos c]
      have q := ih y
      rcases List.mem_cons.mp hw with z | z
      · subst z
        cases e : DatumOrd.lt w (List.foldl (fun a y => if DatumOrd.lt y a = true then y else a) y ys) with
        | false => rfl
        | true =>
          have := h.tra _ _ _ c e
          rw [q y List.mem_cons_self] at this
          cases this
      · exact q w z
    · rw [if_neg c]
      have q := ih x
      rcases List.mem_cons.mp hw with z | z
      · rw [z]; exact q x List.mem_cons_self
      · rcases List.mem_cons.mp z with z | z
        · subst z
          cases e : DatumOrd.lt w (List.foldl (fun a y => if DatumOrd.lt y a = true then y else a) x ys) with
          | false => rfl
          | true =>
            have q2 := q x List.mem_cons_self
            have c' : DatumOrd.lt w x = false := by simpa using c
            cases e2 : DatumOrd.lt (List.foldl (fun a y => if DatumOrd.lt y a = true then y else a) x ys) x with
            | false =>
              have := h.tri _ _ q2 e2
              rw [← this, c'] at e
              cases e
            | true =>
              have := h.tra _ _ _ e e2
              rw [c'] at this
              cases this
        · exact q w (List.mem_cons_of_mem _ z)
end
abbrev T2 := Tup (Tup Int)
def toT2 (b : List (List Int)) : T2 := ⟨b.map fun a => ⟨a⟩⟩
theorem toD_T2 (b : List (List Int)) : Datum.toD (toT2 b) = PyData.tuple (b.map fun a => PyData.tuple (a.map PyData.int)) := by
  show PyData.tuple ((b.map fun a => (⟨a⟩ : Tup Int)).map Datum.toD) = _
  rw [List.map_map]
  rfl
theorem plainDs_T : ∀ b : List (List Int), plainDs (b.map T) = true
  | [] => rfl
  | a :: b => by
    show (plainDs (a.map D.int) && plainDs (b.map T)) = true
    rw [plainDs_I, plainDs_T b]
    rfl
theorem pyF_TT {hp : Hd} {n : Nat} (b : List (List Int)) : pyF hp (n + 3) (TT b) = some (Datum.toD (toT2 b)) := by
  rw [toD_T2]
  show (mapO (pyF hp (n + 2)) (b.map T)).map PyData.tuple = _
  rw [mapO_T]
  rfl
end Ve
namespace Ve
open PySem PySem.Spec L2
def Two (cs : List (List Int)) : Prop := ∀ c ∈ cs, ∃ x y : Int, c = [x, y]
def sub2 (a b : Int) (c : List Int) : List Int := [c.getD 0 0 - a, c.getD 1 0 - b]
def hm (cs : List (List Int)) : List (List Int) := sortC (cs.map (sub2 (mnC cs 0) (mnC cs 1)))
end Ve
namespace L2
open PySem PySem.Spec PyProof.Rows
end L2
namespace Ve
open PySem PySem.Spec L2
end Ve
namespace Ve
open PySem PySem.Spec L2
theorem srtS_nodup (L : List Int) : (srtS L).Nodup := lt_nodup srtS_lt
theorem getD_mem' {L : List Int} {a : Nat} (h : a < L.length) : L.getD a 0 ∈ L := by
  rw [List.getD_eq_getElem?_getD, List.getElem?_eq_getElem h]
  exact List.getElem_mem h
theorem srtS_range (n : Nat) : (srtS ((List.range n).map fun k : Nat => (k : Int))).length = n := by
  have nd : ((List.range n).map fun k : Nat => (k : Int)).Nodup := by
    show List.Pairwise (· ≠ ·) _
    rw [List.pairwise_map]
    exact (List.pairwise_lt_range (n := n)).imp fun h => by omega
  rw [nodup_len_eq (srtS_nodup _) nd fun k => mem_srtS, List.length_map, List.length_range]
theorem srtS_one {L : List Int} {n : Nat} (hl : L.length = n) (hn : 0 < n) (h : ∀ f, f < n → L.getD f 0 = L.getD 0 0) : (srtS L).length = 1 := by
  have := nodup_len_eq (srtS_nodup L) (show [L.getD 0 0].Nodup by simp) fun k => by
    rw [mem_srtS, List.mem_singleton]
    constructor
    · intro hk
      obtain ⟨j, hj, e⟩ := List.mem_iff_getElem.mp hk
      rw [← e, ← h j (by omega), List.getD_eq_getElem?_getD, List.getElem?_eq_getElem hj]
      rfl
    · rintro rfl
      exact getD_mem' (by omega)
  exact this
section
variable {n : Nat} {J : Nat → Nat → Sd} {E : List Int}
theorem joinG_at {L : List Int} {a b f : Nat} (h : f < L.length) : (joinG L a b).getD f 0 = if L.getD f 0 = max (L.getD a 0) (L.getD b 0) then min (L.getD a 0) (L.getD b 0) else L.getD f 0 := by
  have e1 : (joinG L a b).getD f 0 = ((joinG L a b)[f]?).getD 0 := List.getD_eq_getElem?_getD
  have e2 : L.getD f 0 = L[f] := by rw [List.getD_eq_getElem?_getD, List.getElem?_eq_getElem h]; rfl
  rw [e1, e2]
  unfold joinG
  rw [List.getElem?_map, List.getElem?_eq_getElem h]
  rfl
structure Gps (n : Nat) (J : Nat → Nat → Sd) (ks L : List Int) : Prop where
  len : L.length = n
  pos : ∀ f, f < n → 0 ≤ L.getD f 0
  zero : L.getD 0 0 = 0
  same : ∀ k ∈ ks, L.getD (smAt n J k).1 0 = L.getD (oth J (smAt n J k)).1 0
theorem Gps.put (sk : Skin n J) {ks L : List Int} {k : Int} (hks : Inb n ks) (hk : 0 ≤ k ∧ k < (2 * n : Nat)) (h : Gps n J ks L) : Gps n J (ks ++ [k]) (grpS n J L k) := by
  obtain ⟨s1, _, s3, _⟩ := sk.sm hk
  have pa := h.pos _ s1
  have pb := h.pos _ s3
  have l0 := sk.pos
  have at_ : ∀ f, f < n → (grpS n J L k).getD f 0 = if L.getD f 0 = max (L.getD (smAt n J k).1 0) (L.getD (oth J (smAt n J k)).1 0) then min (L.getD (smAt n J k).1 0) (L.getD (oth J (smAt n J k)).1 0) else L.getD f 0 := fun f hf => joinG_at (by rw [h.len]; exact hf)
  refine ⟨(joinG_len _ _ _).trans h.len, fun f hf => ?_, ?_, fun k' hk' => ?_⟩
  · rw [at_ f hf]
    have := h.pos f hf
    split <;> omega
  · rw [at_ 0 l0, h.zero]
    split <;> omega
  · rcases List.mem_append.mp hk' with z | z
    · obtain ⟨t1, _, t3, _⟩ := sk.sm (hks k' z)
      rw [at_ _ t1, at_ _ t3, h.same k' z]
    · rw [List.mem_singleton.mp z, at_ _ s1, at_ _ s3]
      split <;> split <;> omega
end
end Ve
set_option maxHeartbeats 1000000
namespace PySem
section
variable {prog : Program} {w : World} {A : Around} {E : Value → Shared → Prop} {s : Shared}
theorem ve_min_twoH {a b : Value} {Q : Value → Shared → Prop}
    (h : wpAny (model prog w) A.in1 (pyIter (.ref s.heap.objs.size)) (fun it s₂ => ∃ I fp wr G n P St H bt, it = .ref I ∧ WalksS prog w A.in1 I fp wr G n P St ∧ St 0 s₂ ∧ (∀ b ∈ fp, b < s₂.heap.objs.size) ∧ 0 < n ∧
      (∀ b o, H.get? b = some o → b ∉ wr) ∧ (∀ b o, H.get? b = some o → s₂.heap.get? b = some o) ∧ CmpIn prog w A.in1 .Lt H P bt ∧ ∀ v s', P (argBest bt (n - 1)) v → Moved wr G s₂ s' → Q v s') E
      { s with heap := s.heap.push { cls := .type "tuple", data := .seq #[a, b] } }) :
    wpAny (model prog w) A (call (.builtin "min") [a, b]) Q E s := by
  have hname : (toString "min" ++ toString ".loop" : String) = "min.loop" := by decide
  refine call_function_tree F.kind_min F.plain_min F.entry_min (F.args_min2 _ _) ?_
  show wpAny _ A.in1 (Builtin.Builtins.bindParams "min" ["key", "default"] 0 ⟨[], []⟩ >>= _) _ _ s
  refine wpAny_bind (wpAny_of_eq (show Builtin.Builtins.bindParams "min" ["key", "default"] 0 ⟨[], []⟩ = pure [none, none] from rfl) ?_)
  show wpAny _ A.in1 (newTuple [a, b] >>= _) _ _ s
  refine wpAny_bind (wpAny_newObj_type ?_)
  refine wpAny_bind (wpAny_mono h (fun it s₂ h₂ => ?_) fun _ _ e => e)
  obtain ⟨I, fp, wr, G, n, P, St, H, bt, rfl, W, hst, hfp, hn, hw, hkeep, hcmp, hQ⟩ := h₂
  refine wpAny_bind (wpAny_newObj_type ?_)
  have hSf : s₂.heap.objs.size ∉ fp := fun hm => Nat.lt_irrefl _ (hfp _ hm)
  rw [hname]
  refine wpAny_pure ⟨plainId_quiet F.plain_min_loop _, codeAny_min_loop_firstH W H hw bt hcmp s₂.heap.objs.size hSf (fresh_in hkeep) _ hn (fun b o e => Heap.get?_push_of_some _ (hkeep b o e)) (W.frame 0 s₂ _ s₂.toks hst (Nat.le_refl _) fun b _ o e => Heap.get?_push_of_some _ e) (Heap.get?_push_size _ rfl) fun v s' hP hm => ?_⟩
  exact hQ v s' hP (Moved.drop_new (tk := s₂.toks) hm (Nat.le_refl _))
theorem ve_max_twoH {a b : Value} {Q : Value → Shared → Prop}
    (h : wpAny (model prog w) A.in1 (pyIter (.ref s.heap.objs.size)) (fun it s₂ => ∃ I fp wr G n P St H bt, it = .ref I ∧ WalksS prog w A.in1 I fp wr G n P St ∧ St 0 s₂ ∧ (∀ b ∈ fp, b < s₂.heap.objs.size) ∧ 0 < n ∧
      (∀ b o, H.get? b = some o → b ∉ wr) ∧ (∀ b o, H.get? b = some o → s₂.heap.get? b = some o) ∧ CmpIn prog w A.in1 .Gt H P bt ∧ ∀ v s', P (argBest bt (n - 1)) v → Moved wr G s₂ s' → Q v s') E
      { s with heap := s.heap.push { cls := .type "tuple", data := .seq #[a, b] } }) :
    wpAny (model prog w) A (call (.builtin "max") [a, b]) Q E s := by
  have hname : (toString "max" ++ toString ".loop" : String) = "max.loop" := by decide
  refine call_function_tree F.kind_max F.plain_max F.entry_max (F.args_max2 _ _) ?_
  show wpAny _ A.in1 (Builtin.Builtins.bindParams "max" ["key", "default"] 0 ⟨[], []⟩ >>= _) _ _ s
  refine wpAny_bind (wpAny_of_eq (show Builtin.Builtins.bindParams "max" ["key", "default"] 0 ⟨[], []⟩ = pure [none, none] from rfl) ?_)
  show wpAny _ A.in1 (newTuple [a, b] >>= _) _ _ s
  refine wpAny_bind (wpAny_newObj_type ?_)
  refine wpAny_bind (wpAny_mono h (fun it s₂ h₂ => ?_) fun _ _ e => e)
  obtain ⟨I, fp, wr, G, n, P, St, H, bt, rfl, W, hst, hfp, hn, hw, hkeep, hcmp, hQ⟩ := h₂
  refine wpAny_bind (wpAny_newObj_type ?_)
  have hSf : s₂.heap.objs.size ∉ fp := fun hm => Nat.lt_irrefl _ (hfp _ hm)
  rw [hname]
  refine wpAny_pure ⟨plainId_quiet F.plain_max_loop _, codeAny_max_loop_firstH W H hw bt hcmp s₂.heap.objs.size hSf (fresh_in hkeep) _ hn (fun b o e => Heap.get?_push_of_some _ (hkeep b o e)) (W.frame 0 s₂ _ s₂.toks hst (Nat.le_refl _) fun b _ o e => Heap.get?_push_of_some _ e) (Heap.get?_push_size _ rfl) fun v s' hP hm => ?_⟩
  exact hQ v s' hP (Moved.drop_new (tk := s₂.toks) hm (Nat.le_refl _))
end
end PySem
namespace L2
open PySem PySem.Spec PyProof.Rows PySem.W
section
variable {prog : Program} {w : World} {A : Around} {E : Value → Shared → Prop} {s : Shared}
theorem two_data (mx : Bool) {a b : Value} {x y : PyData} {as bs : List Addr} {Q : Value → Shared → Prop} (hh : A.handled = none) (ra : Reads s.heap a x as) (rb : Reads s.heap b y bs) (ha : AlikeAll [x, y]) (hu : A.units + 1 + PyData.depthAll [x, y] < cLine)
    (h : ∀ h' tk, (∀ b o, s.heap.get? b = some o → h'.get? b = some o) → Q (if (if mx = true then dataLt x y else dataLt y x) = true then b else a) { s with heap := h', toks := tk }) :
    wpAny (model prog w) A (call (.builtin (if mx = true then "max" else "min")) [a, b]) Q E s := by
  have hk0 : ∀ c o, s.heap.get? c = some o → (s.heap.push { cls := .type "tuple", data := .seq #[a, b] }).get? c = some o := fun c o e => Heap.get?_push_of_some _ e
  have hl : (s.heap.push { cls := .type "tuple", data := .seq #[a, b] }).IsTuple s.heap.objs.size #[a, b] := ⟨_, Heap.get?_push_size _ rfl, rfl, _, rfl⟩
  have hr : ReadsAll (s.heap.push { cls := .type "tuple", data := .seq #[a, b] }) (#[a, b] : Array Value).toList [x, y] (as ++ (bs ++ [])) := .cons (reads_keeps hk0 ra) (.cons (reads_keeps hk0 rb) .nil)
  cases mx with
  | true =>
    refine ve_max_twoH (iter_tupleW (A := A.in1) (s := { s with heap := s.heap.push { cls := .type "tuple", data := .seq #[a, b] } }) hh hl fun s₂ e W st hfp hw hk => ?_)
    refine ⟨_, _, _, _, _, _, _, (s.heap.push { cls := .type "tuple", data := .seq #[a, b] }), _, rfl, W, st, hfp, by show 0 < 2; decide, hw, hk, cmpIn_gt (A := A.in1) (s := { s with heap := s.heap.push { cls := .type "tuple", data := .seq #[a, b] } }) hr ha (by show A.units + 1 + _ < _; exact hu), fun v s' hP m => ?_⟩
    obtain ⟨h', tk, rfl, hk'⟩ := moved_old e rfl m
    have hv : v = if dataLt x y = true then b else a := by
      have hP' : (#[a, b] : Array Value)[if dataLt x y = true then 1 else 0]? = some v := hP
      by_cases c : dataLt x y = true
      · rw [if_pos c] at hP' ⊢
        exact (Option.some.inj hP').symm
      · rw [if_neg c] at hP' ⊢
        exact (Option.some.inj hP').symm
    rw [hv]
    exact h h' tk fun c o e => hk' c o (hk0 c o e)
  | false =>
    refine ve_min_twoH (iter_tupleW (A := A.in1) (s := { s with heap := s.heap.push { cls := .type "tuple", data := .seq #[a, b] } }) hh hl fun s₂ e W st hfp hw hk => ?_)
    refine ⟨_, _, _, _, _, _, _, (s.heap.push { cls := .type "tuple", data := .seq #[a, b] }), _, rfl, W, st, hfp, by show 0 < 2; decide, hw, hk, cmpIn_lt (A := A.in1) (s := { s with heap := s.heap.push { cls := .type "tuple", data := .seq #[a, b] } }) hr ha (by show A.units + 1 + _ < _; exact hu), fun v s' hP m => ?_⟩
    obtain ⟨h', tk, rfl, hk'⟩ := moved_old e rfl m
    have hv : v = if dataLt y x = true then b else a := by
      have hP' : (#[a, b] : Array Value)[if dataLt y x = true then 1 else 0]? = some v := hP
      by_cases c : dataLt y x = true
      · rw [if_pos c] at hP' ⊢
        exact (Option.some.inj hP').symm
      · rw [if_neg c] at hP' ⊢
        exact (Option.some.inj hP').symm
    rw [hv]
    exact h h' tk fun c o e => hk' c o (hk0 c o e)
end
end L2
namespace Ve
open PySem PySem.Spec L2
def gBest2 (mx : Bool) : List D → Hd → Option (D × Hd)
  | [x, y], hp => match pyF hp 15 x, pyF hp 15 y with
    | some p, some q => if (alikeB [p, q] && decide (PyData.depthAll [p, q] ≤ 40)) = true then some (if (if mx = true then PySem.W.dataLt p q else PySem.W.dataLt q p) = true then y else x, hp) else none
    | _, _ => none
  | _, _ => none
section
variable {X : Cx}
theorem c_best2 (mx : Bool) (hc : X.calm = true) (hu : X.A.units + 64 < cLine) : CallR X (.builtin (if mx = true then "max" else "min")) (RDs X.K (gBest2 mx)) := fun pins s σ H xs us Q I r ⟨hp, μ, ds, d, hp', rh, rs, e, q⟩ => by
  unfold gBest2 at e
  split at e
  · rename_i x y
    split at e
    · rename_i p q' e1 e2
      split at e
      · rename_i hk
        rw [Bool.and_eq_true] at hk
        have hd := of_decide_eq_true hk.2
        cases e
        obtain ⟨vx, vy, rfl, rx, ry⟩ := rs.two
        obtain ⟨ux, uy, rfl, lx, ly⟩ := vals2 r
        obtain ⟨as, ra⟩ := Dp.reads I p vx ux (pyF_dp rh 15 x p vx e1 rx) lx
        obtain ⟨bs, rb⟩ := Dp.reads I q' vy uy (pyF_dp rh 15 y q' vy e2 ry) ly
        refine two_data mx (I.ok.hd hc) ra rb (alikeB_all hk.1) (by omega) fun h' tk hkp => ?_
        by_cases c : (if mx = true then PySem.W.dataLt p q' else PySem.W.dataLt q' p) = true
        · rw [if_pos c]
          exact ⟨vy, H, I.kept hkp, ly, by
            have := q vy H μ Ext.refl rh
            rw [if_pos c] at this
            exact this ry⟩
        · rw [if_neg c]
          exact ⟨vx, H, I.kept hkp, lx, by
            have := q vx H μ Ext.refl rh
            rw [if_neg c] at this
            exact this rx⟩
      · cases e
    · cases e
  · cases e
end
end Ve
set_option maxHeartbeats 1000000
namespace Ve
open PySem PySem.Spec L2 PyProof.Rows
end Ve
namespace Ve
open PySem PySem.Spec L2
open PySem.W (Tup Datum DatumOrd listLt)
theorem listLt_int : ∀ a b : List Int, listLt a b = decide (a < b)
  | [], [] => by rw [listLt]; exact (decide_eq_false (List.lt_irrefl _)).symm
  | [], y :: ys => by rw [listLt]; exact (decide_eq_true (List.nil_lt_cons y ys)).symm
  | x :: xs, [] => by rw [listLt]; exact (decide_eq_false (List.not_lt_nil _)).symm
  | x :: xs, y :: ys => by
    rw [listLt]
    by_cases h : x = y
    · rw [if_pos h, listLt_int xs ys, h]
      refine decide_eq_decide.mpr ?_
      rw [List.cons_lt_cons_iff]
      exact ⟨fun z => .inr ⟨rfl, z⟩, fun z => z.elim (fun q => absurd q (Int.lt_irrefl _)) (fun q => q.2)⟩
    · rw [if_neg h]
      refine decide_eq_decide.mpr ?_
      rw [List.cons_lt_cons_iff]
      exact ⟨fun z => .inl z, fun z => z.elim id (fun q => absurd q.1 h)⟩
theorem gBest2_T {hp : Hd} (mx : Bool) (a b : List Int) : gBest2 mx [T a, T b] hp = some (T (if (if mx = true then decide (a < b) else decide (b < a)) = true then b else a), hp) := by
  have e1 : ∀ a : List Int, pyF hp 15 (T a) = some (Datum.toD (⟨a⟩ : Tup Int)) := fun a => by
    have := mapO_T (hp := hp) (n := 13) [a]
    rw [List.map_cons, List.map_nil, mapO] at this
    cases e : pyF hp 15 (T a) with
    | none =>
      rw [e] at this
      cases this
    | some p =>
      rw [e] at this
      simp only [mapO] at this
      cases this
      rfl
  have lt : ∀ a b : List Int, PySem.W.dataLt (Datum.toD (⟨a⟩ : Tup Int)) (Datum.toD (⟨b⟩ : Tup Int)) = decide (a < b) := fun a b => by
    rw [DatumOrd.lt_eq]
    exact listLt_int a b
  show (match pyF hp 15 (T a), pyF hp 15 (T b) with
    | some p, some q => if (alikeB [p, q] && decide (PyData.depthAll [p, q] ≤ 40)) = true then some (if (if mx = true then PySem.W.dataLt p q else PySem.W.dataLt q p) = true then T b else T a, hp) else none
    | _, _ => none) = _
  rw [e1 a, e1 b]
  dsimp only
  have ha : alikeB [Datum.toD (⟨a⟩ : Tup Int), Datum.toD (⟨b⟩ : Tup Int)] = true := by
    have k : ∀ x y : Tup Int, PySem.W.alike (Datum.toD x) (Datum.toD y) = true := DatumOrd.alike
    unfold alikeB
    simp only [List.all_cons, List.all_nil, k, Bool.and_self]
    rfl
  have hd : PyData.depthAll [Datum.toD (⟨a⟩ : Tup Int), Datum.toD (⟨b⟩ : Tup Int)] ≤ 40 := by
    have := PySem.W.depthAll_map [(⟨a⟩ : Tup Int), ⟨b⟩]
    have d2 : Datum.depth (Tup Int) ≤ 40 := by decide
    exact Nat.le_trans this d2
  rw [ha, decide_eq_true hd, if_pos (by rfl), lt, lt]
  cases mx <;> (simp only [Bool.false_eq_true, if_false, if_true]; split <;> rfl)
end Ve
namespace Ve
open PySem PySem.Spec L2
def rel (u v : Int) (L : List Int) : List Int := L.map fun z => if z = u then v else z
theorem rel_len (u v : Int) (L : List Int) : (rel u v L).length = L.length := by unfold rel; rw [List.length_map]
theorem rel_self (u : Int) (L : List Int) : rel u u L = L := by
  unfold rel
  have : (fun z : Int => if z = u then u else z) = id := by
    funext z
    by_cases h : z = u
    · rw [if_pos h, h]; rfl
    · rw [if_neg h]; rfl
  rw [this, List.map_id]
theorem rel_at {u v : Int} {L : List Int} {f : Nat} (h : f < L.length) : (rel u v L).getD f 0 = if L.getD f 0 = u then v else L.getD f 0 := by
  have e2 : L.getD f 0 = L[f] := by rw [List.getD_eq_getElem?_getD, List.getElem?_eq_getElem h]; rfl
  rw [e2, List.getD_eq_getElem?_getD]
  unfold rel
  rw [List.getElem?_map, List.getElem?_eq_getElem h]
  rfl
theorem count_rel_v {u v : Int} (h : u ≠ v) : ∀ L : List Int, (rel u v L).count v = L.count u + L.count v
  | [] => rfl
  | z :: L => by
    have ih := count_rel_v h L
    unfold rel at ih ⊢
    rw [List.map_cons, List.count_cons, List.count_cons, List.count_cons, ih]
    by_cases c : z = u
    · subst c
      have : (z == v) = false := by simpa using h
      simp [this]
      omega
    · by_cases c2 : z = v
      · subst c2
        have : (z == u) = false := by simpa using c
        simp [c, this]
        omega
      · have h1 : (z == u) = false := by simpa using c
        have h2 : (z == v) = false := by simpa using c2
        simp [c, h1, h2]
theorem count_rel_o {u v w : Int} (h1 : w ≠ u) (h2 : w ≠ v) : ∀ L : List Int, (rel u v L).count w = L.count w
  | [] => rfl
  | z :: L => by
    have ih := count_rel_o h1 h2 L
    unfold rel at ih ⊢
    rw [List.map_cons, List.count_cons, List.count_cons, ih]
    by_cases c : z = u
    · subst c
      have a1 : (v == w) = false := by simpa using Ne.symm h2
      have a2 : (z == w) = false := by simpa using Ne.symm h1
      simp [a1, a2]
    · simp [c]
theorem mem_rel {u v w : Int} {L : List Int} (h : u ≠ v) (hu : u ∈ L) : w ∈ rel u v L ↔ w ≠ u ∧ (w ∈ L ∨ w = v) := by
  unfold rel
  rw [List.mem_map]
  constructor
  · rintro ⟨z, hz, e⟩
    by_cases c : z = u
    · rw [if_pos c] at e
      rw [← e]
      exact ⟨h.symm, .inr rfl⟩
    · rw [if_neg c] at e
      rw [← e]
      exact ⟨c, .inl hz⟩
  · rintro ⟨h1, h2 | h2⟩
    · exact ⟨w, h2, if_neg h1⟩
    · exact ⟨u, hu, by rw [if_pos rfl, h2]⟩
theorem srtS_rel {u v : Int} {L : List Int} (h : u ≠ v) (hu : u ∈ L) (hv : v ∈ L) : (srtS (rel u v L)).length + 1 = (srtS L).length := by
  have ma : u ∈ srtS L := mem_srtS.mpr hu
  have e := nodup_len_eq (srtS_nodup (rel u v L)) ((srtS_nodup L).erase u) fun k => by
    rw [mem_srtS, (srtS_nodup L).mem_erase_iff, mem_srtS, mem_rel h hu]
    constructor
    · rintro ⟨h1, h2 | h2⟩
      · exact ⟨h1, h2⟩
      · rw [h2]; exact ⟨h.symm, hv⟩
    · rintro ⟨h1, h2⟩
      exact ⟨h1, .inl h2⟩
  rw [e, List.length_erase_of_mem ma]
  have := List.length_pos_of_mem ma
  omega
section
variable {n : Nat} {J : Nat → Nat → Sd}
theorem manyB_app (ks : List Int) (k : Int) (L : List Int) (w : Int) : manyB n J (ks ++ [k]) L w = manyB n J ks L w + (if L.getD (smAt n J k).1 0 = w then 1 else 0) := by
  unfold manyB
  rw [List.filter_append, List.length_append]
  congr 1
  by_cases c : L.getD (smAt n J k).1 0 = w
  · rw [if_pos c, List.filter_cons_of_pos (by simpa using c)]; rfl
  · rw [if_neg c, List.filter_cons_of_neg (by simpa using c)]; rfl
theorem manyB_rel_v {u v : Int} (h : u ≠ v) {L : List Int} : ∀ ks : List Int, (∀ k ∈ ks, (smAt n J k).1 < L.length) → manyB n J ks (rel u v L) v = manyB n J ks L u + manyB n J ks L v
  | [], _ => rfl
  | k :: ks, hk => by
    have ih := manyB_rel_v h ks fun z hz => hk z (List.mem_cons_of_mem _ hz)
    unfold manyB at ih ⊢
    have hl := hk k List.mem_cons_self
    rw [List.filter_cons, List.filter_cons, List.filter_cons, rel_at hl]
    by_cases c : L.getD (smAt n J k).1 0 = u
    · have c2 : ¬ L.getD (smAt n J k).1 0 = v := fun z => h (c.symm.trans z)
      rw [if_pos c]
      simp only [beq_self_eq_true, if_true, beq_iff_eq]
      rw [if_pos c, if_neg c2, List.length_cons, List.length_cons, ih]
      omega
    · rw [if_neg c]
      simp only [beq_iff_eq]
      rw [if_neg c]
      by_cases c2 : L.getD (smAt n J k).1 0 = v
      · rw [if_pos c2, if_pos c2, List.length_cons, List.length_cons, ih]; omega
      · rw [if_neg c2, if_neg c2, ih]
theorem manyB_rel_o {u v w : Int} (h1 : w ≠ u) (h2 : w ≠ v) {L : List Int} (ks : List Int) (hk : ∀ k ∈ ks, (smAt n J k).1 < L.length) : manyB n J ks (rel u v L) w = manyB n J ks L w := by
  unfold manyB
  congr 1
  refine List.filter_congr fun k hkm => ?_
  rw [rel_at (hk k hkm)]
  by_cases c : L.getD (smAt n J k).1 0 = u
  · rw [if_pos c, c]
    have a1 : (v == w) = false := by simpa using Ne.symm h2
    have a2 : (u == w) = false := by simpa using Ne.symm h1
    rw [a1, a2]
  · rw [if_neg c]
structure Fo (n : Nat) (J : Nat → Nat → Sd) (ks L : List Int) : Prop where
  len : L.length = n
  inb : Inb n ks
  same : ∀ k ∈ ks, L.getD (smAt n J k).1 0 = L.getD (oth J (smAt n J k)).1 0
  conn : ∀ f g, f < n → g < n → L.getD f 0 = L.getD g 0 → Cn (Adj n J ks) f g
  cnt : ∀ v ∈ L, L.count v ≤ manyB n J ks L v + 1
  pot : ∃ Pt : Nat → Pl, (∀ f, 0 ≤ (Pt f).t ∧ (Pt f).t < 4) ∧ ∀ k ∈ ks, manyB n J ks L (L.getD (smAt n J k).1 0) < L.count (L.getD (smAt n J k).1 0) → Bes Pt J (smAt n J k)
  exc : n < ks.length + (srtS L).length ↔ ∃ v ∈ L, L.count v ≤ manyB n J ks L v
  le : n ≤ ks.length + (srtS L).length
theorem range_at0 {n f : Nat} (hf : f < n) : ((List.range n).map fun k : Nat => (k : Int)).getD f 0 = (f : Int) := by
  rw [List.getD_eq_getElem?_getD, List.getElem?_map, List.getElem?_range hf]
  rfl
theorem Fo.start (n : Nat) (J : Nat → Nat → Sd) : Fo n J [] ((List.range n).map fun k : Nat => (k : Int)) := by
  have nd : ((List.range n).map fun k : Nat => (k : Int)).Nodup := by
    show List.Pairwise (· ≠ ·) _
    rw [List.pairwise_map]
    exact (List.pairwise_lt_range (n := n)).imp fun h => by omega
  refine ⟨by rw [List.length_map, List.length_range], (fun k h => absurd h List.not_mem_nil), (fun k h => absurd h List.not_mem_nil), fun f g hf hg h => ?_, fun v hv => ?_, ⟨fun _ => ⟨0, 0, 0⟩, (fun _ => (by decide : (0 : Int) ≤ 0 ∧ (0 : Int) < 4)), (fun k h => absurd h List.not_mem_nil)⟩, ?_, ?_⟩
  · rw [range_at0 hf, range_at0 hg] at h
    have : f = g := by omega
    rw [this]
    exact .refl
  · have := List.nodup_iff_count.mp nd v
    omega
  · rw [srtS_range]
    constructor
    · intro h
      simp at h
    · rintro ⟨v, hv, h⟩
      have := List.count_pos_iff.mpr hv
      have h0 : manyB n J [] ((List.range n).map fun k : Nat => (k : Int)) v = 0 := rfl
      omega
  · rw [srtS_range]; simp
theorem Fo.put {ks L : List Int} (h : Fo n J ks L) (sk : Skin n J) {k : Int} (hk : 0 ≤ k ∧ k < (2 * n : Nat)) {u v : Int} (huv : (u = L.getD (smAt n J k).1 0 ∧ v = L.getD (oth J (smAt n J k)).1 0) ∨ (u = L.getD (oth J (smAt n J k)).1 0 ∧ v = L.getD (smAt n J k).1 0)) :
    Fo n J (ks ++ [k]) (rel u v L) := by
  obtain ⟨hf, hi, hg, hj⟩ := sk.sm hk
  have hlt : ∀ e ∈ ks, (smAt n J e).1 < L.length := fun e he => by rw [h.len]; exact (sk.sm (h.inb e he)).1
  have inb' : Inb n (ks ++ [k]) := fun e he => by
    rcases List.mem_append.mp he with z | z
    · exact h.inb e z
    · rw [List.mem_singleton.mp z]; exact hk
  have mono : ∀ x y, Adj n J ks x y → Adj n J (ks ++ [k]) x y := fun x y ⟨e, he, q⟩ => ⟨e, List.mem_append_left _ he, q⟩
  have edge : Cn (Adj n J (ks ++ [k])) (smAt n J k).1 (oth J (smAt n J k)).1 := .step .refl ⟨k, by simp, .inl ⟨rfl, rfl⟩⟩
  have mf : L.getD (smAt n J k).1 0 ∈ L := getD_mem' (by rw [h.len]; exact hf)
  have mg : L.getD (oth J (smAt n J k)).1 0 ∈ L := getD_mem' (by rw [h.len]; exact hg)
  obtain ⟨Pt, ht, hb⟩ := h.pot
  by_cases hne : L.getD (smAt n J k).1 0 = L.getD (oth J (smAt n J k)).1 0
  · have euv : u = v := by rcases huv with ⟨rfl, rfl⟩ | ⟨rfl, rfl⟩ <;> first | exact hne | exact hne.symm
    rw [euv, rel_self]
    have same' : ∀ e ∈ ks ++ [k], L.getD (smAt n J e).1 0 = L.getD (oth J (smAt n J e)).1 0 := fun e he => by
      rcases List.mem_append.mp he with z | z
      · exact h.same e z
      · rw [List.mem_singleton.mp z]; exact hne
    refine ⟨h.len, inb', same', fun f g a b e => (h.conn f g a b e).mono mono, fun w hw => ?_, ⟨Pt, ht, fun e he hm => ?_⟩, ?_, ?_⟩
    · rw [manyB_app]
      have := h.cnt w hw
      omega
    · rw [manyB_app] at hm
      rcases List.mem_append.mp he with z | z
      · by_cases c : L.getD (smAt n J k).1 0 = L.getD (smAt n J e).1 0
        · rw [if_pos c] at hm
          have := h.cnt _ (getD_mem' (hlt e z))
          omega
        · rw [if_neg c] at hm
          exact hb e z hm
      · rw [List.mem_singleton.mp z, if_pos rfl] at hm
        have := h.cnt _ mf
        omega
    · rw [List.length_append, List.length_singleton]
      have := h.le
      refine ⟨fun _ => ⟨_, mf, ?_⟩, fun _ => by omega⟩
      rw [manyB_app, if_pos rfl]
      exact h.cnt _ mf
    · rw [List.length_append, List.length_singleton]
      have := h.le
      omega
  · have une : u ≠ v := by rcases huv with ⟨rfl, rfl⟩ | ⟨rfl, rfl⟩ <;> first | exact hne | exact fun z => hne z.symm
    have hu : u ∈ L := by rcases huv with ⟨rfl, rfl⟩ | ⟨rfl, rfl⟩ <;> assumption
    have hv : v ∈ L := by rcases huv with ⟨rfl, rfl⟩ | ⟨rfl, rfl⟩ <;> assumption
    have at_ : ∀ a, a < n → (rel u v L).getD a 0 = if L.getD a 0 = u then v else L.getD a 0 := fun a ha => rel_at (by rw [h.len]; exact ha)
    have fu : (rel u v L).getD (smAt n J k).1 0 = v := by
      rw [at_ _ hf]
      rcases huv with ⟨a, b⟩ | ⟨a, b⟩
      · rw [if_pos a.symm]
      · rw [← b, if_neg (fun z => une z.symm)]
    have gu : (rel u v L).getD (oth J (smAt n J k)).1 0 = v := by
      rw [at_ _ hg]
      rcases huv with ⟨a, b⟩ | ⟨a, b⟩
      · rw [← b, if_neg (fun z => une z.symm)]
      · rw [if_pos a.symm]
    have ends : ∀ e ∈ ks, (smAt n J e).1 < n ∧ (oth J (smAt n J e)).1 < n := fun e he => let ⟨a, _, b, _⟩ := sk.sm (h.inb e he); ⟨a, b⟩
    have cv := count_rel_v une L
    have mv : manyB n J (ks ++ [k]) (rel u v L) v = manyB n J ks L u + manyB n J ks L v + 1 := by
      rw [manyB_app, fu, if_pos rfl, manyB_rel_v une ks hlt]
    have mo' : ∀ w, w ≠ u → w ≠ v → manyB n J (ks ++ [k]) (rel u v L) w = manyB n J ks L w := fun w h1 h2 => by
      rw [manyB_app, fu, if_neg (fun z => h2 z.symm), manyB_rel_o h1 h2 ks hlt]
      rfl
    have cu := h.cnt u hu
    have cv0 := h.cnt v hv
    obtain ⟨r, a, b, hr, em⟩ := mo_to (ht (smAt n J k).1) (nxt_t (Pt (oth J (smAt n J k)).1) (oth J (smAt n J k)).2 (smAt n J k).2)
    refine ⟨(rel_len _ _ _).trans h.len, inb', fun e he => ?_, fun f g hf' hg' e => ?_, fun w hw => ?_, ⟨fun f => if L.getD f 0 = L.getD (smAt n J k).1 0 then mo r a b (Pt f) else Pt f, fun f => ?_, fun e he hm => ?_⟩, ?_, ?_⟩
    · rcases List.mem_append.mp he with z | z
      · obtain ⟨e1, e2⟩ := ends e z
        rw [at_ _ e1, at_ _ e2, h.same e z]
      · rw [List.mem_singleton.mp z, fu, gu]
    · rw [at_ f hf', at_ g hg'] at e
      have key : ∀ x, x < n → L.getD x 0 = u ∨ L.getD x 0 = v → Cn (Adj n J (ks ++ [k])) x (smAt n J k).1 := fun x hx hxx => by
        have : L.getD x 0 = L.getD (smAt n J k).1 0 ∨ L.getD x 0 = L.getD (oth J (smAt n J k)).1 0 := by
          rcases huv with ⟨p, q⟩ | ⟨p, q⟩ <;> rcases hxx with w | w
          · exact .inl (w.trans p)
          · exact .inr (w.trans q)
          · exact .inr (w.trans p)
          · exact .inl (w.trans q)
        rcases this with w | w
        · exact (h.conn x _ hx hf w).mono mono
        · exact ((h.conn x _ hx hg w).mono mono).trans (edge.symm Adj.symm)
      by_cases c1 : L.getD f 0 = u <;> by_cases c2 : L.getD g 0 = u
      · exact (h.conn f g hf' hg' (c1.trans c2.symm)).mono mono
      · rw [if_pos c1, if_neg c2] at e
        exact (key f hf' (.inl c1)).trans ((key g hg' (.inr e.symm)).symm Adj.symm)
      · rw [if_neg c1, if_pos c2] at e
        exact (key f hf' (.inr e)).trans ((key g hg' (.inl c2)).symm Adj.symm)
      · rw [if_neg c1, if_neg c2] at e
        exact (h.conn f g hf' hg' e).mono mono
    · obtain ⟨w1, w2⟩ := (mem_rel une hu).mp hw
      by_cases c : w = v
      · rw [c, cv, mv]; omega
      · rw [count_rel_o w1 c, mo' w w1 c]
        exact h.cnt w (w2.resolve_right c)
    · dsimp only
      split
      · exact mo_t (ht f)
      · exact ht f
    · rcases List.mem_append.mp he with z | z
      · obtain ⟨e1, e2⟩ := ends e z
        have q : Bes Pt J (smAt n J e) := by
          refine hb e z ?_
          rw [at_ _ e1] at hm
          by_cases c1 : L.getD (smAt n J e).1 0 = u
          · rw [if_pos c1, cv, mv] at hm
            rw [c1]; omega
          · rw [if_neg c1] at hm
            by_cases c2 : L.getD (smAt n J e).1 0 = v
            · rw [c2, cv, mv] at hm
              rw [c2]; omega
            · rw [count_rel_o c1 c2, mo' _ c1 c2] at hm
              exact hm
        have s := h.same e z
        unfold Bes at q ⊢
        dsimp only
        by_cases c : L.getD (smAt n J e).1 0 = L.getD (smAt n J k).1 0
        · rw [if_pos c, if_pos (s.symm.trans c), nxt_mo hr, q]
        · rw [if_neg c, if_neg (fun z => c (s.trans z)), q]
      · rw [List.mem_singleton.mp z]
        unfold Bes
        dsimp only
        rw [if_pos rfl, if_neg (fun z => hne z.symm), em]
        exact nxt_back (ht _) (by omega) (by omega)
    · have sl := srtS_rel une hu hv
      rw [List.length_append, List.length_singleton]
      have e0 : (n < ks.length + 1 + (srtS (rel u v L)).length) ↔ n < ks.length + (srtS L).length := by omega
      rw [e0, h.exc]
      constructor
      · rintro ⟨w, hw, hc⟩
        by_cases c1 : w = u ∨ w = v
        · refine ⟨v, (mem_rel une hu).mpr ⟨une.symm, .inr rfl⟩, ?_⟩
          rw [cv, mv]
          rcases c1 with rfl | rfl <;> omega
        · have c2 : w ≠ u := fun z => c1 (.inl z)
          have c3 : w ≠ v := fun z => c1 (.inr z)
          exact ⟨w, (mem_rel une hu).mpr ⟨c2, .inl hw⟩, by rw [count_rel_o c2 c3, mo' w c2 c3]; exact hc⟩
      · rintro ⟨w, hw, hc⟩
        obtain ⟨w1, w2⟩ := (mem_rel une hu).mp hw
        by_cases c : w = v
        · rw [c, cv, mv] at hc
          by_cases d : L.count u ≤ manyB n J ks L u
          · exact ⟨u, hu, d⟩
          · exact ⟨v, hv, by omega⟩
        · rw [count_rel_o w1 c, mo' w w1 c] at hc
          exact ⟨w, w2.resolve_right c, hc⟩
    · have sl := srtS_rel une hu hv
      rw [List.length_append, List.length_singleton]
      have := h.le
      omega
theorem Fo.putG {ks L : List Int} (h : Fo n J ks L) (sk : Skin n J) {k : Int} (hk : 0 ≤ k ∧ k < (2 * n : Nat)) : Fo n J (ks ++ [k]) (grpS n J L k) := by
  show Fo n J (ks ++ [k]) (rel (max (L.getD (smAt n J k).1 0) (L.getD (oth J (smAt n J k)).1 0)) (min (L.getD (smAt n J k).1 0) (L.getD (oth J (smAt n J k)).1 0)) L)
  refine h.put sk hk ?_
  by_cases c : L.getD (smAt n J k).1 0 ≤ L.getD (oth J (smAt n J k)).1 0
  · exact .inr ⟨by omega, by omega⟩
  · exact .inl ⟨by omega, by omega⟩
theorem fo_fold (sk : Skin n J) : ∀ (ks ks0 L : List Int), Inb n ks → Fo n J ks0 L → Fo n J (ks0 ++ ks) (ks.foldl (grpS n J) L)
  | [], ks0, L, _, h => by rw [List.append_nil]; exact h
  | k :: ks, ks0, L, hi, h => by
    have := fo_fold sk ks (ks0 ++ [k]) (grpS n J L k) (fun z hz => hi z (List.mem_cons_of_mem _ hz)) (h.putG sk (hi k List.mem_cons_self))
    rw [List.append_assoc] at this
    exact this
def hngS (n : Nat) (J : Nat → Nat → Sd) (L : List Int) (k : Int) : List Int := joinL L (smAt n J k).1 (oth J (smAt n J k)).1
def hngI (n : Nat) (J : Nat → Nat → Sd) (ks : List Int) : List Int := ks.foldl (hngS n J) ((List.range n).map fun k : Nat => (k : Int))
theorem Fo.putL {ks L : List Int} (h : Fo n J ks L) (sk : Skin n J) {k : Int} (hk : 0 ≤ k ∧ k < (2 * n : Nat)) : Fo n J (ks ++ [k]) (hngS n J L k) :=
  h.put sk hk (.inl ⟨rfl, rfl⟩)
theorem fo_foldL (sk : Skin n J) : ∀ (ks ks0 L : List Int), Inb n ks → Fo n J ks0 L → Fo n J (ks0 ++ ks) (ks.foldl (hngS n J) L)
  | [], ks0, L, _, h => by rw [List.append_nil]; exact h
  | k :: ks, ks0, L, hi, h => by
    have := fo_foldL sk ks (ks0 ++ [k]) (hngS n J L k) (fun z hz => hi z (List.mem_cons_of_mem _ hz)) (h.putL sk (hi k List.mem_cons_self))
    rw [List.append_assoc] at this
    exact this
theorem hngI_fo (sk : Skin n J) {ks : List Int} (hi : Inb n ks) : Fo n J ks (hngI n J ks) := fo_foldL sk ks [] _ hi (Fo.start n J)
theorem Fo.lab {ks L : List Int} (h : Fo n J ks L) {f g : Nat} (c : Cn (Adj n J ks) f g) : L.getD f 0 = L.getD g 0 :=
  c.closed (S := fun x => L.getD f 0 = L.getD x 0) rfl fun x y hx ⟨k, hk, q⟩ => by
    have s := h.same k hk
    rcases q with ⟨rfl, rfl⟩ | ⟨rfl, rfl⟩
    · exact hx.trans s
    · exact hx.trans s.symm
theorem Fo.iff {ks L : List Int} (h : Fo n J ks L) {f g : Nat} (hf : f < n) (hg : g < n) : L.getD f 0 = L.getD g 0 ↔ Cn (Adj n J ks) f g := ⟨h.conn f g hf hg, h.lab⟩
end
end Ve
namespace Ve
open PySem PySem.Spec L2
section
variable {n : Nat} {J : Nat → Nat → Sd}
theorem Adj.of_mem {E E' : List Int} (h : ∀ k ∈ E, k ∈ E') : ∀ a b, Adj n J E a b → Adj n J E' a b := fun a b ⟨k, hk, q⟩ => ⟨k, h k hk, q⟩
def Hang (n : Nat) (J : Nat → Nat → Sd) (E : List Int) : Prop := ∀ f, f < n → Cn (Adj n J E) 0 f
theorem Hang.two {E : List Int} (h : Hang n J E) {f g : Nat} (hf : f < n) (hg : g < n) : Cn (Adj n J E) f g := ((h f hf).symm Adj.symm).trans (h g hg)
theorem Hang.mono {E E' : List Int} (h : Hang n J E) (s : ∀ k ∈ E, k ∈ E') : Hang n J E' := fun f hf => (h f hf).mono (Adj.of_mem s)
theorem Fo.one {ks L : List Int} (h : Fo n J ks L) (h0 : 0 < n) (c : Hang n J ks) : (srtS L).length = 1 := srtS_one h.len h0 fun f hf => (h.lab (c f hf)).symm
theorem Fo.hang {ks L : List Int} (h : Fo n J ks L) (h0 : 0 < n) (c : (srtS L).length = 1) : Hang n J ks := fun f hf => by
  refine h.conn 0 f h0 hf ?_
  have m0 := mem_srtS.mpr (getD_mem' (L := L) (a := 0) (by rw [h.len]; exact h0))
  have m1 := mem_srtS.mpr (getD_mem' (L := L) (a := f) (by rw [h.len]; exact hf))
  match hh : srtS L with
  | [] => rw [hh] at m0; cases m0
  | [x] =>
    rw [hh] at m0 m1
    rw [List.mem_singleton.mp m0, List.mem_singleton.mp m1]
  | x :: y :: r => rw [hh] at c; simp at c
theorem fo_mono (sk : Skin n J) : ∀ (r ks L : List Int), Inb n r → Fo n J ks L → n < ks.length + (srtS L).length → n < (ks ++ r).length + (srtS (r.foldl (grpS n J) L)).length
  | [], ks, L, _, _, h => by rw [List.append_nil]; exact h
  | k :: r, ks, L, hi, h, e => by
    have hk := hi k List.mem_cons_self
    have hp := h.putG sk hk
    have ⟨hf, _, hg, _⟩ := sk.sm hk
    have := fo_mono sk r (ks ++ [k]) (grpS n J L k) (fun z hz => hi z (List.mem_cons_of_mem _ hz)) hp (by
      rw [List.length_append, List.length_singleton]
      have mf : L.getD (smAt n J k).1 0 ∈ L := getD_mem' (by rw [h.len]; exact hf)
      have mg : L.getD (oth J (smAt n J k)).1 0 ∈ L := getD_mem' (by rw [h.len]; exact hg)
      by_cases c : L.getD (smAt n J k).1 0 = L.getD (oth J (smAt n J k)).1 0
      · have : grpS n J L k = L := by
          show rel (max (L.getD (smAt n J k).1 0) (L.getD (oth J (smAt n J k)).1 0)) (min (L.getD (smAt n J k).1 0) (L.getD (oth J (smAt n J k)).1 0)) L = L
          rw [show max (L.getD (smAt n J k).1 0) (L.getD (oth J (smAt n J k)).1 0) = min (L.getD (smAt n J k).1 0) (L.getD (oth J (smAt n J k)).1 0) by omega, rel_self]
        rw [this]; omega
      · have : (srtS (grpS n J L k)).length + 1 = (srtS L).length := by
          show (srtS (rel (max (L.getD (smAt n J k).1 0) (L.getD (oth J (smAt n J k)).1 0)) (min (L.getD (smAt n J k).1 0) (L.getD (oth J (smAt n J k)).1 0)) L)).length + 1 = _
          by_cases d : L.getD (smAt n J k).1 0 ≤ L.getD (oth J (smAt n J k)).1 0
          · rw [show max (L.getD (smAt n J k).1 0) (L.getD (oth J (smAt n J k)).1 0) = L.getD (oth J (smAt n J k)).1 0 by omega, show min (L.getD (smAt n J k).1 0) (L.getD (oth J (smAt n J k)).1 0) = L.getD (smAt n J k).1 0 by omega]
            exact srtS_rel (fun z => c z.symm) mg mf
          · rw [show max (L.getD (smAt n J k).1 0) (L.getD (oth J (smAt n J k)).1 0) = L.getD (smAt n J k).1 0 by omega, show min (L.getD (smAt n J k).1 0) (L.getD (oth J (smAt n J k)).1 0) = L.getD (oth J (smAt n J k)).1 0 by omega]
            exact srtS_rel c mf mg
        omega)
    rw [List.append_assoc] at this
    exact this
structure Tr0 (n : Nat) (J : Nat → Nat → Sd) (E : List Int) : Prop where
  nd : E.Nodup
  inb : Inb n E
  len : E.length + 1 = n
  hang : Hang n J E
theorem Tr0.split {E ks : List Int} (t : Tr0 n J E) (nd : ks.Nodup) (h : ∀ k ∈ ks, k ∈ E) : ∃ r, Inb n r ∧ (ks ++ r).length + 1 = n ∧ Hang n J (ks ++ r) ∧ (∀ k, k ∈ ks ++ r ↔ k ∈ E) := by
  have mm : ∀ k, k ∈ ks ++ E.filter (fun k => decide (k ∉ ks)) ↔ k ∈ E := fun k => by
    rw [List.mem_append, List.mem_filter]
    constructor
    · rintro (a | ⟨a, _⟩)
      · exact h k a
      · exact a
    · intro a
      by_cases c : k ∈ ks
      · exact .inl c
      · exact .inr ⟨a, decide_eq_true c⟩
  have nd2 : (ks ++ E.filter (fun k => decide (k ∉ ks))).Nodup := List.nodup_append.mpr ⟨nd, t.nd.filter _, fun a ha b hb e => by
    rw [List.mem_filter] at hb
    exact of_decide_eq_true hb.2 (by rw [← e]; exact ha)⟩
  refine ⟨E.filter (fun k => decide (k ∉ ks)), fun k hk => t.inb k (List.mem_filter.mp hk).1, ?_, t.hang.mono fun k hk => (mm k).mpr hk, mm⟩
  rw [nodup_len_eq nd2 t.nd mm]
  exact t.len
end
end Ve
namespace Ve
open PySem PySem.Spec L2
theorem sForI_may {α : Type} {fi : AI} {t : Tg} {b : AS} {gd : Gd} {items : List α} {ls : Ls} {hp hp1 : Hd} (φ : α → D) (Inv : List α → Ls → Hd → Prop) (Ret : D → Hd → Prop) (ei : fi ls hp = some (items.map φ, gd, hp1)) (hg : ∀ d ls hp, Inv d ls hp → gdOk gd hp = true) (h0 : Inv [] ls hp1)
    (step : ∀ (d : List α) (x : α) (r : List α) ls hp, items = d ++ x :: r → Inv d ls hp → ∃ ls1 ls2 hp2, t.asg (φ x) ls = some ls1 ∧ (((b ls1 hp = some (.nx, ls2, hp2) ∨ b ls1 hp = some (.ct, ls2, hp2)) ∧ Inv (d ++ [x]) ls2 hp2) ∨ ∃ v, b ls1 hp = some (.rt v, ls2, hp2) ∧ Ret v hp2)) :
    (∃ ls' hp', sForI fi t b ls hp = some (.nx, ls', hp') ∧ Inv items ls' hp') ∨ ∃ v ls' hp', sForI fi t b ls hp = some (.rt v, ls', hp') ∧ Ret v hp' := by
  have key : ∀ (its done : List α) (ls : Ls) (hp : Hd), items = done ++ its → Inv done ls hp → (∃ ls' hp', sFor t gd b (its.map φ) ls hp = some (.nx, ls', hp') ∧ Inv items ls' hp') ∨ ∃ v ls' hp', sFor t gd b (its.map φ) ls hp = some (.rt v, ls', hp') ∧ Ret v hp' := by
    intro its
    induction its with
    | nil =>
      intro done ls hp e h
      refine .inl ⟨ls, hp, by simp only [List.map_nil, sFor, hg _ _ _ h, if_true], ?_⟩
      rw [e, List.append_nil]
      exact h
    | cons x xs ih =>
      intro done ls hp e h
      obtain ⟨ls1, ls2, hp2, e1, ⟨e2, h2⟩ | ⟨v, e2, h2⟩⟩ := step done x xs ls hp e h
      · have eq : sFor t gd b ((x :: xs).map φ) ls hp = sFor t gd b (xs.map φ) ls2 hp2 := by
          rcases e2 with e2 | e2 <;> simp only [List.map_cons, sFor, hg _ _ _ h, if_true, e1, e2]
        rw [eq]
        exact ih (done ++ [x]) ls2 hp2 (by rw [e, List.append_assoc]; rfl) h2
      · exact .inr ⟨v, ls2, hp2, by simp only [List.map_cons, sFor, hg _ _ _ h, if_true, e1, e2], h2⟩
  have eq : sForI fi t b ls hp = sFor t gd b (items.map φ) ls hp1 := by rw [sForI_s, ei]
  rw [eq]
  exact key items [] ls hp1 rfl h0
theorem gAdd_T1 {hp : Hd} {xs : List Int} (s : Int) (h : xs.length ≤ 10000) : gAdd (T xs) (.tup [.int s]) hp = some (T (xs ++ [s]), hp) := by
  unfold T
  rw [List.map_append]
  exact if_pos (by rw [List.length_map, sizeLine_eq]; show xs.length + 1 ≤ 16777216; omega)
end Ve
namespace Ve
open PySem PySem.Spec L2
open PySem.W (Tup Datum DatumOrd listLt minOf minD_map)
end Ve
namespace Ve
open PySem PySem.Spec L2
end Ve
namespace Ve
open PySem PySem.Spec L2
end Ve
namespace L2
open PySem PySem.Spec PyProof.Rows
end L2
namespace Ve
open PySem PySem.Spec L2 PyProof.Rows
end Ve
namespace Ve
open PySem PySem.Spec L2
section
variable {n : Nat} {J : Nat → Nat → Sd}
def rst (n j : Nat) : List Int := (List.range (2 * n - j)).map fun i : Nat => ((j + i : Nat) : Int)
theorem mem_rst {j : Nat} {k : Int} : k ∈ rst n j ↔ (j : Int) ≤ k ∧ k < (2 * n : Nat) := by
  unfold rst
  rw [List.mem_map]
  constructor
  · rintro ⟨i, hi, rfl⟩
    have := List.mem_range.mp hi
    omega
  · rintro ⟨h1, h2⟩
    exact ⟨k.toNat - j, List.mem_range.mpr (by omega), by omega⟩
theorem hngI_snoc (S : List Int) (k : Int) : hngI n J (S ++ [k]) = hngS n J (hngI n J S) k := by
  unfold hngI
  rw [List.foldl_append]
  rfl
def ext (n : Nat) (J : Nat → Nat → Sd) (ks cs : List Int) (j : Int) (S : List Int) : List (List Int) :=
  (if j ∈ ks then [] else [S]) ++ (if j ∉ cs ∧ (hngI n J S).getD (smAt n J j).1 0 ≠ (hngI n J S).getD (oth J (smAt n J j)).1 0 then [S ++ [j]] else [])
theorem mem_ext {ks cs : List Int} {j : Int} {S R : List Int} : R ∈ ext n J ks cs j S ↔ (j ∉ ks ∧ R = S) ∨ ((j ∉ cs ∧ (hngI n J S).getD (smAt n J j).1 0 ≠ (hngI n J S).getD (oth J (smAt n J j)).1 0) ∧ R = S ++ [j]) := by
  unfold ext
  rw [List.mem_append]
  constructor
  · rintro (h | h)
    · split at h
      · cases h
      · exact .inl ⟨by assumption, List.mem_singleton.mp h⟩
    · split at h
      · exact .inr ⟨by assumption, List.mem_singleton.mp h⟩
      · cases h
  · rintro (⟨h1, rfl⟩ | ⟨h1, rfl⟩)
    · exact .inl (by rw [if_neg h1]; exact List.mem_singleton_self _)
    · exact .inr (by rw [if_pos h1]; exact List.mem_singleton_self _)
theorem ext_len (ks cs : List Int) (j : Int) (S : List Int) : (ext n J ks cs j S).length ≤ 2 := by
  unfold ext
  rw [List.length_append]
  split <;> split <;> simp
def hangsB (n : Nat) (J : Nat → Nat → Sd) (j : Nat) (S : List Int) : Bool := ((srtS (hngI n J (S ++ rst n j))).length : Int) == 1
structure Trs (n : Nat) (J : Nat → Nat → Sd) (ks cs : List Int) (j : Nat) (F : List (List Int)) : Prop where
  so : ∀ S ∈ F, S.Pairwise (· < ·)
  rg : ∀ S ∈ F, ∀ k ∈ S, 0 ≤ k ∧ k < (j : Nat)
  rf : ∀ S ∈ F, S.length + (srtS (hngI n J S)).length = n
  hk : ∀ S ∈ F, ∀ k ∈ ks, k < (j : Nat) → k ∈ S
  hc : ∀ S ∈ F, ∀ k ∈ cs, k ∉ S
  hg : 0 < j → ∀ S ∈ F, hangsB n J j S = true
  all : ∀ E, Tr0 n J E → E.Pairwise (· < ·) → (∀ k ∈ ks, k ∈ E) → (∀ k ∈ cs, k ∉ E) → E.filter (fun k : Int => decide (k < (j : Nat))) ∈ F
  len : F.length ≤ 2 ^ j
theorem Trs.start (ks cs : List Int) (ik : Inb n ks) : Trs n J ks cs 0 [[]] := by
  refine ⟨fun S h => ?_, fun S h => ?_, fun S h => ?_, fun S h k hk hlt => ?_, fun S h => ?_, fun h => absurd h (by omega), fun E t _ _ _ => ?_, Nat.le_refl _⟩
  · rw [List.mem_singleton.mp h]; exact List.Pairwise.nil
  · rw [List.mem_singleton.mp h]; exact fun k hk => absurd hk List.not_mem_nil
  · rw [List.mem_singleton.mp h]
    show 0 + (srtS ((List.range n).map fun k : Nat => (k : Int))).length = n
    rw [srtS_range]
    omega
  · have := (ik k hk).1
    omega
  · rw [List.mem_singleton.mp h]; exact fun k _ => List.not_mem_nil
  · rw [List.filter_eq_nil_iff.mpr fun k hk => by
      have := (t.inb k hk).1
      rw [decide_eq_true_eq]
      omega]
    exact List.mem_singleton_self _
theorem cut_snoc {E : List Int} (so : E.Pairwise (· < ·)) {j : Nat} (hj : ((j : Nat) : Int) ∈ E) : E.filter (fun k : Int => decide (k < ((j + 1 : Nat) : Int))) = E.filter (fun k : Int => decide (k < (j : Nat))) ++ [(j : Int)] := by
  refine lt_unique (so.filter _) ?_ fun k => ?_
  · refine List.pairwise_append.mpr ⟨so.filter _, List.pairwise_singleton _ _, fun a ha b hb => ?_⟩
    rw [List.mem_filter, decide_eq_true_eq] at ha
    rw [List.mem_singleton.mp hb]
    exact ha.2
  · rw [List.mem_append, List.mem_filter, List.mem_filter, List.mem_singleton, decide_eq_true_eq, decide_eq_true_eq]
    constructor
    · rintro ⟨h1, h2⟩
      by_cases c : k < (j : Nat)
      · exact .inl ⟨h1, c⟩
      · exact .inr (by omega)
    · rintro (⟨h1, h2⟩ | rfl)
      · exact ⟨h1, by omega⟩
      · exact ⟨hj, by omega⟩
theorem cut_same {E : List Int} {j : Nat} (hj : ((j : Nat) : Int) ∉ E) : E.filter (fun k : Int => decide (k < ((j + 1 : Nat) : Int))) = E.filter (fun k : Int => decide (k < (j : Nat))) := List.filter_congr fun k hk => by
  refine decide_eq_decide.mpr ⟨fun h => ?_, fun h => by omega⟩
  have : k ≠ (j : Nat) := fun e => hj (by rw [← e]; exact hk)
  omega
theorem part_apart (sk : Skin n J) {E S : List Int} {k : Int} (t : Tr0 n J E) (nd : (S ++ [k]).Nodup) (h : ∀ z ∈ S ++ [k], z ∈ E) (rf : S.length + (srtS (hngI n J S)).length = n) : (hngI n J S).getD (smAt n J k).1 0 ≠ (hngI n J S).getD (oth J (smAt n J k)).1 0 := fun e => by
  obtain ⟨r, ir, lr, hr, mr⟩ := t.split nd h
  have hS : Inb n (S ++ [k]) := fun z hz => t.inb z (h z hz)
  have f0 := hngI_fo sk hS
  have same : hngI n J (S ++ [k]) = hngI n J S := by
    rw [hngI_snoc]
    show rel ((hngI n J S).getD (smAt n J k).1 0) ((hngI n J S).getD (oth J (smAt n J k)).1 0) (hngI n J S) = _
    rw [e, rel_self]
  have x : n < (S ++ [k]).length + (srtS (hngI n J (S ++ [k]))).length := by rw [same, List.length_append, List.length_singleton]; omega
  have y := fo_mono sk r (S ++ [k]) (hngI n J (S ++ [k])) ir f0 x
  have z := fo_fold sk r (S ++ [k]) (hngI n J (S ++ [k])) ir f0
  rw [z.one sk.pos hr] at y
  omega
theorem hangsB_of (sk : Skin n J) {j : Nat} {S : List Int} (hS : Inb n S) (hh : Hang n J (S ++ rst n j)) : hangsB n J j S = true := by
  have f := hngI_fo sk (ks := S ++ rst n j) (fun k hk => by
    rcases List.mem_append.mp hk with z | z
    · exact hS k z
    · have := mem_rst.mp z
      omega)
  unfold hangsB
  rw [f.one sk.pos hh]
  rfl
theorem Trs.step (sk : Skin n J) {ks cs : List Int} {j : Nat} (hj : j < 2 * n) {F : List (List Int)} (h : Trs n J ks cs j F) :
    Trs n J ks cs (j + 1) ((F.flatMap (ext n J ks cs (j : Int))).filter (hangsB n J (j + 1))) := by
  have hjI : 0 ≤ ((j : Nat) : Int) ∧ ((j : Nat) : Int) < (2 * n : Nat) := by omega
  have key : ∀ R ∈ (F.flatMap (ext n J ks cs (j : Int))).filter (hangsB n J (j + 1)), ∃ S ∈ F, hangsB n J (j + 1) R = true ∧ (((j : Int) ∉ ks ∧ R = S) ∨ (((j : Int) ∉ cs ∧ (hngI n J S).getD (smAt n J (j : Int)).1 0 ≠ (hngI n J S).getD (oth J (smAt n J (j : Int))).1 0) ∧ R = S ++ [(j : Int)])) := fun R hR => by
    obtain ⟨h1, h2⟩ := List.mem_filter.mp hR
    obtain ⟨S, hS, hx⟩ := List.mem_flatMap.mp h1
    exact ⟨S, hS, h2, mem_ext.mp hx⟩
  refine ⟨fun R hR => ?_, fun R hR k hk => ?_, fun R hR => ?_, fun R hR k hk hlt => ?_, fun R hR k hk => ?_, fun _ R hR => ?_, fun E t so hk hc => ?_, ?_⟩
  · obtain ⟨S, hS, _, ⟨_, rfl⟩ | ⟨_, rfl⟩⟩ := key R hR
    · exact h.so _ hS
    · refine List.pairwise_append.mpr ⟨h.so S hS, List.pairwise_singleton _ _, fun a ha b hb => ?_⟩
      rw [List.mem_singleton.mp hb]
      exact (h.rg S hS a ha).2
  · obtain ⟨S, hS, _, ⟨_, rfl⟩ | ⟨_, rfl⟩⟩ := key R hR
    · have := h.rg _ hS k hk
      omega
    · rcases List.mem_append.mp hk with z | z
      · have := h.rg S hS k z
        omega
      · rw [List.mem_singleton.mp z]
        omega
  · obtain ⟨S, hS, _, ⟨_, rfl⟩ | ⟨⟨_, hne⟩, rfl⟩⟩ := key R hR
    · exact h.rf _ hS
    · have hSi : Inb n S := fun k hk => by
        have := h.rg S hS k hk
        omega
      have f0 := hngI_fo sk hSi
      obtain ⟨s1, _, s3, _⟩ := sk.sm hjI
      have := srtS_rel (u := (hngI n J S).getD (smAt n J (j : Int)).1 0) (v := (hngI n J S).getD (oth J (smAt n J (j : Int))).1 0) hne (getD_mem' (by rw [f0.len]; exact s1)) (getD_mem' (by rw [f0.len]; exact s3))
      have rf := h.rf S hS
      rw [hngI_snoc, List.length_append, List.length_singleton]
      show S.length + 1 + (srtS (rel _ _ (hngI n J S))).length = n
      omega
  · obtain ⟨S, hS, _, ⟨hn, rfl⟩ | ⟨_, rfl⟩⟩ := key R hR
    · by_cases c : k = (j : Nat)
      · exact absurd (by rw [← c]; exact hk) hn
      · exact h.hk _ hS k hk (by omega)
    · by_cases c : k = (j : Nat)
      · rw [c]; exact List.mem_append_right _ (List.mem_singleton_self _)
      · exact List.mem_append_left _ (h.hk S hS k hk (by omega))
  · obtain ⟨S, hS, _, ⟨_, rfl⟩ | ⟨⟨hn, _⟩, rfl⟩⟩ := key R hR
    · exact h.hc _ hS k hk
    · intro z
      rcases List.mem_append.mp z with w | w
      · exact h.hc S hS k hk w
      · rw [List.mem_singleton.mp w] at hk
        exact hn hk
  · exact (List.mem_filter.mp hR).2
  · have m0 := h.all E t so hk hc
    have hang : ∀ R : List Int, (∀ z ∈ E, z < ((j + 1 : Nat) : Int) → z ∈ R) → (∀ z ∈ R, z ∈ E) → hangsB n J (j + 1) R = true := fun R hR hR2 => by
      refine hangsB_of sk (fun k hk => t.inb k (hR2 k hk)) (t.hang.mono fun k hk => ?_)
      by_cases c : k < ((j + 1 : Nat) : Int)
      · exact List.mem_append_left _ (hR k hk c)
      · exact List.mem_append_right _ (mem_rst.mpr ⟨by omega, (t.inb k hk).2⟩)
    have mem1 : ∀ z ∈ E.filter (fun k : Int => decide (k < ((j + 1 : Nat) : Int))), z ∈ E := fun z hz => (List.mem_filter.mp hz).1
    have mem2 : ∀ z ∈ E, z < ((j + 1 : Nat) : Int) → z ∈ E.filter (fun k : Int => decide (k < ((j + 1 : Nat) : Int))) := fun z hz hlt => List.mem_filter.mpr ⟨hz, decide_eq_true hlt⟩
    have hh := hang _ mem2 mem1
    by_cases c : ((j : Nat) : Int) ∈ E
    · rw [cut_snoc so c] at hh mem1 ⊢
      refine List.mem_filter.mpr ⟨List.mem_flatMap.mpr ⟨_, m0, mem_ext.mpr (.inr ⟨⟨fun z => hc _ z c, ?_⟩, rfl⟩)⟩, hh⟩
      refine part_apart sk t ?_ mem1 (h.rf _ m0)
      rw [← cut_snoc so c]
      exact (so.filter _).imp fun h => by omega
    · rw [cut_same c] at hh ⊢
      exact List.mem_filter.mpr ⟨List.mem_flatMap.mpr ⟨_, m0, mem_ext.mpr (.inl ⟨fun z => c (hk _ z), rfl⟩)⟩, hh⟩
  · have l1 := List.length_filter_le (hangsB n J (j + 1)) (F.flatMap (ext n J ks cs (j : Int)))
    have l2 : ∀ G : List (List Int), (G.flatMap (ext n J ks cs (j : Int))).length ≤ 2 * G.length := by
      intro G
      induction G with
      | nil => exact Nat.le_refl _
      | cons S G ih =>
        have := ext_len (n := n) (J := J) ks cs (j : Int) S
        rw [List.flatMap_cons, List.length_append, List.length_cons]
        omega
    have := l2 F
    have := h.len
    rw [Nat.pow_succ]
    omega
end
end Ve
namespace Ve
open PySem PySem.Spec L2
structure Shw (n w : Nat) (p : PyData) : Prop where
  lay : p.canLay0 = true
  sh : p.showable = true
  nd : p.hasDict = false
  dep : p.depth ≤ n
  wt : p.weight ≤ w
  ish : p.intsShort 13 = true
theorem Shw.int {i : Int} (h : i.natAbs < 10 ^ 12) : Shw 0 64 (.int i) := by
  have hl : i.natAbs.log2 < 40 := by
    by_cases z : i.natAbs = 0
    · rw [z]; decide
    · exact (Nat.log2_lt z).mpr (Nat.lt_of_lt_of_le h (by decide))
  refine ⟨rfl, ?_, rfl, Nat.le_refl _, ?_, ?_⟩
  · show decide (i.natAbs.log2 < 1920) = true
    exact decide_eq_true (by omega)
  · show (if i == 0 then 0 else i.natAbs.log2 + 1) ≤ 64
    split <;> omega
  · show decide ((PyData.shown (.int i)).length ≤ 13) = true
    have := int_text_length_le10 (a := i) (k := 12) (by decide) h
    refine decide_eq_true ?_
    rw [PyData.shown, ofString_length]
    exact this
theorem Shw.tup {n w : Nat} {xs : List PyData} (h : ∀ x ∈ xs, Shw n w x) : Shw (n + 1) (xs.length * (w + 1)) (.tuple xs) := by
  have key : ∀ ys : List PyData, (∀ y ∈ ys, Shw n w y) → PyData.canLayAll0 ys = true ∧ PyData.showableAll ys = true ∧ PyData.hasDictAll ys = false ∧ PyData.depthAll ys ≤ n ∧ PyData.weightAll ys ≤ ys.length * (w + 1) ∧ PyData.intsShortAll 13 ys = true := by
    intro ys
    induction ys with
    | nil => exact fun _ => ⟨rfl, rfl, rfl, Nat.zero_le _, Nat.zero_le _, rfl⟩
    | cons y r ih =>
      intro hy
      obtain ⟨h1, h2, h3, h4, h5, h6⟩ := ih fun z hz => hy z (List.mem_cons_of_mem _ hz)
      have a := hy y List.mem_cons_self
      refine ⟨?_, ?_, ?_, ?_, ?_, ?_⟩
      · rw [PyData.canLayAll0, a.lay, h1]; rfl
      · rw [PyData.showableAll, a.sh, h2]; rfl
      · rw [PyData.hasDictAll, a.nd, h3]; rfl
      · have := a.dep
        rw [PyData.depthAll]
        omega
      · have := a.wt
        rw [PyData.weightAll, List.length_cons, Nat.add_mul, Nat.one_mul]
        omega
      · rw [PyData.intsShortAll, a.ish, h6]; rfl
  obtain ⟨h1, h2, h3, h4, h5, h6⟩ := key xs h
  refine ⟨by rw [PyData.canLay0]; exact h1, by rw [PyData.showable]; exact h2, by rw [PyData.hasDict]; exact h3, ?_, by rw [PyData.weight]; exact h5, by rw [PyData.intsShort]; exact h6⟩
  rw [PyData.depth]
  omega
theorem Shw.ok {n w : Nat} {p : PyData} (h : Shw n w p) (hn : n ≤ 40) (hw : w ≤ 1000000) : reprOk p = true := by
  have hl : p.layable0 = true := by
    unfold PyData.layable0
    rw [h.lay, decide_eq_true (by have := h.dep; omega), decide_eq_true (Nat.le_trans h.wt (Nat.le_trans hw (by decide)))]
    rfl
  have hs := PyData.shown_le_of_layable0 hl h.ish
  unfold reprOk
  rw [h.sh, h.nd, decide_eq_true (by have := h.dep; omega), decide_eq_true (by rw [sizeLine_eq]; omega)]
  rfl
end Ve
namespace Ve
open PySem PySem.Spec L2 PyProof.Rows
end Ve
namespace Ve
open PySem PySem.Spec L2 PyProof.Rows
end Ve
namespace L2
open PySem PySem.Spec PyProof.Rows
end L2
namespace L2
open PySem PySem.Spec PyProof.Rows
structure ZlS (h : Heap) (z TI TO i1 i2 a b : Addr) (i : Nat) : Prop where
  ob : (IsZip h z TI TO .none ∧ ∃ x y, IsTupOf2 h TO x y) ∨ ∃ (T : Addr) (f : Bool) (oT : Obj), PySem.IsZipHeld h z TI TO T f ∧ h.get? T = some oT ∧ T ≠ z ∧ T ≠ i1 ∧ T ≠ i2
  to : ∃ o, h.get? TO = some o
  ti : IsTupOf2 h TI (.ref i1) (.ref i2)
  t1 : h.IsTupleIter i1 a i
  t2 : h.IsTupleIter i2 b i
def zCells (z TI TO i1 i2 : Addr) : List Addr := [z, TI, TO, i1, i2]
theorem ZlS.keep {h h' : Heap} {z TI TO i1 i2 a b : Addr} {i : Nat} (x : ZlS h z TI TO i1 i2 a b i) (k : ∀ c o, c ∈ zCells z TI TO i1 i2 → h.get? c = some o → h'.get? c = some o) (there : ∀ b o, h.get? b = some o → ∃ u, h'.get? b = some u) : ZlS h' z TI TO i1 i2 a b i := by
  obtain ⟨ob, ⟨oTO, to⟩, ti, t1, t2⟩ := x
  refine ⟨?_, ⟨oTO, k _ _ (by simp [zCells]) to⟩, k _ _ (by simp [zCells]) ti, t1.at fun o q => k _ o (by simp [zCells]) q, t2.at fun o q => k _ o (by simp [zCells]) q⟩
  rcases ob with ⟨hz, x, y, hT⟩ | ⟨T, f, oT, hz, hT, r⟩
  · exact .inl ⟨k _ _ (by simp [zCells]) hz, x, y, k _ _ (by simp [zCells]) hT⟩
  · obtain ⟨u, hu⟩ := there T oT hT
    exact .inr ⟨T, f, u, k _ _ (by simp [zCells]) hz, hu, r⟩
theorem ZlS.get {h : Heap} {z TI TO i1 i2 a b : Addr} {i : Nat} (x : ZlS h z TI TO i1 i2 a b i) : ∃ o, h.get? z = some o ∧ o.cls = .type "zip" := by
  rcases x.ob with ⟨hz, _⟩ | ⟨T, f, oT, hz, hT⟩
  · exact ⟨_, hz, rfl⟩
  · exact ⟨_, hz, rfl⟩
end L2
namespace Ve
open PySem PySem.Spec L2
end Ve
namespace Ve
open PySem PySem.Spec L2 PyProof.Rows
theorem rpK_vals {K : PySem.W.Frag} {H : Hp} {μ : List Addr} : ∀ {kvs : List (D × D)} {vs : List (Key × V)}, RpK K H μ kvs vs → Rps K H μ (kvs.map (·.2)) (vs.map (·.2))
  | [], vs, h => by
    rw [RpK] at h
    subst h
    exact Rps.nil
  | p :: kvs, vs, h => by
    rw [RpK] at h
    obtain ⟨k, v, r, rfl, _, h2, h3⟩ := h
    exact Rps.mk h2 (rpK_vals h3)
theorem rpT_vals {K : PySem.W.Frag} {H : Hp} {μ : List Addr} : ∀ {kvs : List (D × D)} {vs : List (List Key × V)}, RpT K H μ kvs vs → Rps K H μ (kvs.map (·.2)) (vs.map (·.2))
  | [], vs, h => by
    rw [RpT] at h
    subst h
    exact Rps.nil
  | p :: kvs, vs, h => by
    rw [RpT] at h
    obtain ⟨ks, k, v, r, _, rfl, _, h2, h3⟩ := h
    exact Rps.mk h2 (rpT_vals h3)
end Ve
namespace Ve
open PySem PySem.Spec L2
end Ve
namespace Ve
open PySem PySem.Spec L2
end Ve
namespace Ve
open PySem PySem.Spec L2
end Ve
namespace Ve
open PySem PySem.Spec L2
section
variable {K : PySem.W.Frag} {H : Hp} {μ : List Addr} {P : Program} {w : World} {h : Heap}
theorem RpN.mem : ∀ {ds : List D} {kas : List (NestedKey × Addr)} {p : NestedKey × Addr}, RpN K H μ ds kas → p ∈ kas → ∃ d ∈ ds, toNK d = some p.1 ∧ p.1.depth ≤ 8 ∧ Rp K H μ d (.ref p.2)
  | [], kas, p, r, hp => by
    rw [RpN] at r
    subst r
    cases hp
  | d :: ds, kas, p, r, hp => by
    rw [RpN] at r
    obtain ⟨k, a, r', rfl, h1, h2, h3, h4⟩ := r
    rcases List.mem_cons.mp hp with rfl | z
    · exact ⟨d, List.mem_cons_self, h1, h2, h3⟩
    · obtain ⟨d', hd, q⟩ := RpN.mem h4 z
      exact ⟨d', List.mem_cons_of_mem _ hd, q⟩
end
theorem RpN.len {K : PySem.W.Frag} {H : Hp} {μ : List Addr} : ∀ {ds : List D} {kas : List (NestedKey × Addr)}, RpN K H μ ds kas → ds.length = kas.length
  | [], kas, r => by
    rw [RpN] at r
    subst r
    rfl
  | d :: ds, kas, r => by
    rw [RpN] at r
    obtain ⟨k, a, r', rfl, h1, h2, h3, h4⟩ := r
    rw [List.length_cons, List.length_cons, RpN.len h4]
theorem RelH.dicN {K : PySem.W.Frag} {H : Hp} {μ : List Addr} {hp : Hd} (r : RelH K H μ hp) {n : Nat} {a : Addr} {ds : List D} (h : μ[n]? = some a) (e : hp[n]? = some (.dicN ds)) : ∃ a0 kas, H a = some (.ext (dnP a0 kas)) ∧ RpN K H μ ds kas := by
  obtain ⟨a2, e2, q⟩ := r.at_ e
  rw [h] at e2
  cases e2
  exact q
end Ve
namespace Ve
open PySem PySem.Spec L2
theorem RpN.at_ {K : PySem.W.Frag} {H : Hp} {μ : List Addr} : ∀ {ds : List D} {kas : List (NestedKey × Addr)} {j : Nat} {p : NestedKey × Addr} {d : D}, RpN K H μ ds kas → kas[j]? = some p → ds[j]? = some d → Rp K H μ d (.ref p.2)
  | [], kas, j, p, d, r, h, e => by simp at e
  | x :: ds, kas, j, p, d, r, h, e => by
    rw [RpN] at r
    obtain ⟨k, a, r', rfl, h1, h2, h3, h4⟩ := r
    cases j with
    | zero =>
      simp at h e
      subst h e
      exact h3
    | succ j =>
      simp at h e
      exact RpN.at_ h4 h e
end Ve
namespace L2
open PySem PySem.Spec PyProof.Rows
end L2
namespace Ve
open PySem PySem.Spec L2
end Ve
namespace Ve
open PySem PySem.Spec L2
end Ve
namespace L2
open PySem PySem.Spec PyProof.Rows
section
variable {X : Cx} {es : List Expr} {t : TA} {pos : Pos}
def tTupF (t : TA) : TE := fun σ H Q => t σ H fun xs H1 => xs.length ≤ sizeLine ∧ ∀ p o, H1 p = none → o.dict = none → Q (.ref p) (upd H1 p (.frz o (.tup xs)))
theorem pe_tupF {x1} (h : PA X es t) : PE X (.Tuple es x1 pos) (tTupF t) := by
  refine ⟨fun pins s σ H Q I hq => ?_⟩
  refine wpAny_Tuple_spliced (thn (h.run pos pins s σ H _ I hq) fun us s1 ⟨xs, H1, I1, r, z, q⟩ => ⟨by rw [← r.length]; exact z, ?_⟩)
  have hf : H1 s1.heap.objs.size = none := I1.hok.fresh (Nat.le_refl _)
  refine ⟨.ref s1.heap.objs.size, _, I1.laid (t' := s1.toks) (o := .frz { cls := .type "tuple", data := .seq us.toArray } (.tup xs)) (fun b u e => Heap.get?_push_of_some _ e) (Nat.le_refl _) ?_, rfl, q _ _ hf ?_⟩
  · exact ⟨Heap.get?_push_size _ rfl, z, us, r, ⟨_, Heap.get?_push_size _ rfl, rfl, _, rfl⟩⟩
  · rfl
def tyW (K : PySem.W.Frag) (x : V) (H : Hp) : Prop := ∃ p, x = .ref p ∧ ((∃ o xs, o.dict = none ∧ H p = some (.frz o (.tup xs))) ∨ ∃ o, K.lookup p = some o ∧ o.cls = .type "tuple" ∧ o.dict = none)
theorem tyW_is {pins : List (Addr × Obj)} {σ : St} {H : Hp} {s : Shared} {x : V} {v : Value} (I : Inv X pins σ H s) (r : RelV x v) (ty : tyW X.K x H) :
    s.TypeIs v "tuple" ∧ ∀ a, v = .ref a → ∃ ob, s.heap.get? a = some ob ∧ ob.dict = none := by
  obtain ⟨p, rfl, ty⟩ := ty
  cases r
  rcases ty with ⟨o, xs, hd, hk⟩ | ⟨o, hk, hc, hd⟩
  · obtain ⟨e, _, its, _, tp⟩ := I.hok p _ hk
    refine ⟨tp.typeIs, fun a e2 => ?_⟩
    cases e2
    exact ⟨o, e, hd⟩
  · refine ⟨⟨o, I.kIn p o hk, hc⟩, fun a e => ?_⟩
    cases e
    exact ⟨o, I.kIn _ o hk, hd⟩
def tBMW (K : PySem.W.Frag) (r : V → List V → Hp → VK → Prop) (to : TE) (t : TA) : TE := fun σ H Q => to σ H fun x H1 => tyW K x H1 ∧ t σ H1 fun xs H2 => r x xs H2 Q
variable {o e : Expr} {to : TE} {name : Str} {apos cpos : Pos} {id : String} {r : V → List V → Hp → VK → Prop}
theorem pe_bmW (slot : Slot "tuple" name id) (hty : typeOf (.builtin id) = pure (.type "method_descriptor")) (hm : MtR X id r) (ho : PE X o to) (ha : PA X (e :: es) t)
    (hbase : attributeBase o name X.env (eval o X.env) = eval o X.env := by rfl)
    (hfew : ((backTo cpos (starEach (e :: es) X.env)).all (fun x => !x.1) && (backToKw cpos (keywordEach [] X.env)).all (fun x => x.1.isSome)
      && decide ((e :: es).length + ([] : List Keyword).length + (if ([] : List Keyword).isEmpty then 0 else 1) < 30)) = true := by rfl)
    (hline : (apos.endLine == cpos.line) = true := by rfl) (hs : starEach (e :: es) X.env = (false, eval e X.env) :: starEach es X.env := by rfl) (hplain : (backTo cpos (starEach es X.env)).any (·.1) = false := by rfl) :
    PE X (.Call (.Attribute o name apos) (e :: es) [] cpos) (tBMW X.K r to t) := by
  refine ⟨fun pins s σ H Q I h => ?_⟩
  refine wpAny_Call_method_late hbase hfew hline rfl (thn (ho.run pins s σ H _ I h) fun v s1 ⟨x, H1, I1, r1, ty, q1⟩ => ?_)
  obtain ⟨h1, h2⟩ := tyW_is I1 r1 ty
  refine ⟨"tuple", id, PySem.F.plainAttrs_tuple, slot, hty, h1, h2, ?_⟩
  have hA := ha.run cpos pins s1 σ H1 _ I1 q1
  rw [hs] at hA ⊢
  refine Calls.callWith_builtin (by show (false || (backTo cpos (starEach es X.env)).any (·.1)) = false; rw [hplain] <;> rfl) (Calls.evalArgs_plain ?_)
  exact thn hA fun us s2 ⟨vs, H2, I2, r2, q2⟩ => hm pins s2 σ H2 x vs v us Q I2 r1 r2 q2
end
end L2
namespace Ve
open PySem PySem.Spec L2
section
variable {X : Cx} {e : Expr} {es : List Expr} {fr : AA} {pos : Pos}
def mTupW (fr : AA) : AE := fun ls hp => match fr ls hp with
  | some (ds, hp1) => if ds.length ≤ sizeLine then some (.wt ds, hp1) else none
  | none => none
theorem de_tupW {x1} (h : DA X es fr) : DE X (.Tuple es x1 pos) (mTupW fr) :=
  PE.imp (pe_tupF h) fun σ H Q ⟨ls, hp, μ, d, hp', rl, rh, e, q⟩ => by
    unfold mTupW at e
    cases e1 : fr ls hp with
    | none => rw [e1] at e; cases e
    | some p1 =>
      obtain ⟨ds, hp1⟩ := p1
      rw [e1] at e
      dsimp only at e
      split at e
      · rename_i hl
        cases e
        refine ⟨ls, hp, μ, ds, hp', rl, rh, e1, fun vs H1 μ1 x1 rh1 r1 => ⟨by rw [r1.len]; exact hl, fun p o hp0 hd => ?_⟩⟩
        have x2 := Ext.laid rh1 (o := .frz o (.tup vs)) hp0
        exact q _ _ μ1 (x1.trans x2) (rh1.laid hp0) (by rw [Rp]; exact ⟨p, vs, rfl, .inl ⟨o, hd, upd_same⟩, r1.ext x2⟩)
      · cases e
def isW : D → Hd → Bool
  | .wt _, _ => true
  | _, _ => false
theorem isW_ty {K : PySem.W.Frag} {H : Hp} {μ : List Addr} {hp : Hd} {d : D} {v : V} (r : Rp K H μ d v) (h : isW d hp = true) : tyW K v H := by
  cases d <;> try (cases h; done)
  rename_i ds
  obtain ⟨a, vs, rfl, t, _⟩ := r.wtE
  rcases t with ⟨o, hd, e⟩ | ⟨o, its, n, h1, h2, h3, _⟩
  · exact ⟨a, rfl, .inl ⟨o, vs, hd, e⟩⟩
  · exact ⟨a, rfl, .inr ⟨o, h1, h2, h3⟩⟩
theorem de_wm {name : Str} {id : String} {o : Expr} {fo : AE} {apos cpos : Pos} {g : D → List D → Hd → Option (D × Hd)} (slot : Slot "tuple" name id) (hty : typeOf (.builtin id) = pure (.type "method_descriptor")) (hm : MtR X id (RM X.K g)) (ho : DE X o fo) (ha : DA X (e :: es) fr)
    (hbase : attributeBase o name X.env (eval o X.env) = eval o X.env := by rfl)
    (hfew : ((backTo cpos (starEach (e :: es) X.env)).all (fun x => !x.1) && (backToKw cpos (keywordEach [] X.env)).all (fun x => x.1.isSome)
      && decide ((e :: es).length + ([] : List Keyword).length + (if ([] : List Keyword).isEmpty then 0 else 1) < 30)) = true := by rfl)
    (hline : (apos.endLine == cpos.line) = true := by rfl) (hs : starEach (e :: es) X.env = (false, eval e X.env) :: starEach es X.env := by rfl) (hplain : (backTo cpos (starEach es X.env)).any (·.1) = false := by rfl) :
    DE X (.Call (.Attribute o name apos) (e :: es) [] cpos) (mMet isW fo fr g) :=
  PE.imp (pe_bmW slot hty hm ho ha hbase hfew hline hs hplain) fun σ H Q ⟨ls, hp, μ, d, hp', rl, rh, e, q⟩ => by
    unfold mMet at e
    split at e
    · rename_i x hp1 e1
      split at e
      · rename_i hck
        split at e
        · rename_i ds hp2 e2
          exact ⟨ls, hp, μ, x, hp1, rl, rh, e1, fun v1 H1 μ1 x1 rh1 r1 => ⟨isW_ty r1 hck, ls, hp1, μ1, ds, hp2, rl.ext x1, rh1, e2, fun vs H2 μ2 x2 rh2 r2 =>
            ⟨hp2, μ2, x, ds, d, hp', rh2, r1.ext x2, r2, e, fun v H3 μ3 x3 rh3 r3 => q v H3 μ3 ((x1.trans x2).trans x3) rh3 r3⟩⟩⟩
        · cases e
      · cases e
    · cases e
end
end Ve
namespace Ve
open PySem PySem.Spec L2
def tw (w : Bool) (ds : List D) : D := match w with
  | true => .wt ds
  | false => .tup ds
section
variable {w : Bool} {ds : List D} {hp : Hd}
theorem gIx_tw {d : D} {j : Nat} (e : ds[j]? = some d) : gIx (tw w ds) (.int (j : Nat)) hp = some (d, hp) := by
  have := atI_nat (xs := ds) e
  cases w
  · show (match atI ds (j : Nat) with | some d => some (d, hp) | none => none) = _
    rw [this]
  · show (match atI ds (j : Nat) with | some d => some (d, hp) | none => none) = _
    rw [this]
end
theorem idxOf_at {α : Type} [BEq α] [LawfulBEq α] {cs : List α} {a : α} (h : a ∈ cs) : cs[cs.idxOf a]? = some a := by
  rw [List.getElem?_eq_getElem (List.idxOf_lt_length_of_mem h), List.getElem_idxOf]
theorem idxOf_eq {α : Type} [BEq α] [LawfulBEq α] {cs : List α} {a : α} {j : Nat} (nd : cs.Nodup) (h : cs[j]? = some a) : cs.idxOf a = j := by
  obtain ⟨hj, e⟩ := List.getElem?_eq_some_iff.mp h
  have hm : a ∈ cs := by rw [← e]; exact List.getElem_mem hj
  have h2 := idxOf_at hm
  obtain ⟨hk, e2⟩ := List.getElem?_eq_some_iff.mp h2
  exact (List.getElem_inj nd).mp (e2.trans e.symm)
def SSt : List (List Int) := [[1, 0], [0, 1], [-1, 0], [0, -1]]
def dif (a b : List Int) : List Int := [b.getD 0 0 - a.getD 0 0, b.getD 1 0 - a.getD 1 0]
def twK (a b : List Int) : Nat := SSt.idxOf (dif a b)
def Sbs (a b : List Int) : Prop := dif a b ∈ SSt
instance (a b : List Int) : Decidable (Sbs a b) := inferInstanceAs (Decidable (_ ∈ _))
theorem mem_SSt {x y : Int} : [x, y] ∈ SSt ↔ (x = 1 ∧ y = 0) ∨ (x = 0 ∧ y = 1) ∨ (x = -1 ∧ y = 0) ∨ (x = 0 ∧ y = -1) := by
  unfold SSt
  simp
theorem Sbs.symm {a b : List Int} (h : Sbs a b) : Sbs b a := by
  unfold Sbs dif at *
  rw [mem_SSt] at *
  omega
def sqA (P : List (List Int)) (i : Nat) : List Int := P.getD i []
def ngb (P : List (List Int)) (J : List Sd) (i : Nat) : List Sd :=
  J.flatMap fun p => (if p.1 = i then [(p.2, twK (sqA P p.1) (sqA P p.2))] else []) ++ if p.2 = i then [(p.1, (twK (sqA P p.1) (sqA P p.2) + 2) % 4)] else []
def JointsOk (P : List (List Int)) (J : List Sd) : Prop := ∀ p ∈ J, (p.1 < p.2 ∧ p.2 < P.length) ∧ Sbs (sqA P p.1) (sqA P p.2)
def CnJ (n : Nat) (J : List Sd) : Prop := ∀ S : Nat → Prop, (∃ i, i < n ∧ S i) → (∀ p ∈ J, S p.1 ↔ S p.2) → ∀ i, i < n → S i
theorem mem_ngb {P : List (List Int)} {J : List Sd} {i : Nat} {q : Sd} : q ∈ ngb P J i ↔ ∃ p ∈ J, (p.1 = i ∧ q = (p.2, twK (sqA P p.1) (sqA P p.2))) ∨ (p.2 = i ∧ q = (p.1, (twK (sqA P p.1) (sqA P p.2) + 2) % 4)) := by
  unfold ngb
  rw [List.mem_flatMap]
  constructor
  · rintro ⟨p, hp, h⟩
    refine ⟨p, hp, ?_⟩
    rcases List.mem_append.mp h with h | h
    · split at h
      · rename_i e; exact .inl ⟨e, List.mem_singleton.mp h⟩
      · cases h
    · split at h
      · rename_i e; exact .inr ⟨e, List.mem_singleton.mp h⟩
      · cases h
  · rintro ⟨p, hp, ⟨e, rfl⟩ | ⟨e, rfl⟩⟩
    · exact ⟨p, hp, List.mem_append_left _ (by rw [if_pos e]; simp)⟩
    · exact ⟨p, hp, List.mem_append_right _ (by rw [if_pos e]; simp)⟩
structure Sqr (P : List (List Int)) : Prop where
  two : Two P
  ne : P ≠ []
  few : P.length ≤ 130
  srt : P.Pairwise (· < ·)
  m0 : mnC P 0 = 0
  m1 : mnC P 1 = 0
structure Pce (P : List (List Int)) (J : List Sd) : Prop where
  sq : Sqr P
  ok : JointsOk P J
  srt : J.Pairwise fun p q => pI p < pI q
  con : CnJ P.length J
end Ve
namespace Ve
open PySem PySem.Spec L2
structure Nbs (o n : Nat) (hp : Hd) (Q : Nat → List Sd) : Prop where
  tb : hp[o + n]? = some (.lst ((List.range n).map fun f => D.ref (o + f)))
  row : ∀ f, f < n → hp[o + f]? = some (.lst ((Q f).map fun q => T (pI q)))
theorem Nbs.keep {o n : Nat} {hp hp2 : Hd} {Q : Nat → List Sd} (h : Nbs o n hp Q) (he : ∀ k, k ≤ o + n → hp2[k]? = hp[k]?) : Nbs o n hp2 Q := ⟨(he _ (Nat.le_refl _)).trans h.tb, fun f hf => (he _ (by omega)).trans (h.row f hf)⟩
theorem Nbs.at_ {o n : Nat} {hp : Hd} {Q : Nat → List Sd} (h : Nbs o n hp Q) {f : Nat} (hf : f < n) : gIx (.ref (o + n)) (.int (f : Nat)) hp = some (.ref (o + f), hp) :=
  gIx_refN (j := f) h.tb (x := .ref (o + f)) (by rw [List.getElem?_map, List.getElem?_range hf]; rfl)
theorem sStore_of {fv fo fi : AE} {ls : Ls} {hp hp1 hp2 hp3 hp4 : Hd} {v o i : D} (e1 : fv ls hp = some (v, hp1)) (e2 : fo ls hp1 = some (o, hp2)) (e3 : fi ls hp2 = some (i, hp3)) (e4 : gSet o i v hp3 = some hp4) : sStore fv fo fi ls hp = some (.nx, ls, hp4) := by
  rw [sStore_s, e1]
  dsimp only
  rw [e2]
  dsimp only
  rw [e3]
  dsimp only
  rw [e4]
section
open PySem.W
theorem maxOf_spec {α : Type} [DecidableEq α] [DatumOrd α] (h : Tot (DatumOrd.lt : α → α → Bool)) (x : α) : ∀ xs : List α, maxOf x xs ∈ x :: xs ∧ ∀ y ∈ x :: xs, DatumOrd.lt (maxOf x xs) y = false := fun xs => by
  unfold maxOf
  induction xs generalizing x with
  | nil =>
    refine ⟨List.mem_cons_self, fun y hy => ?_⟩
    rw [List.mem_singleton.mp hy]
    exact h.irr x
  | cons y ys ih =>
    rw [List.foldl_cons]
    by_cases c : DatumOrd.lt x y = true
    · rw [if_pos c]
      obtain ⟨h1, h2⟩ := ih y
      refine ⟨List.mem_cons_of_mem _ h1, fun z hz => ?_⟩
      rcases List.mem_cons.mp hz with e | hz
      · rw [e]
        cases q : DatumOrd.lt (List.foldl (fun a y => if DatumOrd.lt a y = true then y else a) y ys) x with
        | false => rfl
        | true =>
          have := h.tra _ _ _ q c
          rw [h2 y List.mem_cons_self] at this
          cases this
      · exact h2 z hz
    · rw [if_neg c]
      obtain ⟨h1, h2⟩ := ih x
      refine ⟨?_, fun z hz => ?_⟩
      · rcases List.mem_cons.mp h1 with z | z
        · rw [z]; exact List.mem_cons_self
        · exact List.mem_cons_of_mem _ (List.mem_cons_of_mem _ z)
      · rcases List.mem_cons.mp hz with e | hz
        · rw [e]
          exact h2 x List.mem_cons_self
        · rcases List.mem_cons.mp hz with e | hz
          · rw [e]
            cases q : DatumOrd.lt (List.foldl (fun a y => if DatumOrd.lt a y = true then y else a) x ys) y with
            | false => rfl
            | true =>
              have hx := h2 x List.mem_cons_self
              have hc : DatumOrd.lt x y = false := by simpa using c
              rcases Classical.em (List.foldl (fun a y => if DatumOrd.lt a y = true then y else a) x ys = x) with e2 | e2
              · rw [e2, hc] at q
                cases q
              · exact absurd (h.tri _ _ hx (by
                  cases q3 : DatumOrd.lt x (List.foldl (fun a y => if DatumOrd.lt a y = true then y else a) x ys) with
                  | false => rfl
                  | true =>
                    have := h.tra _ _ _ q3 q
                    rw [hc] at this
                    cases this)) e2
          · exact h2 z (List.mem_cons_of_mem _ hz)
theorem gBestL_TI (mx : Bool) {l : List (List Int)} (hn : l ≠ []) : ∃ m ∈ l, (∀ q ∈ l, if mx = true then ¬ (m < q) else ¬ (q < m)) ∧ ∀ hp : Hd, gBestL mx (l.map T) hp = some (T m, hp) := by
  cases l with
  | nil => exact absurd rfl hn
  | cons b bs =>
    let enc : List Int → Tup Int := fun a => ⟨a⟩
    have e1 : ∀ (hp : Hd) (l : List (List Int)), mapO (pyF hp 15) (l.map T) = some ((l.map enc).map Datum.toD) := fun hp l => by
      have := mapO_T (hp := hp) (n := 13) l
      rw [this, List.map_map]
      rfl
    have lt : ∀ a c : Tup Int, DatumOrd.lt a c = decide (a.items < c.items) := fun a c => listLt_int a.items c.items
    have tot : Tot (DatumOrd.lt : Tup Int → Tup Int → Bool) := Tot.int.tup
    have ha : ∀ l : List (Tup Int), alikeB (l.map Datum.toD) = true := fun l => by
      unfold alikeB
      rw [Bool.and_eq_true, List.all_eq_true, List.all_eq_true]
      refine ⟨fun x hx => ?_, fun x hx => ?_⟩
      · rw [List.all_eq_true]
        intro y hy
        obtain ⟨a, _, rfl⟩ := List.mem_map.mp hx
        obtain ⟨b, _, rfl⟩ := List.mem_map.mp hy
        exact DatumOrd.alike a b
      · obtain ⟨a, _, rfl⟩ := List.mem_map.mp hx
        rfl
    have dec : ∀ (hp : Hd) (a : List Int), decD (Datum.toD (enc a)) = some (T a) := fun hp a => by
      have e := pyF_T (hp := hp) (n := 13) a
      exact dec_enc 15 (T a) _ (plainDs_I a) e
    let M : Tup Int := if mx = true then maxOf (enc b) (bs.map enc) else minOf (enc b) (bs.map enc)
    have hm : M ∈ enc b :: bs.map enc := by
      show (if mx = true then _ else _) ∈ _
      split
      · exact (maxOf_spec tot _ _).1
      · exact minOf_mem _ _
    rw [← List.map_cons, List.mem_map] at hm
    obtain ⟨m, hm1, hm2⟩ := hm
    refine ⟨m, hm1, fun q hq => ?_, fun hp => ?_⟩
    · have hq2 : enc q ∈ enc b :: bs.map enc := by rw [← List.map_cons]; exact List.mem_map_of_mem hq
      cases mx with
      | true =>
        have := (maxOf_spec tot (enc b) (bs.map enc)).2 _ hq2
        have e : maxOf (enc b) (bs.map enc) = enc m := hm2.symm
        rw [e, lt] at this
        rw [if_pos rfl]
        exact of_decide_eq_false this
      | false =>
        have := minOf_le tot (enc b) (bs.map enc) _ hq2
        have e : minOf (enc b) (bs.map enc) = enc m := hm2.symm
        rw [e, lt] at this
        rw [if_neg (by decide)]
        exact of_decide_eq_false this
    · have e : bestD mx ((b :: bs).map T) hp = some (T m) := by
        unfold bestD
        rw [e1]
        have d := PySem.W.depthAll_map ((b :: bs).map enc)
        have hal := ha ((b :: bs).map enc)
        show (if (plainDs ((b :: bs).map T) && (alikeB (((b :: bs).map enc).map Datum.toD) && decide (PyData.depthAll (((b :: bs).map enc).map Datum.toD) ≤ 40))) = true then decD (if mx = true then PySem.W.maxD (Datum.toD (enc b)) ((bs.map enc).map Datum.toD) else PySem.W.minD (Datum.toD (enc b)) ((bs.map enc).map Datum.toD)) else none) = _
        have d2 : Datum.depth (Tup Int) ≤ 40 := by decide
        rw [plainDs_T, hal, decide_eq_true (Nat.le_trans d d2), if_pos (by rfl), minD_map, maxD_map]
        have : (if mx = true then Datum.toD (maxOf (enc b) (bs.map enc)) else Datum.toD (minOf (enc b) (bs.map enc))) = Datum.toD M := by
          show _ = Datum.toD (if mx = true then _ else _)
          split <;> rfl
        rw [this, ← hm2, dec hp]
      unfold gBestL
      rw [e]
end
structure Grw (L : List (List Int)) (JJ : List (List Int × List Int)) : Prop where
  two : Two L
  nd : L.Nodup
  ne : L ≠ []
  inn : ∀ p ∈ JJ, p.1 ∈ L ∧ p.2 ∈ L ∧ Sbs p.1 p.2
  con : ∀ S : List Int → Prop, (∃ q ∈ L, S q) → (∀ p ∈ JJ, S p.1 ↔ S p.2) → ∀ q ∈ L, S q
theorem Grw.one : Grw [[0, 0]] [] := by
  refine ⟨fun c hc => ?_, by simp, by simp, fun p hp => (by cases hp), fun S ⟨q, hq, s⟩ _ r hr => ?_⟩
  · rw [List.mem_singleton.mp hc]
    exact ⟨0, 0, rfl⟩
  · rw [List.mem_singleton.mp hr]
    rw [List.mem_singleton.mp hq] at s
    exact s
theorem Sbs.sub {a b : Int} {c d : List Int} : Sbs (sub2 a b c) (sub2 a b d) ↔ Sbs c d := by
  have : dif (sub2 a b c) (sub2 a b d) = dif c d := by
    show [(d.getD 0 0 - a) - (c.getD 0 0 - a), (d.getD 1 0 - b) - (c.getD 1 0 - b)] = [d.getD 0 0 - c.getD 0 0, d.getD 1 0 - c.getD 1 0]
    rw [show (d.getD 0 0 - a) - (c.getD 0 0 - a) = d.getD 0 0 - c.getD 0 0 by omega, show (d.getD 1 0 - b) - (c.getD 1 0 - b) = d.getD 1 0 - c.getD 1 0 by omega]
  unfold Sbs
  rw [this]
theorem Sbs.irr {c : List Int} : ¬ Sbs c c := fun h => by
  unfold Sbs dif at h
  rw [show c.getD 0 0 - c.getD 0 0 = 0 by omega, show c.getD 1 0 - c.getD 1 0 = 0 by omega] at h
  revert h
  decide
section
variable {L : List (List Int)} {JJ : List (List Int × List Int)}
def hix (L : List (List Int)) (q : List Int) : Nat := (hm L).idxOf (sub2 (mnC L 0) (mnC L 1) q)
end
end Ve
namespace Ve
open PySem PySem.Spec L2
end Ve
namespace L2
open PySem PySem.Spec PyProof.Rows
section
variable {X : Cx}
def rLenST (K : PySem.W.Frag) (P : Program) (w : World) : List V → Hp → VK → Prop := fun vs H Q => ∃ (a : Addr) (L : List (Addr × List Int)), vs = [V.ref a] ∧ H a = some (SetTO P w a L) ∧ (∀ p ∈ L, SqT K H p.1 (p.2.map V.int)) ∧ ((L.map (·.2)).Nodup → Q (.int (L.length : Nat)) H)
theorem cr_lenST : CallR X (.builtin "len") (rLenST X.K X.prog X.w) := by
  intro pins s σ H vs us Q I r ⟨a, L, e, ha, hk, q⟩
  subst e
  rw [Vals.ref1 r]
  have R0 : SetT0 X.prog X.w s.heap a L := (I.hok a _ ha).1
  obtain ⟨es, ep, t, R⟩ := R0.full fun p hp => I.isT (hk p hp)
  obtain ⟨o, ho, hex, hd⟩ := R.ob
  have sz : es.size = L.length := by
    have := congrArg List.length R.rows
    rw [Array.length_toList] at this
    rw [this]
    unfold rowsOf
    rw [List.length_map]
  have few := R.few
  refine call_len_set ho hex hd R.fits (by omega) ⟨.int (L.length : Nat), H, I.tok _, ⟨_, by rw [sz]⟩, q R.nd⟩
end
end L2
namespace Ve
open PySem PySem.Spec L2
def tupsD : List D → Option (List (List Int))
  | [] => some []
  | .tup a :: r => match intsD a, tupsD r with
    | some ns, some rs => some (ns :: rs)
    | _, _ => none
  | _ :: _ => none
theorem tupsD_map : ∀ cs : List (List Int), tupsD (cs.map T) = some cs
  | [] => rfl
  | c :: cs => by
    show (match intsD (c.map D.int), tupsD (cs.map T) with
      | some ns, some rs => some (ns :: rs)
      | _, _ => none) = _
    rw [intsD_map, tupsD_map cs]
theorem tupsD_some : ∀ {ds : List D} {cs : List (List Int)}, tupsD ds = some cs → ds = cs.map T
  | [], cs, h => by cases h; rfl
  | d :: ds, cs, h => by
    cases d <;> try (cases h; done)
    rename_i a
    replace h : (match intsD a, tupsD ds with
      | some ns, some rs => some (ns :: rs)
      | _, _ => none) = some cs := h
    split at h
    · rename_i ns rs e1 e2
      cases h
      rw [intsD_some e1, tupsD_some e2]
      rfl
    · cases h
theorem Rps.tups {K : PySem.W.Frag} {H : Hp} {μ : List Addr} : ∀ {cs : List (List Int)} {vs : List V}, Rps K H μ (cs.map T) vs → ∃ ks : List (Addr × List Int), vs = ks.map (fun p => V.ref p.1) ∧ cs = ks.map (·.2) ∧ ∀ p ∈ ks, TpAt H p.1 (p.2.map V.int)
  | [], vs, h => by
    rw [List.map_nil, Rps] at h
    exact ⟨[], h, rfl, fun p hp => (by cases hp)⟩
  | c :: cs, vs, h => by
    rw [List.map_cons, Rps] at h
    obtain ⟨v, r, rfl, h1, h2⟩ := h
    obtain ⟨ks, e1, e2, h3⟩ := Rps.tups h2
    obtain ⟨a, ws, rfl, t, rs⟩ := Rp.tupE h1
    have := rs.intsE'
    subst this
    refine ⟨(a, c) :: ks, by rw [e1]; rfl, by rw [e2]; rfl, fun p hp => ?_⟩
    rcases List.mem_cons.mp hp with z | z
    · rw [z]; exact t
    · exact h3 p z
theorem sorted_one {l m : List (List Int)} (hl : l.Pairwise (· < ·)) (hm : m.Pairwise (· < ·)) (h : ∀ c, c ∈ l ↔ c ∈ m) : l = m := by
  have nl : l.Nodup := nodup_of_lt hl
  have nm : m.Nodup := nodup_of_lt hm
  have pm := perm_same nl nm h
  exact pm.eq_of_pairwise (fun x y _ _ h1 h2 => absurd (List.lt_trans h1 h2) (List.lt_irrefl x)) hl hm
theorem sortC_lt {cs : List (List Int)} (nd : cs.Nodup) : (sortC cs).Pairwise (· < ·) := by
  have hs := sortC_sorted cs
  have hn : (sortC cs).Pairwise (· ≠ ·) := (sortC_perm cs).nodup_iff.mpr nd
  exact (hs.and hn).imp fun ⟨a, b⟩ => lt_of a b
section
variable {X : Cx} {e : Expr} {fa : AE} {fl : AA} {p p2 pos pos2 : Pos}
theorem TpAt.laid {H : Hp} {a b : Addr} {vs : List V} {o : HO} (h : TpAt H a vs) (h0 : H b = none) : TpAt (upd H b o) a vs := by
  show upd H b o a = _
  rw [upd_ne (ne_of_none h h0)]
  exact h
end
end Ve
namespace Ve
open PySem PySem.Spec L2
end Ve
namespace Ve
open PySem PySem.Spec L2
section
variable {α : Type} [DecidableEq α]
structure Lab (n : Nat) (N : Nat → List Sd) (st : α → Nat → α) (s : α) (l : Nat → α) : Prop where
  at0 : l 0 = s
  on : ∀ i, i < n → ∀ q ∈ N i, l q.1 = st (l i) q.2
abbrev LS (α : Type) := List Nat × (Nat → α)
def putL (l : Nat → α) (a : Nat) (v : α) : Nat → α := fun i => if i = a then v else l i
def lstp (s : LS α) (b : Nat) (v : α) : Option (LS α) := if b ∈ s.1 then (if s.2 b = v then some s else none) else some (s.1 ++ [b], putL s.2 b v)
structure LOk (n : Nat) (N : Nat → List Sd) (st : α → Nat → α) (s : α) (k : LS α) : Prop where
  nd : k.1.Nodup
  in0 : 0 ∈ k.1
  inn : ∀ a ∈ k.1, a < n
  at0 : k.2 0 = s
  forced : ∀ l, Lab n N st s l → ∀ a ∈ k.1, k.2 a = l a
variable {n : Nat} {N : Nat → List Sd} {st : α → Nat → α} {s : α}
theorem LOk.start (hn : 0 < n) : LOk n N st s ([0], fun _ => s) := ⟨by simp, by simp, fun a ha => by rw [List.mem_singleton.mp ha]; exact hn, rfl, fun l h a ha => by
  rw [List.mem_singleton.mp ha, h.at0]⟩
theorem LOk.step {k : LS α} (h : LOk n N st s k) {a : Nat} (ha : a ∈ k.1) {q : Sd} (hq : q ∈ N a) (hb : q.1 < n) :
    (∃ k2, lstp k q.1 (st (k.2 a) q.2) = some k2 ∧ LOk n N st s k2 ∧ (∀ b ∈ k.1, b ∈ k2.1 ∧ k2.2 b = k.2 b) ∧ q.1 ∈ k2.1 ∧ k2.2 q.1 = st (k2.2 a) q.2 ∧ ((q.1 ∈ k.1 ∧ k2 = k) ∨ (q.1 ∉ k.1 ∧ k2.1 = k.1 ++ [q.1]))) ∨ (lstp k q.1 (st (k.2 a) q.2) = none ∧ q.1 ∈ k.1 ∧ ∀ l, ¬ Lab n N st s l) := by
  unfold lstp
  by_cases c : q.1 ∈ k.1
  · rw [if_pos c]
    by_cases e : k.2 q.1 = st (k.2 a) q.2
    · rw [if_pos e]
      exact .inl ⟨k, rfl, h, fun b hb => ⟨hb, rfl⟩, c, e, .inl ⟨c, rfl⟩⟩
    · rw [if_neg e]
      refine .inr ⟨rfl, c, fun l hl => e ?_⟩
      rw [h.forced l hl _ c, h.forced l hl _ ha]
      exact hl.on a (h.inn a ha) q hq
  · rw [if_neg c]
    have old : ∀ b ∈ k.1, putL k.2 q.1 (st (k.2 a) q.2) b = k.2 b := fun b hb => by
      unfold putL
      rw [if_neg (fun e => c (by rw [← e]; exact hb))]
    refine .inl ⟨_, rfl, ⟨?_, List.mem_append_left _ h.in0, fun b hb2 => ?_, ?_, fun l hl b hb2 => ?_⟩, fun b hb2 => ⟨List.mem_append_left _ hb2, old b hb2⟩, by simp, ?_, .inr ⟨c, rfl⟩⟩
    · exact List.nodup_append.mpr ⟨h.nd, by simp, fun x hx y hy e => c (by rw [← List.mem_singleton.mp hy, ← e]; exact hx)⟩
    · rcases List.mem_append.mp hb2 with z | z
      · exact h.inn b z
      · rw [List.mem_singleton.mp z]; exact hb
    · rw [← h.at0]; exact old 0 h.in0
    · rcases List.mem_append.mp hb2 with z | z
      · show putL _ _ _ b = _
        rw [old b z]; exact h.forced l hl b z
      · rw [List.mem_singleton.mp z]
        show putL k.2 q.1 (st (k.2 a) q.2) q.1 = _
        unfold putL
        rw [if_pos rfl, h.forced l hl _ ha]
        exact (hl.on a (h.inn a ha) q hq).symm
    · show putL k.2 q.1 (st (k.2 a) q.2) q.1 = st (putL k.2 q.1 (st (k.2 a) q.2) a) q.2
      rw [old a ha]
      unfold putL
      rw [if_pos rfl]
def lnbs (st : α → Nat → α) (here : Nat) (x : LS α × List Nat) (q : Sd) : Option (LS α × List Nat) := (lstp x.1 q.1 (st (x.1.2 here) q.2)).map fun k2 => (k2, if q.1 ∈ x.1.1 then x.2 else x.2 ++ [q.1])
structure LQ (n : Nat) (N : Nat → List Sd) (st : α → Nat → α) (s : α) (x : LS α × List Nat) : Prop where
  ok : LOk n N st s x.1
  wm : ∀ a ∈ x.2, a ∈ x.1.1
  done : ∀ a ∈ x.1.1, a ∉ x.2 → ∀ q ∈ N a, q.1 ∈ x.1.1 ∧ x.1.2 q.1 = st (x.1.2 a) q.2
  cnt : x.2.length ≤ x.1.1.length
structure LP (n : Nat) (N : Nat → List Sd) (st : α → Nat → α) (s : α) (here : Nat) (y : LS α × List Nat) (d : List Sd) (x : LS α × List Nat) : Prop where
  ok : LOk n N st s x.1
  wm : ∀ a ∈ x.2, a ∈ x.1.1
  hh : here ∈ x.1.1
  w0 : ∀ a ∈ y.2, a ∈ x.2
  new : ∀ a ∈ x.1.1, (a ∈ y.1.1 ∧ x.1.2 a = y.1.2 a) ∨ a ∈ x.2
  keep : ∀ a ∈ y.1.1, a ∈ x.1.1 ∧ x.1.2 a = y.1.2 a
  seen : ∀ q ∈ d, q.1 ∈ x.1.1 ∧ x.1.2 q.1 = st (x.1.2 here) q.2
  cnt : x.2.length + y.1.1.length = y.2.length + x.1.1.length
theorem LP.step {here : Nat} {y x : LS α × List Nat} {d : List Sd} (h : LP n N st s here y d x) {q : Sd} (hq : q ∈ N here) (hb : q.1 < n) : (∃ x2, lnbs st here x q = some x2 ∧ LP n N st s here y (d ++ [q]) x2) ∨ (lnbs st here x q = none ∧ ∀ l, ¬ Lab n N st s l) := by
  unfold lnbs
  rcases h.ok.step h.hh hq hb with ⟨k2, e, ok2, kp, k3, k4, c⟩ | ⟨e, _, no⟩
  · rw [e]
    refine .inl ⟨_, rfl, ?_⟩
    rcases c with ⟨c, rfl⟩ | ⟨c, e2⟩
    · refine ⟨ok2, ?_, h.hh, ?_, ?_, h.keep, fun q' hq' => ?_, ?_⟩
      · dsimp only; rw [if_pos c]; exact h.wm
      · dsimp only; rw [if_pos c]; exact h.w0
      · dsimp only; rw [if_pos c]; exact h.new
      · rcases List.mem_append.mp hq' with z | z
        · exact h.seen q' z
        · rw [List.mem_singleton.mp z]; exact ⟨k3, k4⟩
      · dsimp only; rw [if_pos c]; exact h.cnt
    · refine ⟨ok2, fun a ha => ?_, (kp _ h.hh).1, fun a ha => ?_, fun a ha => ?_, fun a ha => ⟨(kp a (h.keep a ha).1).1, (kp a (h.keep a ha).1).2.trans (h.keep a ha).2⟩, fun q' hq' => ?_, ?_⟩
      · dsimp only at ha ⊢
        rw [if_neg c] at ha
        rcases List.mem_append.mp ha with z | z
        · exact (kp a (h.wm a z)).1
        · rw [List.mem_singleton.mp z]; exact k3
      · dsimp only
        rw [if_neg c]
        exact List.mem_append_left _ (h.w0 a ha)
      · dsimp only at ha ⊢
        rw [if_neg c]
        rw [e2] at ha
        rcases List.mem_append.mp ha with z | z
        · rcases h.new a z with w | w
          · exact .inl ⟨w.1, (kp a z).2.trans w.2⟩
          · exact .inr (List.mem_append_left _ w)
        · exact .inr (List.mem_append_right _ z)
      · rcases List.mem_append.mp hq' with z | z
        · obtain ⟨s1, s2⟩ := h.seen q' z
          refine ⟨(kp _ s1).1, ?_⟩
          rw [(kp _ s1).2, (kp _ h.hh).2]
          exact s2
        · rw [List.mem_singleton.mp z]; exact ⟨k3, k4⟩
      · dsimp only
        rw [if_neg c, e2, List.length_append, List.length_append, List.length_singleton]
        have := h.cnt
        omega
  · rw [e]
    exact .inr ⟨rfl, no⟩
theorem LP.fold {here : Nat} {y : LS α × List Nat} (hN : ∀ q ∈ N here, q.1 < n) : ∀ (r d : List Sd) (x : LS α × List Nat), N here = d ++ r → LP n N st s here y d x → (∃ x2, r.foldlM (lnbs st here) x = some x2 ∧ LP n N st s here y (d ++ r) x2) ∨ (r.foldlM (lnbs st here) x = none ∧ ∀ l, ¬ Lab n N st s l)
  | [], d, x, _, h => .inl ⟨x, rfl, by rw [List.append_nil]; exact h⟩
  | q :: r, d, x, e, h => by
    have hq : q ∈ N here := by rw [e]; simp
    rw [List.foldlM_cons]
    rcases h.step hq (hN q hq) with ⟨x2, e1, h2⟩ | ⟨e1, no⟩
    · rw [e1]
      have := LP.fold hN r (d ++ [q]) x2 (by rw [e, List.append_assoc]; rfl) h2
      rw [List.append_assoc] at this
      exact this
    · rw [e1]
      exact .inr ⟨rfl, no⟩
theorem LQ.pop {here : Nat} {k : LS α} {w : List Nat} (h : LQ n N st s (k, w ++ [here])) (hN : ∀ a q, q ∈ N a → q.1 < n) :
    (∃ x2, (N here).foldlM (lnbs st here) (k, w) = some x2 ∧ LQ n N st s x2 ∧ (n - x2.1.1.length) + x2.2.length < (n - k.1.length) + (w ++ [here]).length) ∨ ((N here).foldlM (lnbs st here) (k, w) = none ∧ ∀ l, ¬ Lab n N st s l) := by
  have hh : here ∈ k.1 := h.wm here (by simp)
  have p0 : LP n N st s here (k, w) [] (k, w) := ⟨h.ok, fun a ha => h.wm a (List.mem_append_left _ ha), hh, fun _ h => h, fun a ha => .inl ⟨ha, rfl⟩, fun a ha => ⟨ha, rfl⟩, fun q hq => (by cases hq), rfl⟩
  rcases LP.fold (fun q hq => hN here q hq) (N here) [] (k, w) rfl p0 with ⟨x2, e, p⟩ | z
  · refine .inl ⟨x2, e, ⟨p.ok, p.wm, fun a ha hw q hq => ?_, ?_⟩, ?_⟩
    · rcases p.new a ha with ⟨z1, z2⟩ | z
      · by_cases c : a = here
        · rw [c] at hq ⊢
          exact p.seen q hq
        · have hw2 : a ∉ w ++ [here] := fun z => by
            rcases List.mem_append.mp z with z | z
            · exact hw (p.w0 a z)
            · exact c (List.mem_singleton.mp z)
          obtain ⟨s1, s2⟩ := h.done a z1 hw2 q hq
          refine ⟨(p.keep _ s1).1, ?_⟩
          rw [(p.keep _ s1).2, (p.keep _ z1).2]
          exact s2
      · exact absurd z hw
    · have := p.cnt
      have := h.cnt
      dsimp only at *
      rw [List.length_append, List.length_singleton] at *
      omega
    · have l1 : x2.1.1.length ≤ n := by
        have := nodup_len (m := List.range n) p.ok.nd fun a ha => List.mem_range.mpr (p.ok.inn a ha)
        rwa [List.length_range] at this
      have l2 : k.1.length ≤ x2.1.1.length := nodup_len h.ok.nd fun a ha => (p.keep a ha).1
      have := p.cnt
      dsimp only at this
      rw [List.length_append, List.length_singleton]
      omega
  · exact .inr z
theorem LOk.len {k : LS α} (h : LOk n N st s k) : k.1.length ≤ n := by
  have := nodup_len (m := List.range n) h.nd fun a ha => List.mem_range.mpr (h.inn a ha)
  rwa [List.length_range] at this
theorem LQ.lab {k : LS α} (h : LQ n N st s (k, [])) (hn : 0 < n) (con : ∀ S : Nat → Prop, S 0 → (∀ a, a < n → S a → ∀ q ∈ N a, S q.1) → ∀ i, i < n → S i) : (∀ i, i < n → i ∈ k.1) ∧ Lab n N st s k.2 := by
  have all := con (fun i => i ∈ k.1) h.ok.in0 fun a _ ha q hq => (h.done a ha (by simp) q hq).1
  exact ⟨all, h.ok.at0, fun i hi q hq => (h.done i (all i hi) (by simp) q hq).2⟩
theorem Lab.uniq {l m : Nat → α} (hl : Lab n N st s l) (hm : Lab n N st s m) (con : ∀ S : Nat → Prop, S 0 → (∀ a, a < n → S a → ∀ q ∈ N a, S q.1) → ∀ i, i < n → S i) : ∀ i, i < n → l i = m i :=
  con (fun i => l i = m i) (hl.at0.trans hm.at0.symm) fun a ha e q hq => by
    show l q.1 = m q.1
    rw [hl.on a ha q hq, hm.on a ha q hq, show l a = m a from e]
def estp (st : α → Nat → α) (k : LS α) (e : Nat × Sd) : Option (LS α) := if e.1 ∈ k.1 then lstp k e.2.1 (st (k.2 e.1) e.2.2) else some k
structure EOk (n : Nat) (N : Nat → List Sd) (st : α → Nat → α) (s : α) (y : LS α) (d : List (Nat × Sd)) (k : LS α) : Prop where
  ok : LOk n N st s k
  keep : ∀ b ∈ y.1, b ∈ k.1 ∧ k.2 b = y.2 b
  seen : ∀ e ∈ d, e.1 ∈ y.1 → e.2.1 ∈ k.1 ∧ k.2 e.2.1 = st (k.2 e.1) e.2.2
theorem EOk.fold {y : LS α} : ∀ (r d : List (Nat × Sd)) (k : LS α), (∀ e ∈ r, e.2 ∈ N e.1 ∧ e.2.1 < n) → EOk n N st s y d k → (∃ k2, r.foldlM (estp st) k = some k2 ∧ EOk n N st s y (d ++ r) k2) ∨ (r.foldlM (estp st) k = none ∧ ∀ l, ¬ Lab n N st s l)
  | [], d, k, _, h => .inl ⟨k, rfl, by rw [List.append_nil]; exact h⟩
  | e :: r, d, k, hr, h => by
    rw [List.foldlM_cons]
    unfold estp
    obtain ⟨he1, he2⟩ := hr e List.mem_cons_self
    by_cases c : e.1 ∈ k.1
    · rw [if_pos c]
      rcases h.ok.step c he1 he2 with ⟨k2, e1, ok2, kp, k3, k4, _⟩ | ⟨e1, _, no⟩
      · rw [e1]
        have := EOk.fold r (d ++ [e]) k2 (fun e' h' => hr e' (List.mem_cons_of_mem _ h')) ⟨ok2, fun b hb => ⟨(kp b (h.keep b hb).1).1, (kp b (h.keep b hb).1).2.trans (h.keep b hb).2⟩, fun e' he' hin => by
          rcases List.mem_append.mp he' with z | z
          · obtain ⟨s1, s2⟩ := h.seen e' z hin
            refine ⟨(kp _ s1).1, ?_⟩
            rw [(kp _ s1).2, (kp _ (h.keep _ hin).1).2]
            exact s2
          · rw [List.mem_singleton.mp z]; exact ⟨k3, k4⟩⟩
        rw [List.append_assoc] at this
        exact this
      · rw [e1]
        exact .inr ⟨rfl, no⟩
    · rw [if_neg c]
      have := EOk.fold r (d ++ [e]) k (fun e' h' => hr e' (List.mem_cons_of_mem _ h')) ⟨h.ok, h.keep, fun e' he' hin => by
        rcases List.mem_append.mp he' with z | z
        · exact h.seen e' z hin
        · rw [List.mem_singleton.mp z] at hin
          exact absurd (h.keep _ hin).1 c⟩
      rw [List.append_assoc] at this
      exact this
end
theorem Pce.conn {P : List (List Int)} {J : List Sd} (con : CnJ P.length J) (ok : JointsOk P J) (hn : 0 < P.length) : ∀ S : Nat → Prop, S 0 → (∀ a, a < P.length → S a → ∀ q ∈ ngb P J a, S q.1) → ∀ i, i < P.length → S i := fun S h0 cl => by
  refine con S ⟨0, hn, h0⟩ fun p hp => ?_
  obtain ⟨⟨h1, h2⟩, _⟩ := ok p hp
  exact ⟨fun h => cl p.1 (by omega) h (p.2, twK (sqA P p.1) (sqA P p.2)) (mem_ngb.mpr ⟨p, hp, .inl ⟨rfl, rfl⟩⟩), fun h => cl p.2 h2 h (p.1, (twK (sqA P p.1) (sqA P p.2) + 2) % 4) (mem_ngb.mpr ⟨p, hp, .inr ⟨rfl, rfl⟩⟩)⟩
end Ve
set_option maxHeartbeats 4000000
namespace L2
open PySem PySem.Spec PyProof.Rows
end L2
namespace Ve
open PySem PySem.Spec L2
end Ve
set_option maxHeartbeats 4000000
namespace L2
open PySem PySem.Spec PyProof.Rows
end L2
namespace Ve
open PySem PySem.Spec L2
end Ve
set_option maxHeartbeats 4000000
namespace L2
open PySem PySem.Spec PyProof.Rows
section
variable {P : Program} {w : World} {A : Around} {E : Value → Shared → Prop} {s : Shared}
theorem set_update_tupsF {I : Addr} {fp wr : List Addr} {G : Array GenState → Array GenState → Prop} {n : Nat} {Pv : Nat → Value → Prop} {St : Nat → Shared → Prop} {R : Result → Shared → Prop}
    (W : WalksS P w A.in1 I fp wr G n Pv St) (S : Addr) (hSf : S ∉ fp) (ks : List (Addr × List Int)) (hn : n = ks.length) (hfew : ∀ l : List (List Int), l.Nodup → (∀ x ∈ l, x ∈ ks.map (·.2)) → l.length < 63) (hval : ∀ i v, Pv i v → ∃ p, ks[i]? = some p ∧ v = .ref p.1)
    (h0 : Heap) (hk : ∀ p ∈ ks, IsT P w h0 p.2 p.1) (hS0 : h0.get? S = none) (hw0 : ∀ b ∈ wr, h0.get? b = none) (hu : A.in1.units < cLine) :
    ∀ (k i : Nat) (s : Shared), n - i = k → i ≤ n → St i s → (∀ b o, h0.get? b = some o → s.heap.get? b = some o) → (∃ L es ep t, SetTR P w s.heap S L es ep t ∧ Got ks i L) →
      (∀ s' L es ep t, Moved (S :: wr) G s s' → SetTR P w s'.heap S L es ep t → Got ks n L → (∀ b o, h0.get? b = some o → s'.heap.get? b = some o) → R (.ok (.ret .none)) s') →
      codeAny (model P w) A (.builtin "set.update.loop" ⟨[.ref S, .ref I], []⟩) R s := by
  have hSw : S ∉ wr := fun h => hSf (W.sub _ h)
  have hsub : ∀ b ∈ wr, b ∈ S :: wr := fun b hb => List.mem_cons_of_mem _ hb
  have keepM : ∀ {s s' : Shared}, Moved wr G s s' → (∀ b o, h0.get? b = some o → s.heap.get? b = some o) → ∀ b o, h0.get? b = some o → s'.heap.get? b = some o := fun hm hkp b o e =>
    hm.heap b o (fun hb => by rw [hw0 b hb] at e; cases e) (hkp b o e)
  intro k
  induction k with
  | zero =>
    intro i s hk' hi hst hkp ⟨L, es, ep, t, hS, g⟩ hR
    have hin : i = n := by omega
    subst hin
    refine codeAny_builtin F.entry_set_update_loop ?_
    rw [Around.under_plainId F.plain_set_update_loop _]
    show wpAny _ A.in1 (pyNext (.ref I) >>= _) _ _ s
    refine wpAny_bind (W.done s _ _ hst fun s' hm => ?_)
    show wpAny _ A.in1 (ret Value.none) _ _ s'
    have hkp' := keepM hm hkp
    have sub : ∀ p ∈ L, p ∈ ks := fun p hp => List.mem_of_mem_take (g.sub p hp)
    exact wpAny_pure (hR s' L es ep t (hm.mono hsub) (hS.keep (fun o e => hm.heap S o hSw e) fun p hp => isT_keep (hk p (sub p hp)) hkp') g hkp')
  | succ k ih =>
    intro i s hk' hi hst hkp ⟨L, es, ep, t, hS, g⟩ hR
    have hlt : i < n := by omega
    refine codeAny_builtin F.entry_set_update_loop ?_
    rw [Around.under_plainId F.plain_set_update_loop _]
    show wpAny _ A.in1 (pyNext (.ref I) >>= _) _ _ s
    refine wpAny_bind (W.item i s _ _ hlt hst fun v s' hP hst' hm => ?_)
    obtain ⟨p, hp, rfl⟩ := hval i v hP
    have hkp' := keepM hm hkp
    have sub : ∀ p ∈ L, p ∈ ks := fun p hp => List.mem_of_mem_take (g.sub p hp)
    have hS' : SetTR P w s'.heap S L es ep t := hS.keep (fun o e => hm.heap S o hSw e) fun q hq => isT_keep (hk q (sub q hq)) hkp'
    have hx : IsT P w s'.heap p.2 p.1 := isT_keep (hk p (List.mem_of_getElem? hp)) hkp'
    show wpAny _ A.in1 (holding [Value.ref p.1] (setAdd S (.ref p.1)) >>= _) _ _ s'
    refine wpAny_bind (wpAny_holding ?_)
    unfold setAdd
    refine wpAny_holding ?_
    refine wpAny_bind (wpAny_pyHash_tuple hu hx ?_)
    refine add_at (s := { s' with toks := s'.toks + (p.2.length + 1) }) hS' hx hu (by
      have := hfew (L.map (·.2)) hS.nd fun x hx => by
        obtain ⟨q, hq, rfl⟩ := List.mem_map.mp hx
        exact List.mem_map_of_mem (sub q hq)
      rw [List.length_map] at this
      omega) fun b h' L' es' ep' t' hsb hS2 c1 c2 => ?_
    have g' : Got ks (i + 1) L' := by
      rcases Classical.em (p.2 ∈ L.map (·.2)) with c | c
      · rw [c1 c]; exact g.same hp c
      · exact g.more hp (c2 c)
    have hkp2 : ∀ b o, h0.get? b = some o → h'.get? b = some o := fun b o e => (hsb.2 b (fun z => by rw [z, hS0] at e; cases e)).trans (hkp' b o e)
    refine wpAny_pure ⟨plainId_quiet F.plain_set_update_loop _, ih (i + 1) _ (by omega) hlt (W.frame _ s' _ _ hst' (Nat.le_add_right _ _) fun b hb o e => ?_) hkp2 ⟨L', es', ep', t', hS2, g'⟩ fun s'' L2 es2 ep2 t2 hm'' hS'' g'' hkp'' => ?_⟩
    · rw [hsb.2 b (fun h : b = S => hSf (by rw [← h]; exact hb))]; exact e
    · refine hR s'' L2 es2 ep2 t2 (Moved.trans W.gtrans ((hm.mono hsub).then_heap (Nat.le_add_right _ _) fun b o hb e => ?_) hm'') hS'' g'' hkp''
      rw [hsb.2 b (fun h : b = S => hb (by rw [h]; exact List.mem_cons_self))]; exact e
theorem call_set_tupsF {l : Addr} {items : Array Value} (ks : List (Addr × List Int)) {Q : Value → Shared → Prop} (hh : A.handled = none) (hl : s.heap.IsList l items) (hit : items.toList = ks.map fun p => Value.ref p.1)
    (hk : ∀ p ∈ ks, IsT P w s.heap p.2 p.1) (hfew : ∀ l : List (List Int), l.Nodup → (∀ x ∈ l, x ∈ ks.map (·.2)) → l.length < 63) (hu : A.units + 3 < cLine)
    (h : ∀ (h' : Heap) (tk : Nat) L es ep t, SetTR P w h' s.heap.objs.size L es ep t → Got ks ks.length L → (∀ b o, s.heap.get? b = some o → h'.get? b = some o) → Q (.ref s.heap.objs.size) { s with heap := h', toks := tk }) :
    wpAny (model P w) A (call (.type "set") [.ref l]) Q E s := by
  have hisz : items.size = ks.length := by
    have q := congrArg List.length hit
    rw [Array.length_toList, List.length_map] at q
    exact q
  obtain ⟨c, tl, hmro⟩ := F.called_set.mro
  have hmade := F.called_set.made
  have hsub := F.called_set.sub
  refine wpAny_call (codeAny_of_tree ?_)
  show wpAny _ _ (callAny (.type "set") _) _ _ _
  refine wpAny_pure ⟨Code.quiet_builtin _ (by decide +kernel), codeAny_builtin F.entry_type_call ?_⟩
  rw [Around.under_plain (weight_type_call_type "set" [.ref l] []) rfl]
  have h1 := F.called_set.notType
  have h2 := F.called_set.canCreate
  have hct := F.typeCall_set_1 (.ref l)
  repeat (any_goals (first | assumption | wp_step))

  refine codeAny_mono (code_set_led1 (.ref l) (E := E) (Q₁ := fun obj s₁ => obj = .ref s.heap.objs.size ∧ s₁ = { s with heap := s.heap.push { cls := .type "set", dict := none, data := .set #[] 0 (.fresh 0 0 (!w.params.followText "set-order")) } }) ⟨rfl, rfl⟩) fun r s₁ hr => ?_
  cases r with
  | error e => exact hr
  | ok fl =>
    cases fl with
    | ret obj =>
      obtain ⟨rfl, rfl⟩ := hr
      have hS : (s.heap.push { cls := .type "set", dict := none, data := .set #[] 0 (.fresh 0 0 (!w.params.followText "set-order")) }).get? s.heap.objs.size = some { cls := .type "set", dict := none, data := .set #[] 0 (.fresh 0 0 (!w.params.followText "set-order")) } := Heap.get?_push_size _ rfl
      have hT : Shared.TypeIs { s with heap := s.heap.push { cls := .type "set", dict := none, data := .set #[] 0 (.fresh 0 0 (!w.params.followText "set-order")) } } (.ref s.heap.objs.size) "set" := ⟨_, hS, rfl⟩
      have hli := F.called_set.init.lookup
      have hbi := F.called_set.init.bind (.ref s.heap.objs.size)
      repeat (any_goals (first | assumption | wp_step))

      refine codeAny_mono (codeAny_call_builtin (R := wants (fun r s₂ => r = .none ∧ ∃ h' tk L es ep t, s₂ = { s with heap := h', toks := tk } ∧ SetTR P w h' s.heap.objs.size L es ep t ∧ Got ks ks.length L ∧
          (∀ b o, s.heap.get? b = some o → h'.get? b = some o)) E) F.called_set.init.plain F.entry_set_init (check_set_init_1 hT ?_)) fun r₂ s₂ hr₂ => ?_
      · obtain ⟨ol, hol, hcl, nl, hdl⟩ := hl
        obtain ⟨ocls, odict, odata, oslots⟩ := ol
        simp only at hcl hdl
        subst hcl; subst hdl
        have hol' : (s.heap.push { cls := .type "set", dict := none, data := .set #[] 0 (.fresh 0 0 (!w.params.followText "set-order")) }).get? l = some { cls := .type "list", dict := odict, data := .seq items nl, slots := oslots } := Heap.get?_push_of_some _ hol
        have hsls := F.sub_list_set
        have hslf := F.sub_list_frozenset
        have hne : (Value.type "list" == Value.type "dict") = false := by decide
        have hl1 : (s.heap.push { cls := .type "set", dict := none, data := .set #[] 0 (.fresh 0 0 (!w.params.followText "set-order")) }).IsList l items := ⟨_, hol', rfl, nl, rfl⟩
        unfold Builtin.«set.__init__» noKeywords Builtin.Frozenset.updateFrom
        generalize hPI : pyIter = PI
        wp_walk
        subst hPI

        refine wpAny_pyIter_list hl1 ?_
        refine wpAny_bind (wpAny_runValue ?_)
        have hlS : l < s.heap.objs.size := Heap.lt_size hol
        have hh3 : A.in1.in1.in1.handled = none := by simp [hh]
        have hz1 : (s.heap.push { cls := .type "set", dict := none, data := .set #[] 0 (.fresh 0 0 (!w.params.followText "set-order")) }).objs.size = s.heap.objs.size + 1 := Heap.size_push ..
        have hneI : l ≠ (s.heap.push { cls := .type "set", dict := none, data := .set #[] 0 (.fresh 0 0 (!w.params.followText "set-order")) }).objs.size := by
          rw [Heap.size_push]; exact Nat.ne_of_lt (Nat.lt_succ_of_lt hlS)
        have hSf : s.heap.objs.size ∉ [(s.heap.push { cls := .type "set", dict := none, data := .set #[] 0 (.fresh 0 0 (!w.params.followText "set-order")) }).objs.size, l] := by
          rw [Heap.size_push]; simp only [List.mem_cons, List.mem_singleton, List.not_mem_nil, or_false, not_or]
          exact ⟨Nat.ne_of_lt (Nat.lt_succ_self _), Nat.ne_of_gt hlS⟩
        have hval : ∀ (i : Nat) (v : Value), items[i]? = some v → ∃ p, ks[i]? = some p ∧ v = .ref p.1 := fun i v hv => by
          have q : items.toList[i]? = some v := by rw [Array.getElem?_toList]; exact hv
          rw [hit, List.getElem?_map] at q
          cases hq : ks[i]? with
          | none => rw [hq] at q; cases q
          | some p =>
            rw [hq] at q
            exact ⟨p, rfl, (Option.some.inj q).symm⟩
        have none_of : ∀ b, s.heap.objs.size ≤ b → s.heap.get? b = none := fun b hb => by
          cases q : s.heap.get? b with
          | none => rfl
          | some o => exact absurd (Nat.lt_of_lt_of_le (Heap.lt_size q) hb) (Nat.lt_irrefl _)
        refine set_update_tupsF ((Walks.list hh3 _ l hneI items).toS) s.heap.objs.size
          hSf ks hisz hfew hval s.heap hk (none_of _ (Nat.le_refl _)) (fun b hb => none_of b (by
            rw [List.mem_singleton.mp hb, Heap.size_push]
            exact Nat.le_succ _)) hu (items.size - 0) 0 _ (by omega) (Nat.zero_le _)
          ⟨⟨_, Heap.get?_push_size _ rfl, rfl, rfl⟩, (hl1.push _)⟩ (fun b o e => Heap.get?_push_of_some _ (Heap.get?_push_of_some _ e)) ?hS0 ?hR
        case hS0 =>
          have hget : ((s.heap.push { cls := .type "set", dict := none, data := .set #[] 0 (.fresh 0 0 (!w.params.followText "set-order")) }).push { cls := .type "list_iterator", data := .fields #[.ref l, .int 0 0] }).get? s.heap.objs.size
              = some { cls := .type "set", dict := none, data := .set #[] 0 (.fresh 0 0 (!w.params.followText "set-order")) } := Heap.get?_push_of_some _ hS
          exact ⟨[], #[], 0, _, setTR_fresh hget, Got.zero ks⟩
        case hR =>
          intro s' L es ep t hm hS' g' hkp
          obtain ⟨h', g2, d', tk', os'⟩ := s'
          have eg : g2 = s.gens := hm.gens
          have ed : d' = s.drawn := hm.drawn
          have eo : os' = s.os := hm.os
          subst eg; subst ed; subst eo
          show wpAny _ _ _ _ _ _
          refine wpAny_pure ?_
          show wpAny _ _ (ret Value.none) _ _ _
          rw [hisz] at g'
          exact wpAny_pure ⟨rfl, h', tk', L, es, ep, t, rfl, hS', g', hkp⟩

      · cases r₂ with
        | error e => exact hr₂
        | ok fl₂ =>
          cases fl₂ with
          | ret r =>
            obtain ⟨rfl, h', tk, L, es, ep, t, rfl, hS', g', hk'⟩ := hr₂
            repeat (any_goals (first | assumption | wp_step))
            exact h _ _ _ _ _ _ hS' g' hk'
          | _ => exact hr₂.elim
    | _ => exact hr.elim
end
section
variable {X : Cx}
def rSetOfF (K : PySem.W.Frag) (P : Program) (w : World) : List V → Hp → VK → Prop := fun xs H Q => ∃ (l : Addr) (ks : List (Addr × List Int)), xs = [V.ref l] ∧ SqL K H l (ks.map fun p => V.ref p.1) ∧ (∀ p ∈ ks, SqT K H p.1 (p.2.map V.int)) ∧ (∀ l : List (List Int), l.Nodup → (∀ x ∈ l, x ∈ ks.map (·.2)) → l.length < 63) ∧
  ∀ a L, H a = none → (∀ p ∈ L, p ∈ ks) → (∀ p ∈ ks, p.2 ∈ L.map (·.2)) → Q (.ref a) (upd H a (SetTO P w a L))
theorem cr_setOfF (hc : X.calm = true) (hu : X.A.units + 64 < cLine) : CallR X (.type "set") (rSetOfF X.K X.prog X.w) := by
  intro pins s σ H xs us Q I r h
  obtain ⟨l, ks, rfl, hl, hk, hf, q⟩ := h
  rw [Vals.ref1 r]
  obtain ⟨its, rv, pl, hz⟩ := I.list hl
  have hn : H s.heap.objs.size = none := I.hok.fresh (Nat.le_refl _)
  refine call_set_tupsF (P := X.prog) (w := X.w) ks (I.ok.hd hc) pl.isList (by simpa using refs_of_vals rv) (fun p hp => I.isT (hk p hp)) hf (by omega) fun h' tk L es ep t R g k => ?_
  refine ⟨.ref s.heap.objs.size, upd H s.heap.objs.size (SetTO X.prog X.w s.heap.objs.size L), I.laid (t' := tk) k (Nat.le_refl _) (setTO_new R.t0), rfl, q _ L hn (fun p hp => ?_) fun p hp => ?_⟩
  · exact List.mem_of_mem_take (g.sub p hp)
  · exact g.all p (by rw [List.take_length]; exact hp)
end
end L2
namespace Ve
open PySem PySem.Spec L2 PyProof.Rows
def mLenSetFL (fl : AA) : AE := fun ls hp => match fl ls hp with
  | some (ds, hp1) => match tupsD ds with
    | some cs => if (ddp cs).length < 63 then some (.int ((ddp cs).length : Nat), hp1) else none
    | none => none
  | none => none
section
variable {X : Cx} {e : Expr} {fa : AE} {fl : AA} {p p2 pos pos2 : Pos}
theorem de_lenSetFL (hc : X.calm = true) (hu : X.A.units + 64 < cLine) (hg : Gl X "len") (hm : X.mg "len" = none) (hg2 : Gl X "set") (hm2 : X.mg "set" = none) (ha : LE X e fl) (he : starEach [e] X.env = (false, eval e X.env) :: starEach [] X.env := by rfl)
    (he2 : starEach [.Call (.Name "set" p2) [e] [] pos2] X.env = (false, eval (.Call (.Name "set" p2) [e] [] pos2) X.env) :: starEach [] X.env := by rfl) : DE X (.Call (.Name "len" p) [.Call (.Name "set" p2) [e] [] pos2] [] pos) (mLenSetFL fl) :=
  PE.imp (pe_callB cr_lenST hg hm PySem.boot_len (pa_cons (pe_callTy (cr_setOfF hc hu) hg2 hm2 PyProof.Rows.boot_set (pa_cons ha pa_nil he) (by decide) (by decide) he rfl) pa_nil he2) (by decide) (by decide) he2 rfl) fun σ H Q ⟨ls, hp, μ, ds, hp', rl, rh, e, q⟩ => by
    unfold mLenSetFL at e
    split at e
    · rename_i ds' hp1 e1
      split at e
      · rename_i cs e3
        split at e
        · rename_i hl
          cases e
          have hds := tupsD_some e3
          subst hds
          refine ⟨ls, hp, μ, _, _, rl, rh, e1, fun a vs H1 μ1 x1 rh1 h0a hna ev rs => ?_⟩
          obtain ⟨ks, rfl, rfl, hk⟩ := rs.tups
          refine ⟨a, ks, rfl, .inl (.inl ev), fun p hp => (hk p hp).sq, fun l nd hl2 => Nat.lt_of_le_of_lt (nodup_len nd fun x hx => ddp_mem.mpr (hl2 x hx)) hl, fun b L h0 hL1 hL2 => ?_⟩
          have x2 := Ext.laid rh1 (o := SetTO X.prog X.w b L) h0
          refine ⟨b, L, rfl, upd_same, fun p hp => ((hk p (hL1 p hp)).laid h0).sq, fun nd => ?_⟩
          have : (L.map (·.2)).length = (ddp (ks.map (·.2))).length := (perm_same nd (ddp_nodup _) fun c => by
            rw [ddp_mem]
            constructor
            · intro hc
              obtain ⟨q, hq, rfl⟩ := List.mem_map.mp hc
              exact List.mem_map_of_mem (hL1 q hq)
            · intro hc
              obtain ⟨q, hq, rfl⟩ := List.mem_map.mp hc
              exact hL2 q hq).length_eq
          rw [List.length_map] at this
          rw [this]
          exact q _ _ μ1 (x1.trans x2) (rh1.laid h0) Rp.int
        · cases e
      · cases e
    · cases e
end
theorem lenSetFL_of {fl : AA} {ls : Ls} {hp hp1 : Hd} {cs : List (List Int)} (e : fl ls hp = some (cs.map T, hp1)) (hl : (ddp cs).length < 63) : mLenSetFL fl ls hp = some (.int ((ddp cs).length : Nat), hp1) := by
  unfold mLenSetFL
  rw [e]
  dsimp only
  rw [tupsD_map]
  exact if_pos hl
section
variable {X : Cx} {o : Expr} {p pos apos mpos : Pos} {td : TE}
def tLV (K : PySem.W.Frag) (td : TE) : TE := fun σ H Q => td σ H fun x H1 => ∃ a hp μ ds, x = V.ref a ∧ RelH K H1 μ hp ∧ ds.length ≤ 1000000 ∧ ((∃ kvs, H1 a = some (.dK kvs) ∧ Rps K H1 μ ds (kvs.map (·.2))) ∨ ∃ kvs, H1 a = some (.dT kvs) ∧ Rps K H1 μ ds (kvs.map (·.2))) ∧
  ∀ p vs, H1 p = none → Rps K H1 μ ds vs → Q (.ref p) (upd H1 p (.lst vs))
theorem pe_listV (hc : X.calm = true) (hu : X.A.units + 64 < cLine) (hg : Gl X "list") (hm : X.mg "list" = none) (hd : PE X o td) (hbase : attributeBase o "values" X.env (eval o X.env) = eval o X.env := by rfl) (hline : (apos.endLine == mpos.line) = true := by rfl)
    (hse : starEach [Expr.Call (.Attribute o "values" apos) [] [] mpos] X.env = (false, eval (Expr.Call (.Attribute o "values" apos) [] [] mpos) X.env) :: starEach [] X.env := by rfl) :
    PE X (.Call (.Name "list" p) [.Call (.Attribute o "values" apos) [] [] mpos] [] pos) (tLV X.K td) := by
  refine ⟨fun pins s σ H Q I h => ?_⟩
  refine Call_ (ld_blt I hg hm bb_list ?_)
  refine PyProof.Rows.callWith_type1 (PyProof.Rows.args_cons (wpAny_Call_method0_late hbase hline (thn (hd.run pins s σ H _ I h) fun v s1 ⟨x, H1, I1, r1, a, hp, μ, ds, ex, rh, hl, hk, q⟩ => ?_)) hse) hse rfl
  subst ex
  obtain rfl : v = Value.ref a := r1
  have raw : ∃ (es : Array DictEntry) (ep : Nat), (a == sysModules) = false ∧ s1.heap.DictRaw a es ep ∧ es.size = ds.length ∧ ∀ (j : Nat) (u : Value) (d : D), (es[j]?.map (·.val)) = some u → ds[j]? = some d → RelD X.K H1 μ u d := by
    rcases hk with ⟨kvs, ev, rs⟩ | ⟨kvs, ev, rs⟩
    · obtain ⟨z, hsys, ws, kv, dd⟩ := dk_of I1.hok ev
      obtain ⟨ep, hat⟩ := dd.dictAt
      obtain ⟨es, raw, hsz, ent⟩ := PySem.Heap.DictAt.raw hat
      have l1 : kvs.length = ws.length := KV.length kv
      have l2 := rs.len
      rw [List.length_map] at l2
      refine ⟨es, ep, hsys, raw, by omega, fun j u d hu' hd' => ?_⟩
      obtain ⟨v, e1, rv⟩ := rs.get hd'
      rw [List.getElem?_map] at e1
      obtain ⟨⟨k, v'⟩, e2, rfl⟩ := Option.map_eq_some_iff.mp e1
      obtain ⟨en, e3, rfl⟩ := Option.map_eq_some_iff.mp hu'
      obtain ⟨hi, e4⟩ := Array.getElem?_eq_some_iff.mp e3
      have hj : j < ws.length := by omega
      obtain ⟨⟨k2, w2⟩, hw⟩ : ∃ q, ws[j]? = some q := ⟨ws[j], List.getElem?_eq_getElem hj⟩
      obtain ⟨x, h1, h2⟩ := KV.at' kv hw
      rw [e2] at h1
      cases h1
      obtain ⟨_, h4⟩ := ent j hi k w2 hw
      rw [← e4, h4]
      exact ⟨_, h2, rv⟩
    · obtain ⟨z, hsm, xs, pr, o', es, ep, ho, hx, hdt, he, _⟩ := (show ObjOk X.prog X.w H1 s1.heap a (.dT kvs) from I1.hok a _ ev)
      have l1 : es.size = xs.length := size_of_entries he
      have l2 : kvs.length = xs.length := Paired.length pr
      have l3 := rs.len
      rw [List.length_map] at l3
      refine ⟨es, ep, hsm, ⟨o', ho, hx, hdt⟩, by omega, fun j u d hu' hd' => ?_⟩
      obtain ⟨v, e1, rv⟩ := rs.get hd'
      rw [List.getElem?_map] at e1
      obtain ⟨⟨k, v'⟩, e2, rfl⟩ := Option.map_eq_some_iff.mp e1
      obtain ⟨b, hb, _, _, e3⟩ := paired_get pr e2
      have qe := entry_at he j
      rw [hb] at qe
      rw [qe] at hu'
      cases hu'
      exact ⟨_, e3, rv⟩
  obtain ⟨es, ep, hsys, raw, hsz, rel⟩ := raw
  refine ⟨"dict", "dict.values", F.plainAttrs_dict, F.slot_dict_values, F.type_dict_values, raw.typeIs, fun b e => ?_, Calls.callWith_builtin rfl (PySem.evalArgs_none ?_)⟩
  · cases e
    obtain ⟨ob, ho, ex, _⟩ := raw
    exact ⟨ob, ho, ex.2.1⟩
  refine call_meetsIn F.slot_dict_values raw.typeIs F.entry_dict_values (F.args_dict_values_1 _) (meets_dict_values_raw a hsys) ⟨⟨es, ep, raw⟩, ?_⟩
  have k1 : ∀ b u, s1.heap.get? b = some u → (s1.heap.push { cls := .type "dict_values", data := .fields #[.ref a] }).get? b = some u := fun b u e => Heap.get?_push_of_some _ e
  have I2 : Inv X pins σ H1 { s1 with heap := s1.heap.push { cls := .type "dict_values", data := .fields #[.ref a] } } := I1.kept (t' := s1.toks) k1
  have hz : es.size ≤ sizeLine := by rw [hsz, sizeLine_eq]; omega
  refine PyProof.Rows.args_nil ?_
  refine PySem.W.kdl_call (PySem.KdlSrc.rawValues (es := es) (ep := ep)) (I2.ok.hd hc) ⟨⟨_, Heap.get?_push_size _ rfl, rfl, rfl⟩, raw.at fun o q => Heap.get?_push_of_some _ q⟩ hz fun h' tk acc' c' hk' hD hit => ?_
  have er : PySem.W.EachIs (RelD X.K H1 μ) acc'.toList ds := each_at (by rw [Array.length_toList, hit.1, hsz]) fun j u d hu' hd' => by
    obtain ⟨hi, e2⟩ := hit.2 j u (by rw [← Array.getElem?_toList]; exact hu')
    exact rel j u d (by rw [Array.getElem?_eq_getElem hi, e2]; rfl) hd'
  obtain ⟨vs', rv', rs'⟩ := each_back er
  have hlen : vs'.length ≤ sizeLine := by rw [rs'.len, ← hsz]; exact hz
  exact ⟨.ref _, upd H1 _ (.lst vs'), I2.laid (t' := tk) hk' (Nat.le_refl _) (show ObjOk X.prog X.w _ _ _ (.lst vs') from ⟨hlen, acc'.toList, c', rv', by simpa [seqObj] using hD⟩), rfl, q _ vs' (I2.hok.fresh (Nat.le_refl _)) rs'⟩
end
def gLstV (d : D) (hp : Hd) : Option (List D × Hd) := match d with
  | .ref n => match hp[n]? with
    | some (.dic kvs) => if kvs.length ≤ 1000000 then some (kvs.map (·.2), hp) else none
    | _ => none
  | _ => none
def mListV (fa : AE) : AA := fun ls hp => match fa ls hp with
  | some (d, hp1) => gLstV d hp1
  | none => none
section
variable {X : Cx} {e : Expr} {fa : AE} {p pos apos mpos : Pos}
theorem le_listV (hc : X.calm = true) (hu : X.A.units + 64 < cLine) (hg : Gl X "list") (hm : X.mg "list" = none) (ha : DE X e fa) (hbase : attributeBase e "values" X.env (eval e X.env) = eval e X.env := by rfl) (hline : (apos.endLine == mpos.line) = true := by rfl)
    (hse : starEach [Expr.Call (.Attribute e "values" apos) [] [] mpos] X.env = (false, eval (Expr.Call (.Attribute e "values" apos) [] [] mpos) X.env) :: starEach [] X.env := by rfl) :
    LE X (.Call (.Name "list" p) [.Call (.Attribute e "values" apos) [] [] mpos] [] pos) (mListV fa) :=
  PE.imp (pe_listV hc hu hg hm ha hbase hline hse) fun σ H Q ⟨ls, hp, μ, ds, hp', rl, rh, e, q⟩ => by
    unfold mListV at e
    split at e
    · rename_i d hp1 e1
      unfold gLstV at e
      split at e
      · rename_i n
        split at e
        · rename_i kvs eh
          split at e
          · rename_i hs
            cases e
            refine ⟨ls, hp, μ, .ref n, _, rl, rh, e1, fun v H1 μ1 x1 rh1 r1 => ?_⟩
            obtain ⟨a, ea, rfl⟩ := r1.refE
            obtain ⟨nd, rk⟩ := rh1.dic ea eh
            refine ⟨a, _, μ1, kvs.map (·.2), rfl, rh1, by rw [List.length_map]; exact hs, ?_, fun p' vs h0 rs => ?_⟩
            · rcases rk with ⟨vs, ev, rk⟩ | ⟨vs, ev, rk⟩
              · exact .inl ⟨vs, ev, rpK_vals rk⟩
              · exact .inr ⟨vs, ev, rpT_vals rk⟩
            · have x := Ext.laid rh1 (o := .lst vs) h0
              exact q p' vs _ μ1 (x1.trans x) (rh1.laid h0) (x1.back rh1 h0) (rh1.notIn h0) upd_same (rs.ext x)
          · cases e
        · cases e
      · cases e
    · cases e
end
end Ve
namespace Ve
open PySem PySem.Spec L2 PySem.W
def leT2 (a b : List (List Int)) : Bool := !DatumOrd.lt (toT2 b) (toT2 a)
def sortT (L : List (List (List Int))) : List (List (List Int)) := L.mergeSort leT2
theorem encD_TT {hp : Hd} (b : List (List Int)) : encD hp (TT b) = Datum.toD (toT2 b) := by
  unfold encD
  rw [pyF_TT (n := 12)]
  rfl
theorem dataLe_TT {hp : Hd} (a b : List (List Int)) : PySem.W.dataLe false (encD hp) (TT a) (TT b) = leT2 a b := by
  rw [PySem.W.dataLe_eq]
  show (!PySem.W.dataLt (encD hp (TT b)) (encD hp (TT a))) = _
  rw [encD_TT, encD_TT, DatumOrd.lt_eq]
  rfl
theorem srt_TT {hp : Hd} (L : List (List (List Int))) : srt hp (L.map TT) = (sortT L).map TT := by
  unfold srt sortT
  rw [List.map_mergeSort]
  intro a _ b _
  exact (dataLe_TT a b).symm
theorem sortT_perm (L : List (List (List Int))) : (sortT L).Perm L := List.mergeSort_perm _ _
theorem srtOk_TT {hp : Hd} {L : List (List (List Int))} (h : ∀ b ∈ L, b ≠ []) : srtOk hp (L.map TT) = true := by
  unfold srtOk
  rw [Bool.and_eq_true, Bool.and_eq_true, Bool.and_eq_true]
  refine ⟨?_, ?_, ?_, ?_⟩ <;> try rw [List.all_map, List.all_eq_true]
  · intro c _
    show (pyF hp 15 (TT c)).isSome = true
    rw [pyF_TT (n := 12)]
    rfl
  · intro c _
    show ((L.map TT).all fun b => PySem.W.alike (encD hp (TT c)) (encD hp b)) = true
    rw [List.all_map, List.all_eq_true]
    intro b _
    show PySem.W.alike (encD hp (TT c)) (encD hp (TT b)) = true
    rw [encD_TT, encD_TT]
    exact DatumOrd.alike _ _
  · rw [Bool.or_eq_true]
    refine .inl ?_
    rw [List.all_map, List.all_eq_true]
    intro c hc
    show isTupC (encD hp (TT c)) = true
    rw [encD_TT, toD_T2]
    cases c with
    | nil => exact absurd rfl (h _ hc)
    | cons x r => rfl
  · intro c _
    show decide ((encD hp (TT c)).depth ≤ 40) = true
    rw [encD_TT]
    have d2 : Datum.depth T2 ≤ 40 := by decide
    exact decide_eq_true (Nat.le_trans (Datum.depth_le _) d2)
theorem gSrt_TT {hp : Hd} {L : List (List (List Int))} (h : ∀ b ∈ L, b ≠ []) : gSrt (L.map TT) hp = some ((sortT L).map TT, hp) := by
  unfold gSrt
  rw [if_pos (srtOk_TT h), srt_TT]
end Ve
namespace Ve
open PySem PySem.Spec L2
open PySem.W PySem.Calls PyProof.Rows PyProof.V
end Ve
namespace Ve
open PySem PySem.Spec L2 PyProof.Rows
def ClN (K : PySem.W.Frag) (c : Str) (C : Addr) : Prop := PySem.W.nsIn K mainGlobals c = some (some (.ref C))
theorem ClN.one {K : PySem.W.Frag} {c : Str} {C D : Addr} (h : ClN K c C) (h' : ClN K c D) : C = D := by
  unfold ClN at h h'
  rw [h] at h'
  cases h'
  rfl
abbrev AR := Ls → Hd → Option (Str × Hd)
abbrev ARS := Ls → Hd → Option (Str × Ls × Hd)
section
variable {X : Cx} {W : WX} {st : Stmt} {rest : List Stmt} {e : Expr} {es : List Expr} {f : ARS} {g : ARS} {fr : AA} {fn : AS} {fe : AR} {ft : AT} {pos : Pos}
def spR (K : PySem.W.Frag) (n : Nat) (r : List D → Hd → Option (Str × Hd)) : Sp := fun vs H _ E => ∃ hp μ ds c hp', ds.length = n ∧ RelH K H μ hp ∧ Rps K H μ ds vs ∧ r ds hp = some (c, hp') ∧
  ∀ H' μ' C, Ext μ H μ' H' → RelH K H' μ' hp' → ClN K c C → E (.ref C) none H'
structure FnR (P : Program) (w : World) (K : PySem.W.Frag) (mg : Str → Option Value) (base : Heap) (k : Nat) (x : Str) (n : Nat) (r : List D → Hd → Option (Str × Hd)) : Prop where
  ex : ∃ (f : Addr) (fd : FuncData) (ps : List Str), FnG P w K mg base (L2N.CX P w) k f fd ps (spR K n r) ∧ mg x = some (.ref f) ∧ PySem.W.keepIn K (.ref f) = true ∧ Binds K fd ps []
theorem FnR.mono {P : Program} {w : World} {K : PySem.W.Frag} {mg : Str → Option Value} {base : Heap} {j k n : Nat} {x : Str} {r : List D → Hd → Option (Str × Hd)} (F : FnR P w K mg base j x n r) (h : j ≤ k) : FnR P w K mg base k x n r := by
  obtain ⟨f, fd, ps, F, a, b, c⟩ := F.ex
  exact ⟨f, fd, ps, F.mono h, a, b, c⟩
end
end Ve
namespace Ve
open PySem PySem.Spec L2
section
variable {X : Cx} {pins : List (Addr × Obj)} {σ : St} {H : Hp} {s : Shared} {a b : Addr} {A : Around} {E : Value → Shared → Prop}
theorem d_updT {kvs more : List (List Key × V)} {Q : Value → Shared → Prop} (hu : A.units + 1 < cLine) (I : Inv X pins σ H s) (e : H a = some (.dT kvs)) (eb : H b = some (.dT more)) (ne : a ≠ b)
    (hap : kvs ≠ [] ∨ (more.map fun p => tupleKeyHash (mixKind X.prog X.w) p.1).Nodup) (hl : kvs.length + more.length ≤ sizeLine) (h : ∀ s', Inv X pins σ (upd H a (.dT (mergeT kvs more))) s' → Q .none s') :
    wpAny (model X.prog X.w) A (call (.builtin "dict.update") [.ref a, .ref b]) Q E s := by
  obtain ⟨z, hd, xs, rel, dd⟩ := dt_of I.hok e
  obtain ⟨z2, hd2, ys, rel2, dd2⟩ := dt_of I.hok eb
  have l1 : kvs.length = xs.length := Paired.length rel
  have l2 : more.length = ys.length := Paired.length rel2
  have hy : ys.map (fun x => (tupleKind (mixKind X.prog X.w)).hash x.1) = more.map fun p => tupleKeyHash (mixKind X.prog X.w) p.1 := by
    clear hap hl h l2 dd2 eb z2
    induction rel2 with
    | nil => rfl
    | @cons p q ps qs hq t ih =>
      rw [List.map_cons, List.map_cons, ih, hq.1]
      rfl
  have ty : ∀ x ∈ ys, s.TypeIs (.ref x.2.1) "tuple" := by
    have all : ∀ {l : List (List Key × V)} {m : List (List Key × Addr × Value)}, KT H l m → ∀ x ∈ m, s.TypeIs (.ref x.2.1) "tuple" := by
      intro l m q
      induction q with
      | nil => intro x hx; exact nomatch hx
      | @cons p q ps qs hq t ih =>
        intro x hx
        rcases List.mem_cons.mp hx with e | hx
        · subst e
          obtain ⟨_, its, r, q⟩ := (show ObjOk X.prog X.w H s.heap x.2.1 (.tup (p.1.map kV)) from I.hok _ _ hq.2.1)
          obtain ⟨o, ho, hc, _⟩ := q
          exact ⟨o, ho, hc⟩
        · exact ih x hx
    exact all rel2
  refine PySem.call_update_dictH (knd := tupleKind (mixKind X.prog X.w)) (kvs := xs) (more := ys) (tupleKind_room_in1 hu) ne hd2 dd dd2 ?_ (by omega) fun h' dd' _ hs => ?_
  · rcases hap with q | q
    · refine .inl fun z => q ?_
      subst z
      exact List.length_eq_zero_iff.mp l1
    · exact .inr ⟨ty, by rw [hy]; exact q⟩
  · have hl2 : (mergeT kvs more).length ≤ sizeLine := Nat.le_trans (length_mergeT _ _) (by omega)
    obtain ⟨q, es, ep, hq, g2, g3, g4, _, g5⟩ := dd'
    have e1 : ∃ m : List (List Key × Addr × V), more = m.map (fun x => (x.1, x.2.2)) ∧ Paired (fun p q => p.1 = q.1 ∧ p.2.1 = q.2.1 ∧ H p.2.1 = some (.tup (p.1.map kV)) ∧ RelV p.2.2 q.2.2) m ys := by
      have all : ∀ {l : List (List Key × V)} {ys : List (List Key × Addr × Value)}, KT H l ys → ∃ m : List (List Key × Addr × V), l = m.map (fun x => (x.1, x.2.2)) ∧ Paired (fun p q => p.1 = q.1 ∧ p.2.1 = q.2.1 ∧ H p.2.1 = some (.tup (p.1.map kV)) ∧ RelV p.2.2 q.2.2) m ys := by
        intro l ys q
        induction q with
        | nil => exact ⟨[], rfl, .nil⟩
        | @cons p q ps qs hq t ih =>
          obtain ⟨m, e1, e2⟩ := ih
          exact ⟨(p.1, q.2.1, p.2) :: m, by rw [List.map_cons, ← e1], .cons ⟨hq.1, rfl, hq.2.1, hq.2.2⟩ e2⟩
      exact all rel2
    obtain ⟨m, e1, e2⟩ := e1
    have kt := KT.putAll (H := H) e2 rel
    rw [← e1] at kt
    refine h _ (d_write I (by rw [e]; exact True.intro) hs ⟨q, hq⟩ ⟨hl2, hd, _, kt.keeps fun c ws ec => ?_, q, es, ep, hq, g2, g3, g4, g5⟩)
    rw [upd_ne (ne_of ec e (fun z => nomatch z))]
    exact ec
end
def hshI (c : List Int) : Int := reduceHash (Builtin.Tuple.tupleHashOf (c.map hashInt))
def intD : D → Option Int
  | .int i => some i
  | _ => none
def keyI : D → Option (List Int)
  | .tup ks => ks.mapM intD
  | _ => none
def hshOk (more : List (D × D)) : Bool := match more.mapM (fun p => keyI p.1) with
  | some cs => decide (cs.map hshI).Nodup
  | none => false
def gUpd (x : D) (ds : List D) (hp : Hd) : Option (D × Hd) := match x, ds with
  | .ref n, [.ref m] => match hp[n]?, hp[m]? with
    | some (.dic kvs), some (.dic (p :: more)) => if (decide (n ≠ m) && tupKey p.1 && dKind kvs p.1 && decide (kvs.length + (p :: more).length ≤ sizeLine) && (!kvs.isEmpty || hshOk (p :: more))) = true then
        some (.non, hp.set n (.dic (putAll kvs (p :: more))))
      else none
    | _, _ => none
  | _, _ => none
theorem mapM_cons_some {α β : Type} {f : α → Option β} {x : α} {xs : List α} {ys : List β} (h : (x :: xs).mapM f = some ys) : ∃ y zs, ys = y :: zs ∧ f x = some y ∧ xs.mapM f = some zs := by
  rw [List.mapM_cons] at h
  cases e : f x with
  | none => rw [e] at h; cases h
  | some y =>
    rw [e] at h
    cases e2 : xs.mapM f with
    | none => rw [e2] at h; cases h
    | some zs =>
      rw [e2] at h
      cases h
      exact ⟨y, zs, rfl, rfl, rfl⟩
theorem ints_keys {w : World} {prog : Program} : ∀ {ks : List D} {k : List Key} {c : List Int}, toKeys ks = some k → ks.mapM intD = some c → k.map (mixKind prog w).hash = c.map hashInt
  | [], k, c, h1, h2 => by
    simp only [toKeys] at h1
    cases h1
    rw [List.mapM_nil] at h2
    cases h2
    rfl
  | d :: ks, k, c, h1, h2 => by
    obtain ⟨y, zs, rfl, e1, e2⟩ := mapM_cons_some h2
    cases d <;> simp only [intD] at e1 <;> try (cases e1; done)
    cases e1
    simp only [toKeys, toKey] at h1
    split at h1
    · rename_i k1 ks1 q1 q2
      cases q1
      cases h1
      rw [List.map_cons, List.map_cons, ints_keys q2 e2]
      rfl
    · cases h1
theorem hash_keys {w : World} {prog : Program} {K : PySem.W.Frag} {H : Hp} {μ : List Addr} : ∀ {kvs : List (D × D)} {vs : List (List Key × V)} {cs : List (List Int)}, RpT K H μ kvs vs → kvs.mapM (fun p => keyI p.1) = some cs →
    (vs.map fun p => tupleKeyHash (mixKind prog w) p.1) = cs.map hshI
  | [], vs, cs, h1, h2 => by
    rw [RpT] at h1
    subst h1
    rw [List.mapM_nil] at h2
    cases h2
    rfl
  | p :: kvs, vs, cs, h1, h2 => by
    rw [RpT] at h1
    obtain ⟨ks, k, v, r, e0, rfl, q1, q2, q3⟩ := h1
    obtain ⟨y, zs, rfl, e1, e2⟩ := mapM_cons_some h2
    rw [e0] at e1
    rw [List.map_cons, List.map_cons, hash_keys q3 e2]
    congr 1
    show reduceHash (Builtin.Tuple.tupleHashOf (k.map (mixKind prog w).hash)) = _
    rw [ints_keys q1 e1]
    rfl
section
variable {X : Cx} {e : Expr} {es : List Expr} {fr : AA} {fa : AE} {tg : Expr}
theorem t_update (hu : X.A.units + 1 < cLine) : MtR X "dict.update" (RM X.K gUpd) := fun pins s σ H x xs v us Q I rx rxs ⟨hp, μ, dx, ds, d, hp', rh, r1, rs, e, q⟩ => by
  unfold gUpd at e
  split at e
  · rename_i n m
    split at e
    · rename_i kvs p more eh em
      split at e
      · rename_i hk
        simp only [Bool.and_eq_true] at hk
        obtain ⟨⟨⟨⟨h1, h2⟩, h3⟩, h4⟩, h5⟩ := hk
        have nm : n ≠ m := of_decide_eq_true h1
        have hl := of_decide_eq_true h4
        cases e
        obtain ⟨vy, rfl, ry⟩ : ∃ vy, xs = [vy] ∧ Rp X.K H μ (.ref m) vy := by
          rw [Rps] at rs
          obtain ⟨v1, w, rfl, q1, q2⟩ := rs
          rw [Rps] at q2
          subst q2
          exact ⟨v1, rfl, q1⟩
        obtain ⟨a, ea, rfl⟩ := r1.refE
        obtain ⟨b, eb, rfl⟩ := ry.refE
        obtain ⟨H1, I1, x1, rh1, nd, c⟩ := dic_kind I rh ea eh h3
        cases rx
        obtain ⟨uy, rfl, rly⟩ : ∃ uy, us = [uy] ∧ RelV (.ref b) uy := by
          cases rxs with
          | cons p t =>
            cases t
            exact ⟨_, rfl, p⟩
        obtain rfl : uy = Value.ref b := rly
        obtain ⟨ks, ek⟩ : ∃ ks, p.1 = .tup ks := by
          obtain ⟨p1, p2⟩ := p
          dsimp only at h2 ⊢
          cases p1 <;> simp only [tupKey] at h2 <;> try (cases h2; done)
          exact ⟨_, rfl⟩
        rcases c with ⟨nt, _⟩ | ⟨_, vs, ev, r⟩
        · exact absurd ek (nt _)
        · obtain ⟨nd2, c2⟩ := rh1.dic eb em
          rcases c2 with ⟨ws, ew, r2⟩ | ⟨ws, ew, r2⟩
          · exact (r2.tupNot rfl ek).elim
          · have nab : a ≠ b := fun z => by
              subst z
              exact nm ((List.getElem?_inj (List.getElem?_eq_some_iff.mp ea).1 rh1.nd).mp (ea.trans eb.symm))
            have hap : vs ≠ [] ∨ (ws.map fun p => tupleKeyHash (mixKind X.prog X.w) p.1).Nodup := by
              rw [Bool.or_eq_true] at h5
              rcases h5 with h5 | h5
              · refine .inl fun z => ?_
                subst z
                cases kvs with
                | nil => simp at h5
                | cons p0 k0 =>
                  rw [RpT] at r
                  obtain ⟨_, _, _, _, _, e0, _⟩ := r
                  cases e0
              · unfold hshOk at h5
                split at h5
                · rename_i cs ec
                  rw [hash_keys r2 ec]
                  exact .inr (of_decide_eq_true h5)
                · cases h5
            have l1 := r.len
            have l2 := r2.len
            refine d_updT hu I1 ev ew nab hap (by omega) fun s' I2 => ?_
            obtain ⟨nd3, r3⟩ := r2.putAll nd r
            have x0 : Mon μ H1 μ (upd H1 a (.dT (mergeT vs ws))) := ⟨⟨[], by simp⟩, fun b xs e => by rw [upd_ne (fun z => by subst z; rw [ev] at e; cases e)]; exact e, fun b ob xs _ e => by rw [upd_ne (fun z => by subst z; rw [ev] at e; cases e)]; exact e⟩
            obtain ⟨r4, x2⟩ := rh1.put (o := .dic (putAll kvs (p :: more))) (u := .dT (mergeT vs ws)) ea ⟨nd3, .inr ⟨_, rfl, r3.mon x0⟩⟩
            exact ⟨.non, _, I2, rfl, q _ _ μ (x1.trans x2) r4 (by rw [Rp])⟩
      · cases e
    · cases e
  · cases e
end
theorem keyI_T (c : List Int) : keyI (T c) = some c := by
  show (c.map D.int).mapM intD = some c
  induction c with
  | nil => rfl
  | cons i c ih =>
    rw [List.map_cons, List.mapM_cons, ih]
    rfl
theorem hshOk_Cd {cs : List (List Int)} (h : (cs.map hshI).Nodup) : hshOk (Cd cs) = true := by
  have e : ∀ cs : List (List Int), (Cd cs).mapM (fun p => keyI p.1) = some cs := by
    intro cs
    induction cs with
    | nil => rfl
    | cons c cs ih =>
      show ((T c, D.bl true) :: Cd cs).mapM (fun p => keyI p.1) = _
      rw [List.mapM_cons, ih]
      dsimp only
      rw [keyI_T]
      rfl
  unfold hshOk
  rw [e]
  exact decide_eq_true h
theorem gUpd_of {hp : Hd} {n m : Nat} {acc cs : List (List Int)} (gn : hp[n]? = some (.dic (Cd acc))) (gm : hp[m]? = some (.dic (Cd cs))) (nm : n ≠ m) (ne : cs ≠ []) (hl : acc.length + cs.length ≤ 1000000) (h : acc ≠ [] ∨ (cs.map hshI).Nodup) :
    gUpd (.ref n) [.ref m] hp = some (.non, hp.set n (.dic (Cd (cs.foldl addC acc)))) := by
  cases cs with
  | nil => exact absurd rfl ne
  | cons c cs =>
    have tk : tupKey (T c) = true := by
      show (toKeys (c.map D.int)).isSome = true
      rw [toKeys_ints]
      rfl
    have dk : dKind (Cd acc) (T c) = true := dKind_Gd _ _ _
    unfold gUpd
    dsimp only
    rw [gn, gm]
    show (if (decide (n ≠ m) && tupKey (T c) && dKind (Cd acc) (T c) && decide ((Cd acc).length + (Cd (c :: cs)).length ≤ sizeLine) && (!(Cd acc).isEmpty || hshOk (Cd (c :: cs)))) = true then some (D.non, hp.set n (.dic (putAll (Cd acc) (Cd (c :: cs))))) else none) = _
    have hz : (Cd acc).length + (Cd (c :: cs)).length ≤ sizeLine := by
      rw [show (Cd acc).length = acc.length from List.length_map _, show (Cd (c :: cs)).length = (c :: cs).length from List.length_map _, sizeLine_eq]
      omega
    have he : (!(Cd acc).isEmpty || hshOk (Cd (c :: cs))) = true := by
      rcases h with h | h
      · cases acc with
        | nil => exact absurd rfl h
        | cons _ _ => rfl
      · rw [hshOk_Cd h, Bool.or_true]
    rw [decide_eq_true nm, tk, dk, decide_eq_true hz, he, if_pos (by rfl), putAll_ddp]
end Ve
namespace Ve
open PySem PySem.Spec L2 PyProof.Rows
end Ve
namespace Ve
abbrev Mx := Nat → Nat → Rat
def sch (M : Mx) : Mx := fun i j => M (i + 1) (j + 1) - M (i + 1) 0 * M 0 (j + 1) / M 0 0
def dt : Nat → Mx → Rat
  | 0, _ => 1
  | m + 1, M => M 0 0 * dt m (sch M)
def smQ : Nat → (Nat → Rat) → Rat
  | 0, _ => 0
  | m + 1, f => f 0 + smQ m fun j => f (j + 1)
theorem smQ_congr : ∀ (m : Nat) {f g : Nat → Rat}, (∀ j, j < m → f j = g j) → smQ m f = smQ m g
  | 0, _, _, _ => rfl
  | m + 1, f, g, h => by
    unfold smQ
    rw [h 0 (Nat.succ_pos m), smQ_congr m fun j hj => h (j + 1) (by omega)]
theorem smQ_nonpos : ∀ (m : Nat) {f : Nat → Rat}, (∀ j, j < m → f j ≤ 0) → smQ m f ≤ 0
  | 0, _, _ => Rat.le_refl
  | m + 1, f, h => by
    unfold smQ
    have h0 := h 0 (Nat.succ_pos m)
    have h1 := smQ_nonpos m fun j hj => h (j + 1) (by omega)
    grind
theorem smQ_zero : ∀ (m : Nat) {f : Nat → Rat}, (∀ j, j < m → f j ≤ 0) → 0 ≤ smQ m f → ∀ j, j < m → f j = 0
  | 0, _, _, _ => fun j hj => absurd hj (Nat.not_lt_zero j)
  | m + 1, f, h, hs => fun j hj => by
    unfold smQ at hs
    have h0 := h 0 (Nat.succ_pos m)
    have h1 := smQ_nonpos m fun j hj => h (j + 1) (by omega)
    cases j with
    | zero => grind
    | succ j => exact smQ_zero m (fun j hj => h (j + 1) (by omega)) (by grind) j (by omega)
theorem smQ_lin (c d : Rat) : ∀ (m : Nat) (f g : Nat → Rat), smQ m (fun j => f j - c * g j / d) = smQ m f - c * smQ m g / d
  | 0, _, _ => by
    unfold smQ
    grind
  | m + 1, f, g => by
    unfold smQ
    rw [smQ_lin c d m (fun j => f (j + 1)) fun j => g (j + 1)]
    grind
structure Kd (m : Nat) (M : Mx) : Prop where
  off : ∀ i j, i < m → j < m → i ≠ j → M i j ≤ 0
  row : ∀ i, i < m → 0 ≤ smQ m (M i)
def dlt (a i : Nat) : Nat := if i < a then i else i + 1
theorem smQ_del : ∀ (m a : Nat) (f : Nat → Rat), a ≤ m → smQ (m + 1) f = f a + smQ m fun j => f (dlt a j)
  | m, 0, f, _ => by
    show f 0 + smQ m (fun j => f (j + 1)) = f 0 + smQ m fun j => f (dlt 0 j)
    congr 1
  | 0, a + 1, _, h => absurd h (by omega)
  | m + 1, a + 1, f, h => by
    have ih := smQ_del m a (fun j => f (j + 1)) (by omega)
    show f 0 + smQ (m + 1) (fun j => f (j + 1)) = f (a + 1) + (f (dlt (a + 1) 0) + smQ m fun j => f (dlt (a + 1) (j + 1)))
    have e1 : dlt (a + 1) 0 = 0 := by unfold dlt; rw [if_pos (Nat.succ_pos a)]
    have e2 : smQ m (fun j => f (dlt (a + 1) (j + 1))) = smQ m (fun j => f (dlt a j + 1)) := smQ_congr m fun j _ => by
      congr 1
      unfold dlt
      split <;> split <;> omega
    rw [ih, e1, e2]
    grind
theorem dt_congr : ∀ (m : Nat) {M N : Mx}, (∀ i j, i < m → j < m → M i j = N i j) → dt m M = dt m N
  | 0, _, _, _ => rfl
  | m + 1, M, N, h => by
    unfold dt
    rw [h 0 0 (Nat.succ_pos m) (Nat.succ_pos m), dt_congr m fun i j hi hj => by
      unfold sch
      rw [h (i + 1) (j + 1) (by omega) (by omega), h (i + 1) 0 (by omega) (by omega), h 0 (j + 1) (by omega) (by omega), h 0 0 (by omega) (by omega)]]
    rfl
theorem Kd.congr {m : Nat} {M N : Mx} (k : Kd m M) (h : ∀ i j, i < m → j < m → M i j = N i j) : Kd m N :=
  ⟨fun i j hi hj hn => by rw [← h i j hi hj]; exact k.off i j hi hj hn, fun i hi => by rw [smQ_congr m fun j hj => (h i j hi hj).symm]; exact k.row i hi⟩
theorem rdiv_nonneg {a b : Rat} (ha : 0 ≤ a) (hb : 0 ≤ b) : 0 ≤ a / b := by
  rw [Rat.div_def]
  refine Rat.mul_nonneg ha ?_
  by_cases h : b = 0
  · rw [h, Rat.inv_zero]
    exact Rat.le_refl
  · have : 0 < b := by grind
    exact Rat.le_of_lt (Rat.inv_pos.mpr this)
section
variable {m : Nat} {M : Mx}
theorem Kd.diag (k : Kd m M) {a : Nat} (ha : a < m) : 0 ≤ M a a := by
  cases m with
  | zero => exact absurd ha (Nat.not_lt_zero a)
  | succ m =>
    have h := k.row a ha
    rw [smQ_del m a (M a) (by omega)] at h
    have := smQ_nonpos m (f := fun j => M a (dlt a j)) fun j hj => k.off a (dlt a j) ha (by unfold dlt; split <;> omega) (by unfold dlt; split <;> omega)
    grind
theorem Kd.zero (k : Kd m M) {a : Nat} (ha : a < m) (h0 : M a a = 0) : ∀ j, j < m → M a j = 0 := by
  cases m with
  | zero => exact absurd ha (Nat.not_lt_zero a)
  | succ m =>
    have h := k.row a ha
    rw [smQ_del m a (M a) (by omega), h0] at h
    have z := smQ_zero m (f := fun j => M a (dlt a j)) (fun j hj => k.off a (dlt a j) ha (by unfold dlt; split <;> omega) (by unfold dlt; split <;> omega)) (by grind)
    intro j hj
    by_cases e : j = a
    · rw [e, h0]
    · by_cases l : j < a
      · have := z j (by omega)
        simp only [dlt, if_pos l] at this
        exact this
      · have := z (j - 1) (by omega)
        simp only [dlt] at this
        rw [if_neg (by omega), show j - 1 + 1 = j by omega] at this
        exact this
theorem Kd.sch (k : Kd (m + 1) M) : Kd m (sch M) := by
  have p0 := k.diag (a := 0) (Nat.succ_pos m)
  refine ⟨fun i j hi hj hn => ?_, fun i hi => ?_⟩
  · have h1 := k.off (i + 1) (j + 1) (by omega) (by omega) (by omega)
    have h2 := k.off (i + 1) 0 (by omega) (by omega) (by omega)
    have h3 := k.off 0 (j + 1) (by omega) (by omega) (by omega)
    have h4 : 0 ≤ M (i + 1) 0 * M 0 (j + 1) := by
      have := Rat.mul_nonneg (a := -M (i + 1) 0) (b := -M 0 (j + 1)) (by grind) (by grind)
      grind
    have h5 := rdiv_nonneg h4 p0
    unfold Ve.sch
    grind
  · have e : smQ m (Ve.sch M i) = smQ m (fun j => M (i + 1) (j + 1)) - M (i + 1) 0 * smQ m (fun j => M 0 (j + 1)) / M 0 0 := smQ_lin (M (i + 1) 0) (M 0 0) m (fun j => M (i + 1) (j + 1)) fun j => M 0 (j + 1)
    have r0 := k.row 0 (Nat.succ_pos m)
    have r1 := k.row (i + 1) (by omega)
    have c0 := k.off (i + 1) 0 (by omega) (by omega) (by omega)
    unfold smQ at r0 r1
    rw [e]
    by_cases z : M 0 0 = 0
    · rw [z, Rat.div_def, Rat.inv_zero]
      grind
    · have h4 : 0 ≤ (-M (i + 1) 0) * (M 0 0 + smQ m fun j => M 0 (j + 1)) := Rat.mul_nonneg (by grind) r0
      have h5 := rdiv_nonneg h4 p0
      have h6 : (-M (i + 1) 0) * (M 0 0 + smQ m fun j => M 0 (j + 1)) / M 0 0 = -M (i + 1) 0 - M (i + 1) 0 * (smQ m fun j => M 0 (j + 1)) / M 0 0 := by grind
      grind
end
def swp (k i : Nat) : Nat := if i = k then k + 1 else if i = k + 1 then k else i
theorem sw_succ (k i : Nat) : swp (k + 1) (i + 1) = swp k i + 1 := by
  unfold swp
  split <;> split <;> (try split) <;> (try split) <;> omega
theorem sw_eq (a i : Nat) : swp a i = a ↔ i = a + 1 := by
  unfold swp
  split
  · omega
  · split <;> omega
theorem sw_lt {k i m : Nat} (hk : k + 1 < m) (hi : i < m) : swp k i < m := by
  unfold swp
  split
  · omega
  · split <;> omega
theorem sch_sch (M : Mx) (i j : Nat) : sch (sch M) i j = (M (i + 2) (j + 2) - M (i + 2) 0 * M 0 (j + 2) / M 0 0) - (M (i + 2) 1 - M (i + 2) 0 * M 0 1 / M 0 0) * (M 1 (j + 2) - M 1 0 * M 0 (j + 2) / M 0 0) / (M 1 1 - M 1 0 * M 0 1 / M 0 0) := rfl
theorem dt_sw0 {m : Nat} {M : Mx} (k : Kd (m + 2) M) : dt (m + 2) (fun i j => M (swp 0 i) (swp 0 j)) = dt (m + 2) M := by
  have s0 : swp 0 0 = 1 := rfl
  have s1 : swp 0 1 = 0 := rfl
  have s2 : ∀ i, swp 0 (i + 2) = i + 2 := fun i => by
    unfold swp
    rw [if_neg (by omega), if_neg (by omega)]
  show M 1 1 * ((M 0 0 - M 0 1 * M 1 0 / M 1 1) * dt m (sch (sch fun i j => M (swp 0 i) (swp 0 j)))) = M 0 0 * ((M 1 1 - M 1 0 * M 0 1 / M 0 0) * dt m (sch (sch M)))
  by_cases p0 : M 0 0 = 0
  · have z := k.zero (a := 0) (by omega) p0 1 (by omega)
    rw [p0, z]
    grind
  · by_cases q0 : M 1 1 = 0
    · have z := k.zero (a := 1) (by omega) q0 0 (by omega)
      rw [q0, z]
      grind
    · by_cases s : M 1 1 - M 1 0 * M 0 1 / M 0 0 = 0
      · have : M 0 0 - M 0 1 * M 1 0 / M 1 1 = 0 := by grind
        rw [s, this]
        grind
      · have e : dt m (sch (sch fun i j => M (swp 0 i) (swp 0 j))) = dt m (sch (sch M)) := dt_congr m fun i j _ _ => by
          rw [sch_sch, sch_sch, s0, s1, s2, s2]
          generalize M (i + 2) (j + 2) = x
          generalize M (i + 2) 0 = a at *
          generalize M (i + 2) 1 = b at *
          generalize M 0 (j + 2) = c at *
          generalize M 1 (j + 2) = d at *
          generalize M 0 0 = p at *
          generalize M 1 1 = q at *
          generalize M 0 1 = u at *
          generalize M 1 0 = v at *
          have h1 : q * p - v * u ≠ 0 := by grind
          have h2 : q - v * u / p = (q * p - v * u) / p := by grind
          have h3 : p - u * v / q = (q * p - v * u) / q := by grind
          rw [h2, h3]
          generalize hw : q * p - v * u = w at *
          grind
        rw [e]
        grind
theorem dt_sw : ∀ (k m : Nat) {M : Mx}, Kd m M → k + 1 < m → dt m (fun i j => M (swp k i) (swp k j)) = dt m M
  | _, 0, _, _, h => absurd h (by omega)
  | _, 1, _, _, h => absurd h (by omega)
  | 0, m + 2, _, kd, _ => dt_sw0 kd
  | k + 1, m + 1, M, kd, h => by
    have s0 : swp (k + 1) 0 = 0 := by unfold swp; rw [if_neg (by omega), if_neg (by omega)]
    have e : sch (fun i j => M (swp (k + 1) i) (swp (k + 1) j)) = fun i j => sch M (swp k i) (swp k j) := by
      funext i j
      unfold sch
      dsimp only
      rw [sw_succ, sw_succ, s0]
    unfold dt
    rw [e, dt_sw k m kd.sch (by omega)]
    dsimp only
    rw [s0]
def icr (M : Mx) (a : Nat) (t : Rat) : Mx := fun i j => if i = a ∧ j = a then M i j + t else M i j
theorem dt_last : ∀ (m : Nat) (M : Mx) (t : Rat), dt (m + 1) (icr M m t) = dt (m + 1) M + t * dt m (fun i j => M (dlt m i) (dlt m j))
  | 0, M, t => by
    show (icr M 0 t) 0 0 * 1 = M 0 0 * 1 + t * 1
    unfold icr
    rw [if_pos ⟨rfl, rfl⟩]
    grind
  | m + 1, M, t => by
    have ih := dt_last m (sch M) t
    have e1 : sch (icr M (m + 1) t) = icr (sch M) m t := by
      funext i j
      unfold sch icr
      rw [if_neg (show ¬ (i + 1 = m + 1 ∧ 0 = m + 1) by omega), if_neg (show ¬ (0 = m + 1 ∧ j + 1 = m + 1) by omega), if_neg (show ¬ (0 = m + 1 ∧ 0 = m + 1) by omega)]
      by_cases h : i = m ∧ j = m
      · rw [if_pos h, if_pos (by omega)]
        grind
      · rw [if_neg h, if_neg (by omega)]
    have d0 : dlt (m + 1) 0 = 0 := by unfold dlt; rw [if_pos (by omega)]
    have ds : ∀ i, dlt (m + 1) (i + 1) = dlt m i + 1 := fun i => by unfold dlt; split <;> split <;> omega
    have e2 : sch (fun i j => M (dlt (m + 1) i) (dlt (m + 1) j)) = fun i j => sch M (dlt m i) (dlt m j) := by
      funext i j
      unfold sch
      dsimp only
      rw [ds, ds, d0]
    show icr M (m + 1) t 0 0 * dt (m + 1) (sch (icr M (m + 1) t)) = M 0 0 * dt (m + 1) (sch M) + t * (M (dlt (m + 1) 0) (dlt (m + 1) 0) * dt m (sch fun i j => M (dlt (m + 1) i) (dlt (m + 1) j)))
    have i0 : icr M (m + 1) t 0 0 = M 0 0 := by unfold icr; rw [if_neg (by omega)]
    rw [e1, e2, d0, i0, ih]
    grind
theorem Kd.icr {m : Nat} {M : Mx} (k : Kd m M) (a : Nat) {t : Rat} (ht : 0 ≤ t) : Kd m (icr M a t) := by
  refine ⟨fun i j hi hj hn => ?_, fun i hi => ?_⟩
  · unfold Ve.icr
    rw [if_neg (by omega)]
    exact k.off i j hi hj hn
  · have r := k.row i hi
    by_cases e : i = a
    · subst e
      cases m with
      | zero => exact absurd hi (Nat.not_lt_zero i)
      | succ m =>
        rw [smQ_del m i _ (by omega)] at r ⊢
        have e2 : smQ m (fun j => Ve.icr M i t i (dlt i j)) = smQ m (fun j => M i (dlt i j)) := smQ_congr m fun j _ => by
          unfold Ve.icr
          rw [if_neg (by unfold dlt; split <;> omega)]
        rw [e2]
        unfold Ve.icr
        rw [if_pos ⟨rfl, rfl⟩]
        grind
    · rw [smQ_congr m (g := M i) fun j _ => by unfold Ve.icr; rw [if_neg (by omega)]]
      exact r
theorem Kd.swp {m k : Nat} {M : Mx} (kd : Kd m M) (hk : k + 1 < m) : Kd m (fun i j => M (swp k i) (swp k j)) := by
  refine ⟨fun i j hi hj hn => kd.off _ _ (sw_lt hk hi) (sw_lt hk hj) (fun e => hn ?_), fun i hi => ?_⟩
  · unfold Ve.swp at e
    split at e <;> split at e <;> (try split at e) <;> (try split at e) <;> omega
  · have r := kd.row (Ve.swp k i) (sw_lt hk hi)
    have key : ∀ (k m : Nat) (f : Nat → Rat), k + 1 < m → smQ m (fun j => f (Ve.swp k j)) = smQ m f := by
      intro k
      induction k with
      | zero =>
        intro m f hm
        match m, hm with
        | m + 2, _ =>
          show f (Ve.swp 0 0) + (f (Ve.swp 0 1) + smQ m fun j => f (Ve.swp 0 (j + 2))) = f 0 + (f 1 + smQ m fun j => f (j + 2))
          have : smQ m (fun j => f (Ve.swp 0 (j + 2))) = smQ m (fun j => f (j + 2)) := smQ_congr m fun j _ => by
            congr 1
          rw [this, show Ve.swp 0 0 = 1 from rfl, show Ve.swp 0 1 = 0 from rfl]
          grind
      | succ k ih =>
        intro m f hm
        match m, hm with
        | m + 1, hm =>
          show f (Ve.swp (k + 1) 0) + smQ m (fun j => f (Ve.swp (k + 1) (j + 1))) = f 0 + smQ m fun j => f (j + 1)
          have e1 : smQ m (fun j => f (Ve.swp (k + 1) (j + 1))) = smQ m (fun j => f (Ve.swp k j + 1)) := smQ_congr m fun j _ => by rw [sw_succ]
          rw [e1, ih m (fun j => f (j + 1)) (by omega), show Ve.swp (k + 1) 0 = 0 by unfold Ve.swp; rw [if_neg (by omega), if_neg (by omega)]]
    rw [key k m (M (Ve.swp k i)) hk]
    exact r
theorem dt_inc {t : Rat} (ht : 0 ≤ t) : ∀ (r m a : Nat) {M : Mx}, Kd (m + 1) M → a + r = m → dt (m + 1) (icr M a t) = dt (m + 1) M + t * dt m (fun i j => M (dlt a i) (dlt a j))
  | 0, m, a, M, _, h => by
    rw [show a = m by omega]
    exact dt_last m M t
  | r + 1, m, a, M, k, h => by
    have ih := dt_inc ht r m (a + 1) (M := fun i j => M (swp a i) (swp a j)) (k.swp (by omega)) (by omega)
    have e1 : icr (fun i j => M (swp a i) (swp a j)) (a + 1) t = fun i j => icr M a t (swp a i) (swp a j) := by
      funext i j
      unfold icr
      by_cases h1 : i = a + 1 ∧ j = a + 1
      · rw [if_pos h1, if_pos ⟨(sw_eq a i).mpr h1.1, (sw_eq a j).mpr h1.2⟩]
      · rw [if_neg h1, if_neg (fun z => h1 ⟨(sw_eq a i).mp z.1, (sw_eq a j).mp z.2⟩)]
    have e2 : (fun i j => (fun i j => M (swp a i) (swp a j)) (dlt (a + 1) i) (dlt (a + 1) j)) = fun i j => M (dlt a i) (dlt a j) := by
      have : ∀ i, swp a (dlt (a + 1) i) = dlt a i := fun i => by
        unfold swp dlt
        split <;> split <;> (try split) <;> (try split) <;> omega
      funext i j
      dsimp only
      rw [this, this]
    rw [e1, dt_sw a (m + 1) (k.icr a ht) (by omega), dt_sw a (m + 1) k (by omega), e2] at ih
    exact ih
theorem dt_zero : ∀ (m : Nat) {M : Mx}, (∀ i, i < m + 1 → smQ (m + 1) (M i) = 0) → dt (m + 1) M = 0
  | 0, M, h => by
    have := h 0 (by omega)
    unfold smQ smQ at this
    unfold dt
    grind
  | m + 1, M, h => by
    unfold dt
    by_cases p : M 0 0 = 0
    · rw [p]
      grind
    · rw [dt_zero m fun i hi => by
        have e : smQ (m + 1) (sch M i) = smQ (m + 1) (fun j => M (i + 1) (j + 1)) - M (i + 1) 0 * smQ (m + 1) (fun j => M 0 (j + 1)) / M 0 0 := smQ_lin (M (i + 1) 0) (M 0 0) (m + 1) (fun j => M (i + 1) (j + 1)) fun j => M 0 (j + 1)
        have h0 := h 0 (by omega)
        have h1 := h (i + 1) (by omega)
        unfold smQ at h0 h1
        rw [e]
        generalize smQ (m + 1) (fun j => M (i + 1) (j + 1)) = x at *
        generalize smQ (m + 1) (fun j => M 0 (j + 1)) = y at *
        grind]
      grind
end Ve
namespace Ve
def cst (N : Nat → Nat → Int) : Mx := fun i j => ((N i j : Int) : Rat)
def smZ : Nat → (Nat → Int) → Int
  | 0, _ => 0
  | m + 1, f => f 0 + smZ m fun j => f (j + 1)
theorem smQ_cst : ∀ (m : Nat) (f : Nat → Int), smQ m (fun j => ((f j : Int) : Rat)) = ((smZ m f : Int) : Rat)
  | 0, _ => rfl
  | m + 1, f => by
    unfold smQ smZ
    rw [smQ_cst m fun j => f (j + 1), Rat.intCast_add]
theorem smZ_congr : ∀ (m : Nat) {f g : Nat → Int}, (∀ j, j < m → f j = g j) → smZ m f = smZ m g
  | 0, _, _, _ => rfl
  | m + 1, f, g, h => by
    unfold smZ
    rw [h 0 (Nat.succ_pos m), smZ_congr m fun j hj => h (j + 1) (by omega)]
theorem smZ_del : ∀ (m a : Nat) (f : Nat → Int), a ≤ m → smZ (m + 1) f = f a + smZ m fun j => f (dlt a j)
  | m, 0, f, _ => by
    show f 0 + smZ m (fun j => f (j + 1)) = f 0 + smZ m fun j => f (dlt 0 j)
    congr 1
  | 0, a + 1, _, h => absurd h (by omega)
  | m + 1, a + 1, f, h => by
    have ih := smZ_del m a (fun j => f (j + 1)) (by omega)
    show f 0 + smZ (m + 1) (fun j => f (j + 1)) = f (a + 1) + (f (dlt (a + 1) 0) + smZ m fun j => f (dlt (a + 1) (j + 1)))
    have e1 : dlt (a + 1) 0 = 0 := by unfold dlt; rw [if_pos (Nat.succ_pos a)]
    have e2 : smZ m (fun j => f (dlt (a + 1) (j + 1))) = smZ m (fun j => f (dlt a j + 1)) := smZ_congr m fun j _ => by
      congr 1
      unfold dlt
      split <;> split <;> omega
    rw [ih, e1, e2]
    omega
theorem smZ_nonneg : ∀ (m : Nat) {f : Nat → Int}, (∀ j, j < m → 0 ≤ f j) → 0 ≤ smZ m f
  | 0, _, _ => Int.le_refl 0
  | m + 1, f, h => by
    unfold smZ
    have h0 := h 0 (Nat.succ_pos m)
    have h1 := smZ_nonneg m fun j hj => h (j + 1) (by omega)
    omega
theorem Kd.dlt {m : Nat} {M : Mx} (k : Kd (m + 1) M) {a : Nat} (ha : a ≤ m) : Kd m (fun i j => M (Ve.dlt a i) (Ve.dlt a j)) := by
  have ne : ∀ i, Ve.dlt a i ≠ a := fun i => by unfold Ve.dlt; split <;> omega
  have lt : ∀ i, i < m → Ve.dlt a i < m + 1 := fun i hi => by unfold Ve.dlt; split <;> omega
  refine ⟨fun i j hi hj hn => k.off _ _ (lt i hi) (lt j hj) (fun e => hn ?_), fun i hi => ?_⟩
  · unfold Ve.dlt at e
    split at e <;> split at e <;> omega
  · have r := k.row _ (lt i hi)
    rw [smQ_del m a _ ha] at r
    have := k.off (Ve.dlt a i) a (lt i hi) (by omega) (ne i)
    grind
theorem dt_int : ∀ (s m : Nat) (N : Nat → Nat → Int), Kd m (cst N) → smZ m (fun i => N i i) ≤ (s : Nat) → ∃ z : Int, 0 ≤ z ∧ dt m (cst N) = (z : Int)
  | s, 0, N, _, _ => ⟨1, by decide, rfl⟩
  | s, m + 1, N, k, hs => by
    have rI : ∀ i, smQ (m + 1) (cst N i) = ((smZ (m + 1) (N i) : Int) : Rat) := fun i => smQ_cst (m + 1) (N i)
    by_cases hz : ∀ i, i < m + 1 → smZ (m + 1) (N i) = 0
    · exact ⟨0, Int.le_refl 0, by rw [dt_zero m fun i hi => by rw [rI, hz i hi]; rfl]; rfl⟩
    · obtain ⟨a, ha, hne⟩ : ∃ a, a < m + 1 ∧ smZ (m + 1) (N a) ≠ 0 := by
        false_or_by_contra
        rename_i h
        exact hz fun i hi => by
          false_or_by_contra
          rename_i h2
          exact h ⟨i, hi, h2⟩
      have ra := k.row a ha
      rw [rI] at ra
      have ra : 0 ≤ smZ (m + 1) (N a) := by exact_mod_cast ra
      let N' : Nat → Nat → Int := fun i j => if i = a ∧ j = a then N i j - 1 else N i j
      have e1 : cst N = icr (cst N') a 1 := by
        funext i j
        unfold icr cst
        simp only [N']
        by_cases h : i = a ∧ j = a
        · rw [if_pos h, if_pos h, Rat.intCast_sub]
          grind
        · rw [if_neg h, if_neg h]
      have e3 : smZ (m + 1) (N' a) = smZ (m + 1) (N a) - 1 := by
        rw [smZ_del m a _ (by omega), smZ_del m a (N a) (by omega)]
        have : smZ m (fun j => N' a (dlt a j)) = smZ m (fun j => N a (dlt a j)) := smZ_congr m fun j _ => by
          simp only [N']
          rw [if_neg (by unfold dlt; split <;> omega)]
        rw [this]
        simp only [N']
        rw [if_pos (by simp)]
        omega
      have k' : Kd (m + 1) (cst N') := by
        refine ⟨fun i j hi hj hn => ?_, fun i hi => ?_⟩
        · have := k.off i j hi hj hn
          unfold cst at this ⊢
          simp only [N']
          rw [if_neg (by omega)]
          exact this
        · rw [show smQ (m + 1) (cst N' i) = ((smZ (m + 1) (N' i) : Int) : Rat) from smQ_cst (m + 1) (N' i)]
          by_cases e : i = a
          · rw [e, e3]
            have : (0 : Int) ≤ smZ (m + 1) (N a) - 1 := by omega
            exact_mod_cast this
          · have : smZ (m + 1) (N' i) = smZ (m + 1) (N i) := smZ_congr _ fun j _ => by
              simp only [N']
              rw [if_neg (by omega)]
            rw [this, ← rI]
            exact k.row i hi
      have dz : ∀ (N : Nat → Nat → Int), Kd (m + 1) (cst N) → ∀ i, i < m + 1 → 0 ≤ N i i := fun N k i hi => by
        have := k.diag hi
        unfold cst at this
        exact_mod_cast this
      have tr : smZ (m + 1) (fun i => N' i i) = smZ (m + 1) (fun i => N i i) - 1 := by
        rw [smZ_del m a _ (by omega), smZ_del m a (fun i => N i i) (by omega)]
        have : smZ m (fun j => N' (dlt a j) (dlt a j)) = smZ m (fun j => N (dlt a j) (dlt a j)) := smZ_congr m fun j _ => by
          simp only [N']
          rw [if_neg (by unfold dlt; split <;> omega)]
        rw [this]
        simp only [N']
        rw [if_pos (by simp)]
        omega
      have n1 := smZ_nonneg (m + 1) (f := fun i => N' i i) fun i hi => dz N' k' i hi
      match s, hs with
      | 0, hs => exact absurd hs (by omega)
      | s + 1, hs =>
        obtain ⟨z1, p1, q1⟩ := dt_int s (m + 1) N' k' (by omega)
        have kD : Kd m (cst fun i j => N' (dlt a i) (dlt a j)) := k'.dlt (a := a) (by omega)
        obtain ⟨z2, p2, q2⟩ := dt_int (smZ m fun i => N' (dlt a i) (dlt a i)).toNat m (fun i j => N' (dlt a i) (dlt a j)) kD (by omega)
        refine ⟨z1 + z2, by omega, ?_⟩
        have h := dt_inc (t := 1) (by decide) (m - a) m a k' (by omega)
        have q2' : dt m (fun i j => cst N' (dlt a i) (dlt a j)) = ((z2 : Int) : Rat) := q2
        rw [e1, h, q1, q2', Rat.intCast_add]
        grind
  termination_by s m => (m, s)
def bck : Nat → Mx → Rat
  | 0, _ => 1
  | k + 1, M => M 0 0 * bck k (sch M)
def sck : Nat → Mx → Mx
  | 0, M => M
  | k + 1, M => sck k (sch M)
def brd (k i a : Nat) : Nat := if a < k then a else k + i
theorem dt_brd : ∀ (k : Nat) (M : Mx) (i j : Nat), dt (k + 1) (fun a b => M (brd k i a) (brd k j b)) = bck k M * sck k M i j
  | 0, M, i, j => by
    show M (0 + i) (0 + j) * 1 = 1 * M i j
    rw [Nat.zero_add, Nat.zero_add]
    grind
  | k + 1, M, i, j => by
    have b0 : ∀ i, brd (k + 1) i 0 = 0 := fun i => by unfold brd; rw [if_pos (by omega)]
    have bs : ∀ i a, brd (k + 1) i (a + 1) = brd k i a + 1 := fun i a => by unfold brd; split <;> split <;> omega
    have e : sch (fun a b => M (brd (k + 1) i a) (brd (k + 1) j b)) = fun a b => sch M (brd k i a) (brd k j b) := by
      funext a b
      unfold sch
      dsimp only
      rw [bs, bs, b0, b0]
    show M (brd (k + 1) i 0) (brd (k + 1) j 0) * dt (k + 1) (sch fun a b => M (brd (k + 1) i a) (brd (k + 1) j b)) = M 0 0 * bck k (sch M) * sck k (sch M) i j
    rw [e, b0, b0, dt_brd k (sch M) i j]
    grind
theorem smQ_sub : ∀ (k m j : Nat) (f : Nat → Rat), k + j < m → (∀ b, k ≤ b → b < m → f b ≤ 0) → smQ m f ≤ smQ (k + 1) (fun b => f (brd k j b))
  | 0, m, j, f, h, hf => by
    match m, h with
    | m + 1, h =>
      rw [smQ_del m j f (by omega)]
      have := smQ_nonpos m (f := fun b => f (dlt j b)) fun b hb => hf _ (Nat.zero_le _) (by unfold dlt; split <;> omega)
      show _ ≤ f (0 + j) + 0
      rw [Nat.zero_add]
      grind
  | k + 1, m, j, f, h, hf => by
    match m, h with
    | m + 1, h =>
      have ih := smQ_sub k m j (fun b => f (b + 1)) (by omega) fun b h1 h2 => hf (b + 1) (by omega) (by omega)
      have b0 : brd (k + 1) j 0 = 0 := by unfold brd; rw [if_pos (by omega)]
      have e : smQ (k + 1) (fun b => f (brd (k + 1) j (b + 1))) = smQ (k + 1) (fun b => f (brd k j b + 1)) := smQ_congr _ fun b _ => by
        congr 1
        unfold brd
        split <;> split <;> omega
      show f 0 + smQ m (fun j => f (j + 1)) ≤ f (brd (k + 1) j 0) + smQ (k + 1) fun b => f (brd (k + 1) j (b + 1))
      rw [b0, e]
      grind
theorem smQ_pre : ∀ (k m : Nat) (f : Nat → Rat), k ≤ m → (∀ b, k ≤ b → b < m → f b ≤ 0) → smQ m f ≤ smQ k f
  | 0, m, f, _, hf => smQ_nonpos m fun b hb => hf b (Nat.zero_le _) hb
  | k + 1, 0, f, h, _ => absurd h (by omega)
  | k + 1, m + 1, f, h, hf => by
    have ih := smQ_pre k m (fun b => f (b + 1)) (by omega) fun b h1 h2 => hf (b + 1) (by omega) (by omega)
    unfold smQ
    grind
theorem Kd.pre {m k : Nat} {M : Mx} (kd : Kd m M) (h : k ≤ m) : Kd k M := ⟨fun i j hi hj hn => kd.off i j (by omega) (by omega) hn, fun i hi => by
  have r := kd.row i (by omega)
  have := smQ_pre k m (M i) h fun b h1 h2 => kd.off i b (by omega) h2 (by omega)
  grind⟩
theorem dt_int' {m : Nat} {N : Nat → Nat → Int} (k : Kd m (cst N)) : ∃ z : Int, 0 ≤ z ∧ dt m (cst N) = (z : Int) :=
  dt_int (smZ m fun i => N i i).toNat m N k (by omega)
theorem bd_int {m : Nat} {N : Nat → Nat → Int} (kd : Kd m (cst N)) {k i j : Nat} (hi : k + i < m) (hj : k + j < m) : ∃ z : Int, bck k (cst N) * sck k (cst N) i j = (z : Int) := by
  let B : Nat → Nat → Int := fun a b => N (brd k i a) (brd k j b)
  let t : Int := ((smZ (k + 1) (B k)).natAbs : Nat)
  let B' : Nat → Nat → Int := fun a b => if a = k ∧ b = k then B a b + t else B a b
  have bl : ∀ {i a}, a < k → brd k i a = a := fun {i a} h => by unfold brd; rw [if_pos h]
  have bk_ : ∀ {i}, brd k i k = k + i := fun {i} => by unfold brd; rw [if_neg (by omega)]
  have e1 : cst B' = icr (cst B) k ((t : Int) : Rat) := by
    funext a b
    unfold icr cst
    simp only [B']
    by_cases h : a = k ∧ b = k
    · rw [if_pos h, if_pos h, Rat.intCast_add]
    · rw [if_neg h, if_neg h]
  have k1 : Kd (k + 1) (cst B') := by
    refine ⟨fun a b ha hb hn => ?_, fun a ha => ?_⟩
    · have : cst B' a b = cst N (brd k i a) (brd k j b) := by
        unfold cst
        simp only [B', B]
        rw [if_neg (by omega)]
      rw [this]
      by_cases h1 : a < k
      · rw [bl h1]
        by_cases h2 : b < k
        · rw [bl h2]
          exact kd.off a b (by omega) (by omega) hn
        · rw [show b = k by omega, bk_]
          exact kd.off a (k + j) (by omega) (by omega) (by omega)
      · rw [show a = k by omega, bk_, bl (show b < k by omega)]
        exact kd.off (k + i) b (by omega) (by omega) (by omega)
    · by_cases h1 : a < k
      · have e : smQ (k + 1) (cst B' a) = smQ (k + 1) (fun b => cst N a (brd k j b)) := smQ_congr _ fun b _ => by
          unfold cst
          simp only [B', B]
          rw [if_neg (by omega), bl h1]
        rw [e]
        have r := kd.row a (by omega)
        have := smQ_sub k m j (cst N a) hj fun b h1 h2 => kd.off a b (by omega) h2 (by omega)
        grind
      · have ea : a = k := by omega
        subst ea
        rw [show smQ (a + 1) (cst B' a) = ((smZ (a + 1) (B' a) : Int) : Rat) from smQ_cst (a + 1) (B' a)]
        have : smZ (a + 1) (B' a) = smZ (a + 1) (B a) + t := by
          rw [smZ_del a a _ (by omega), smZ_del a a (B a) (by omega)]
          have : smZ a (fun b => B' a (dlt a b)) = smZ a (fun b => B a (dlt a b)) := smZ_congr a fun b _ => by
            simp only [B']
            rw [if_neg (by unfold dlt; split <;> omega)]
          rw [this]
          simp only [B']
          rw [if_pos (by simp)]
          omega
        rw [this]
        have : (0 : Int) ≤ smZ (a + 1) (B a) + t := by simp only [t]; omega
        exact_mod_cast this
  obtain ⟨z1, _, q1⟩ := dt_int' k1
  obtain ⟨z2, _, q2⟩ := dt_int' (kd.pre (k := k) (by omega))
  have h := dt_last k (cst B) ((t : Int) : Rat)
  have e2 : dt k (fun a b => cst B (dlt k a) (dlt k b)) = dt k (cst N) := dt_congr k fun a b ha hb => by
    unfold cst dlt
    simp only [B]
    rw [if_pos ha, if_pos hb, bl ha, bl hb]
  rw [← e1, q1, e2, q2] at h
  have e3 : dt (k + 1) (cst B) = bck k (cst N) * sck k (cst N) i j := dt_brd k (cst N) i j
  rw [e3] at h
  refine ⟨z1 - t * z2, ?_⟩
  rw [Rat.intCast_sub, Rat.intCast_mul]
  grind
structure Bar (m : Nat) (R : Nat → Nat → Int) (b : Int) (S : Mx) : Prop where
  pos : 0 < b
  kd : Kd m S
  eq : ∀ i j, i < m → j < m → ((R i j : Int) : Rat) = (b : Rat) * S i j
  int : ∀ k i j, k + i < m → k + j < m → ∃ z : Int, (b : Rat) * (bck k S * sck k S i j) = (z : Int)
theorem Bar.start {m : Nat} {N : Nat → Nat → Int} (k : Kd m (cst N)) : Bar m N 1 (cst N) := ⟨by decide, k, fun i j _ _ => by
  show ((N i j : Int) : Rat) = ((1 : Int) : Rat) * ((N i j : Int) : Rat)
  have : ((1 : Int) : Rat) = 1 := rfl
  rw [this]
  grind, fun k' i j hi hj => by
  obtain ⟨z, e⟩ := bd_int k hi hj
  refine ⟨z, ?_⟩
  have : ((1 : Int) : Rat) = 1 := rfl
  rw [this, e]
  grind⟩
theorem Bar.zero {m : Nat} {R : Nat → Nat → Int} {b : Int} {S : Mx} (h : Bar (m + 1) R b S) (h0 : R 0 0 = 0) : (b : Rat) * dt (m + 1) S = 0 := by
  have e := h.eq 0 0 (by omega) (by omega)
  rw [h0] at e
  unfold dt
  have : ((0 : Int) : Rat) = 0 := rfl
  grind
theorem Bar.step {m : Nat} {R : Nat → Nat → Int} {b : Int} {S : Mx} (h : Bar (m + 1) R b S) : ∃ R' : Nat → Nat → Int, (∀ i j, i < m → j < m → b * R' i j = R 0 0 * R (i + 1) (j + 1) - R (i + 1) 0 * R 0 (j + 1)) ∧
    (R 0 0 ≠ 0 → Bar m R' (R 0 0) (sch S) ∧ ((R 0 0 : Int) : Rat) * dt m (sch S) = (b : Rat) * dt (m + 1) S) := by
  have e00 := h.eq 0 0 (by omega) (by omega)
  have bp := h.pos
  have bn : (b : Rat) ≠ 0 := fun z => by
    have z : b = 0 := by exact_mod_cast z
    omega
  have key : ∀ i j, ∃ z : Int, i < m → j < m → (b : Rat) * S 0 0 * sch S i j = (z : Int) := fun i j => by
    by_cases c : i < m ∧ j < m
    · obtain ⟨z, e⟩ := h.int 1 i j (by omega) (by omega)
      refine ⟨z, fun _ _ => ?_⟩
      rw [← e]
      show _ = (b : Rat) * (S 0 0 * 1 * sch S i j)
      grind
    · exact ⟨0, fun h1 h2 => absurd ⟨h1, h2⟩ c⟩
  let R' : Nat → Nat → Int := fun i j => (key i j).choose
  have hR : ∀ i j, i < m → j < m → (b : Rat) * S 0 0 * sch S i j = ((R' i j : Int) : Rat) := fun i j => (key i j).choose_spec
  refine ⟨R', fun i j hi hj => ?_, fun hne => ?_⟩
  · have e1 := h.eq (i + 1) (j + 1) (by omega) (by omega)
    have e2 := h.eq (i + 1) 0 (by omega) (by omega)
    have e3 := h.eq 0 (j + 1) (by omega) (by omega)
    have e4 := hR i j hi hj
    have : ((b * R' i j : Int) : Rat) = ((R 0 0 * R (i + 1) (j + 1) - R (i + 1) 0 * R 0 (j + 1) : Int) : Rat) := by
      rw [Rat.intCast_sub, Rat.intCast_mul, Rat.intCast_mul, Rat.intCast_mul, e00, e1, e2, e3, ← e4]
      unfold sch
      by_cases p : S 0 0 = 0
      · have z1 := h.kd.zero (a := 0) (by omega) p (j + 1) (by omega)
        rw [p, z1]
        grind
      · grind
    exact_mod_cast this
  · have p : S 0 0 ≠ 0 := fun z => hne (by
      rw [z] at e00
      have : ((R 0 0 : Int) : Rat) = ((0 : Int) : Rat) := by
        rw [e00]
        have : ((0 : Int) : Rat) = 0 := rfl
        grind
      exact_mod_cast this)
    have p0 := h.kd.diag (a := 0) (by omega)
    refine ⟨⟨?_, h.kd.sch, fun i j hi hj => ?_, fun k i j hi hj => ?_⟩, ?_⟩
    · have h1 : (0 : Rat) < (b : Rat) := by exact_mod_cast bp
      have h2 : (0 : Rat) ≤ ((R 0 0 : Int) : Rat) := by
        rw [e00]
        exact Rat.mul_nonneg (Rat.le_of_lt h1) p0
      have h3 : 0 ≤ R 0 0 := by exact_mod_cast h2
      omega
    · rw [← hR i j hi hj, e00]
    · obtain ⟨z, e⟩ := h.int (k + 1) i j (by omega) (by omega)
      refine ⟨z, ?_⟩
      rw [← e, e00]
      show (b : Rat) * S 0 0 * (bck k (sch S) * sck k (sch S) i j) = (b : Rat) * (S 0 0 * bck k (sch S) * sck k (sch S) i j)
      grind
    · rw [e00]
      show (b : Rat) * S 0 0 * dt m (sch S) = (b : Rat) * (S 0 0 * dt m (sch S))
      grind
end Ve
namespace Ve
end Ve
namespace Ve
section
variable {n : Nat} {J : Nat → Nat → Sd}
def notIn (cs : List Int) (k : Nat) : Bool := !decide ((k : Int) ∈ cs)
def fitB (ks cs E : List Int) : Bool := ks.all (fun k => decide (k ∈ E)) && cs.all (fun k => decide (k ∉ E))
end
end Ve
namespace Ve
theorem Kd.sch_le {m : Nat} {M : Mx} (k : Kd (m + 1) M) {i : Nat} (hi : i < m) : Ve.sch M i i ≤ M (i + 1) (i + 1) := by
  have p0 := k.diag (a := 0) (Nat.succ_pos m)
  have h2 := k.off (i + 1) 0 (by omega) (by omega) (by omega)
  have h3 := k.off 0 (i + 1) (by omega) (by omega) (by omega)
  have h4 : 0 ≤ M (i + 1) 0 * M 0 (i + 1) := by
    have := Rat.mul_nonneg (a := -M (i + 1) 0) (b := -M 0 (i + 1)) (by grind) (by grind)
    grind
  have h5 := rdiv_nonneg h4 p0
  unfold Ve.sch
  grind
def pwQ (D : Rat) : Nat → Rat
  | 0 => 1
  | m + 1 => D * pwQ D m
theorem pwQ_one {D : Rat} (h : 1 ≤ D) : ∀ m, 1 ≤ pwQ D m
  | 0 => Rat.le_refl
  | m + 1 => by
    have ih := pwQ_one h m
    unfold pwQ
    have := Rat.mul_nonneg (a := D - 1) (b := pwQ D m) (by grind) (by grind)
    grind
structure Bnd (m : Nat) (b : Int) (S : Mx) (D B : Rat) : Prop where
  one : 1 ≤ D
  dia : ∀ i, i < m → S i i ≤ D
  bb : (b : Rat) * pwQ D m ≤ B
section
variable {m : Nat} {R : Nat → Nat → Int} {b : Int} {S : Mx} {D B : Rat}
theorem Bnd.step (n : Bnd (m + 1) b S D B) (h : Bar (m + 1) R b S) : Bnd m (R 0 0) (sch S) D B := by
  have bp : (0 : Rat) ≤ (b : Rat) := by
    have := h.pos
    have : (0 : Int) ≤ b := by omega
    exact_mod_cast this
  have e := h.eq 0 0 (by omega) (by omega)
  have d0 := n.dia 0 (by omega)
  have p1 := pwQ_one n.one m
  refine ⟨n.one, fun i hi => ?_, ?_⟩
  · have h1 := h.kd.sch_le hi
    have h2 := n.dia (i + 1) (by omega)
    grind
  · have bb := n.bb
    unfold pwQ at bb
    rw [e]
    have := Rat.mul_nonneg (a := (b : Rat) * (D - S 0 0)) (b := pwQ D m) (Rat.mul_nonneg bp (by grind)) (by grind)
    grind
end
end Ve
namespace Ve
def lowN (r : List Nat) : Nat := match r.getLast? with
  | none => 0
  | some x => x + 1
def chN (m : Nat) : Nat → List (List Nat)
  | 0 => [[]]
  | s + 1 => (chN m s).flatMap fun r => (List.range (m - lowN r)).map fun k => r ++ [lowN r + k]
def rwI (r : List Nat) : List Int := r.map fun k : Nat => (k : Int)
section
variable {n : Nat} {J : Nat → Nat → Sd}
def treesN (n : Nat) (J : Nat → Nat → Sd) : List (List Nat) := (chN (2 * n) (n - 1)).filter fun r => decide ((srtS (hngI n J (rwI r))).length = 1)
end
end Ve
namespace Ve
section
variable {n : Nat} {J : Nat → Nat → Sd}
def FL (n : Nat) (J : Nat → Nat → Sd) (ks cs : List Nat) : List (List Nat) := (treesN n J).filter fun r => fitB (rwI ks) (rwI cs) (rwI r)
end
end Ve
namespace Ve
open PySem PySem.Spec L2
open PySem.W (Tup Datum DatumOrd listLt minOf minD_map)
end Ve
namespace Ve
open PySem PySem.Spec L2
section
variable {n : Nat} {J : Nat → Nat → Sd}
structure NdI (n : Nat) (J : Nat → Nat → Sd) (S : List Int) (a : Nat) : Prop where
  so : S.Pairwise (· < ·)
  rg : ∀ k ∈ S, 0 ≤ k ∧ k < (a : Int)
  le : a ≤ 2 * n
  rf : S.length + (srtS (hngI n J S)).length = n
  hg : Hang n J (S ++ rst n a)
theorem NdI.inb {S : List Int} {a : Nat} (h : NdI n J S a) : Inb n S := fun k hk => by
  have := h.rg k hk
  have := h.le
  omega
def wtN (n a : Nat) : Nat := 2 ^ (2 * n + 1 - a) - 1
theorem wtN_pos {a : Nat} (h : a ≤ 2 * n) : 0 < wtN n a := by
  unfold wtN
  obtain ⟨m, hm⟩ : ∃ m, 2 * n + 1 - a = m + 1 := ⟨2 * n - a, by omega⟩
  have := Nat.two_pow_pos m
  rw [hm, Nat.pow_succ]
  omega
theorem wtN_two {a : Nat} (h : a < 2 * n) : wtN n (a + 1) + wtN n (a + 1) < wtN n a := by
  unfold wtN
  obtain ⟨m, hm⟩ : ∃ m, 2 * n + 1 - (a + 1) = m + 1 := ⟨2 * n - (a + 1), by omega⟩
  have := Nat.two_pow_pos m
  rw [show 2 * n + 1 - a = m + 1 + 1 by omega, hm, Nat.pow_succ, Nat.pow_succ]
  omega
def wtW (n : Nat) (W : List (List Int × Nat)) : Nat := (W.map fun x => wtN n x.2).sum
theorem wtW_app (W V : List (List Int × Nat)) : wtW n (W ++ V) = wtW n W + wtW n V := by unfold wtW; rw [List.map_append, List.sum_append]
structure Nts (n : Nat) (J : Nat → Nat → Sd) (F : List (List Int)) (W : List (List Int × Nat)) : Prop where
  nd : ∀ x ∈ W, NdI n J x.1 x.2
  fd : ∀ E ∈ F, Tr0 n J E ∧ E.Pairwise (· < ·)
  all : ∀ E, Tr0 n J E → E.Pairwise (· < ·) → E ∈ F ∨ ∃ x ∈ W, E.filter (fun k : Int => decide (k < (x.2 : Nat))) = x.1
  sz : F.length + wtW n W ≤ 2 ^ (2 * n + 1)
theorem Nts.start (sk : Skin n J) (hh : Hang n J (rst n 0)) : Nts n J [] [([], 0)] := by
  refine ⟨fun x hx => ?_, fun E hE => (nomatch hE), fun E _ _ => .inr ⟨([], 0), List.mem_singleton_self _, ?_⟩, ?_⟩
  · rw [List.mem_singleton.mp hx]
    refine ⟨List.Pairwise.nil, fun k hk => (nomatch hk), Nat.zero_le _, ?_, by rw [List.nil_append]; exact hh⟩
    show 0 + (srtS ((List.range n).map fun k : Nat => (k : Int))).length = n
    rw [srtS_range, Nat.zero_add]
  · refine List.filter_eq_nil_iff.mpr fun k hk => ?_
    rename_i t _
    have := (t.inb k hk).1
    show ¬ decide (k < ((0 : Nat) : Int)) = true
    rw [decide_eq_true_iff]
    omega
  · show 0 + (wtN n 0 + 0) ≤ 2 ^ (2 * n + 1)
    unfold wtN
    rw [Nat.sub_zero]
    generalize 2 ^ (2 * n + 1) = z
    omega
theorem cut_hang {E : List Int} (t : Tr0 n J E) (a : Nat) : Hang n J (E.filter (fun k : Int => decide (k < (a : Nat))) ++ rst n a) := t.hang.mono fun k hk => by
  by_cases c : k < (a : Int)
  · exact List.mem_append_left _ (List.mem_filter.mpr ⟨hk, decide_eq_true c⟩)
  · exact List.mem_append_right _ (mem_rst.mpr ⟨by omega, (t.inb k hk).2⟩)
theorem Nts.leaf (sk : Skin n J) {F : List (List Int)} {W : List (List Int × Nat)} {S : List Int} {a : Nat} (h : Nts n J F (W ++ [(S, a)])) (hl : S.length + 1 = n) : Nts n J (F ++ [S]) W ∧ wtW n W < wtW n (W ++ [(S, a)]) := by
  have x : NdI n J S a := h.nd (S, a) (by simp)
  have w := wtN_pos (n := n) x.le
  have e : wtW n (W ++ [(S, a)]) = wtW n W + (wtN n a + 0) := wtW_app _ _
  have hs : Tr0 n J S := ⟨x.so.imp fun h => by omega, x.inb, hl, (hngI_fo sk x.inb).hang sk.pos (by have := x.rf; omega)⟩
  refine ⟨⟨fun y hy => h.nd y (List.mem_append_left _ hy), fun E hE => ?_, fun E t so => ?_, ?_⟩, by omega⟩
  · rcases List.mem_append.mp hE with z | z
    · exact h.fd E z
    · rw [List.mem_singleton.mp z]
      exact ⟨hs, x.so⟩
  · rcases h.all E t so with z | ⟨y, hy, z⟩
    · exact .inl (List.mem_append_left _ z)
    · rcases List.mem_append.mp hy with q | q
      · exact .inr ⟨y, q, z⟩
      · rw [List.mem_singleton.mp q] at z
        refine .inl (List.mem_append_right _ (List.mem_singleton.mpr ?_))
        have lE := t.len
        have := List.filter_sublist (l := E) (p := fun k : Int => decide (k < (a : Nat)))
        have e2 := this.eq_of_length (by rw [z]; show S.length = _; omega)
        rw [← e2]
        exact z
  · have := h.sz
    rw [List.length_append, List.length_singleton]
    generalize 2 ^ (2 * n + 1) = z at this ⊢
    omega
theorem Nts.at_lt (sk : Skin n J) {S : List Int} {a : Nat} (x : NdI n J S a) (hl : S.length + 1 ≠ n) : a < 2 * n := by
  have := x.le
  refine Nat.lt_of_le_of_ne this fun e => hl ?_
  have hh := x.hg
  rw [e, show rst n (2 * n) = [] by unfold rst; rw [Nat.sub_self]; rfl, List.append_nil] at hh
  have := (hngI_fo sk x.inb).one sk.pos hh
  have := x.rf
  omega
theorem Nts.step (sk : Skin n J) {F : List (List Int)} {W : List (List Int × Nat)} {S : List Int} {a : Nat} (h : Nts n J F (W ++ [(S, a)])) (hl : S.length + 1 ≠ n) {b c : Bool}
    (hb : b = true ↔ Hang n J (S ++ rst n (a + 1))) (hc : c = true ↔ ¬ Cn (Adj n J S) (smAt n J a).1 (oth J (smAt n J a)).1) :
    Nts n J F ((W ++ if b then [(S, a + 1)] else []) ++ if c then [(S ++ [(a : Int)], a + 1)] else []) ∧ wtW n ((W ++ if b then [(S, a + 1)] else []) ++ if c then [(S ++ [(a : Int)], a + 1)] else []) < wtW n (W ++ [(S, a)]) := by
  have x : NdI n J S a := h.nd (S, a) (by simp)
  have at_ : a < 2 * n := Nts.at_lt sk x hl
  have aI : 0 ≤ (a : Int) ∧ (a : Int) < (2 * n : Nat) := by omega
  obtain ⟨s1, _, s3, _⟩ := sk.sm aI
  have f0 := hngI_fo sk x.inb
  have w := wtN_two (n := n) at_
  have e : wtW n (W ++ [(S, a)]) = wtW n W + (wtN n a + 0) := wtW_app _ _
  have e2 : wtW n ((W ++ if b then [(S, a + 1)] else []) ++ if c then [(S ++ [(a : Int)], a + 1)] else []) < wtW n W + wtN n a := by
    rw [wtW_app, wtW_app]
    have e3 : wtW n (if b then [(S, a + 1)] else []) ≤ wtN n (a + 1) := by
      cases b
      · exact Nat.zero_le _
      · exact Nat.le_refl _
    have e4 : wtW n (if c then [(S ++ [(a : Int)], a + 1)] else []) ≤ wtN n (a + 1) := by
      cases c
      · exact Nat.zero_le _
      · exact Nat.le_refl _
    omega
  refine ⟨⟨fun y hy => ?_, h.fd, fun E t so => ?_, ?_⟩, by omega⟩
  · rcases List.mem_append.mp hy with q | q
    · rcases List.mem_append.mp q with q | q
      · exact h.nd y (List.mem_append_left _ q)
      · cases hbb : b with
        | false => rw [hbb] at q; exact nomatch q
        | true =>
          rw [hbb, if_pos rfl] at q
          rw [List.mem_singleton.mp q]
          exact ⟨x.so, fun k hk => by have := x.rg k hk; dsimp only; omega, at_, x.rf, hb.mp hbb⟩
    · cases hcc : c with
      | false => rw [hcc] at q; exact nomatch q
      | true =>
        rw [hcc, if_pos rfl] at q
        rw [List.mem_singleton.mp q]
        have ne : (hngI n J S).getD (smAt n J a).1 0 ≠ (hngI n J S).getD (oth J (smAt n J a)).1 0 := fun z => hc.mp hcc ((f0.iff s1 s3).mp z)
        refine ⟨List.pairwise_append.mpr ⟨x.so, List.pairwise_singleton _ _, fun k hk m hm => ?_⟩, fun k hk => ?_, at_, ?_, ?_⟩
        · rw [List.mem_singleton.mp hm]
          exact (x.rg k hk).2
        · rcases List.mem_append.mp hk with z | z
          · have := x.rg k z
            dsimp only
            omega
          · rw [List.mem_singleton.mp z]
            dsimp only
            omega
        · have := srtS_rel (u := (hngI n J S).getD (smAt n J (a : Int)).1 0) (v := (hngI n J S).getD (oth J (smAt n J (a : Int))).1 0) ne (getD_mem' (by rw [f0.len]; exact s1)) (getD_mem' (by rw [f0.len]; exact s3))
          have rf := x.rf
          dsimp only
          rw [hngI_snoc, List.length_append, List.length_singleton]
          show S.length + 1 + (srtS (rel _ _ (hngI n J S))).length = n
          omega
        · refine x.hg.mono fun k hk => ?_
          dsimp only at hk ⊢
          rcases List.mem_append.mp hk with z | z
          · exact List.mem_append_left _ (List.mem_append_left _ z)
          · have := mem_rst.mp z
            by_cases c : k = (a : Int)
            · exact List.mem_append_left _ (List.mem_append_right _ (List.mem_singleton.mpr c))
            · exact List.mem_append_right _ (mem_rst.mpr ⟨by omega, this.2⟩)
  · rcases h.all E t so with z | ⟨y, hy, z⟩
    · exact .inl z
    · rcases List.mem_append.mp hy with q | q
      · exact .inr ⟨y, List.mem_append_left _ (List.mem_append_left _ q), z⟩
      · rw [List.mem_singleton.mp q] at z
        dsimp only at z
        right
        by_cases m : (a : Int) ∈ E
        · have cs := cut_snoc so m
          rw [z] at cs
          have hcc : c = true := hc.mpr fun z2 => by
            refine part_apart sk (S := S) (k := (a : Int)) t ?_ (fun k hk => ?_) x.rf ((f0.iff s1 s3).mpr z2)
            · rw [← cs]
              exact (so.filter _).imp fun h => by omega
            · rw [← cs] at hk
              exact (List.mem_filter.mp hk).1
          exact ⟨(S ++ [(a : Int)], a + 1), List.mem_append_right _ (by rw [hcc, if_pos rfl]; exact List.mem_singleton_self _), cs⟩
        · have cs := cut_same m
          rw [z] at cs
          have hbb : b = true := hb.mpr (by
            have := cut_hang t (a + 1)
            rw [cs] at this
            exact this)
          exact ⟨(S, a + 1), List.mem_append_left _ (List.mem_append_right _ (by rw [hbb, if_pos rfl]; exact List.mem_singleton_self _)), cs⟩
  · have := h.sz
    generalize 2 ^ (2 * n + 1) = z at this ⊢
    omega
theorem Nts.done {F : List (List Int)} (h : Nts n J F []) (E : List Int) : E ∈ F ↔ Tr0 n J E ∧ E.Pairwise (· < ·) :=
  ⟨h.fd E, fun ⟨t, so⟩ => (h.all E t so).elim id fun ⟨_, hx, _⟩ => nomatch hx⟩
end
end Ve
namespace Ve
open PySem PySem.Spec L2
structure Dr (n : Nat) (o t : Nat → Nat) : Prop where
  on : ∀ p, p < n → o p < n
  oi : ∀ p q, p < n → q < n → o p = o q → p = q
  oo : ∀ f, f < n → ∃ p, p < n ∧ o p = f
  tl : ∀ p, t p < 4
def sig (o t : Nat → Nat) (s : Sd) : Sd := (o s.1, (s.2 + t s.1) % 4)
section
variable {n : Nat} {o t : Nat → Nat} {J J' : Nat → Nat → Sd}
theorem Dr.inj (d : Dr n o t) {a b : Sd} (ha : a.1 < n) (ha2 : a.2 < 4) (hb : b.1 < n) (hb2 : b.2 < 4) (e : sig o t a = sig o t b) : a = b := by
  unfold sig at e
  obtain ⟨e1, e2⟩ := Prod.mk.inj e
  have h1 := d.oi _ _ ha hb e1
  rw [h1] at e2
  have := d.tl b.1
  exact Prod.ext h1 (by omega)
theorem Dr.rng (d : Dr n o t) {a : Sd} (ha : a.1 < n) : (sig o t a).1 < n ∧ (sig o t a).2 < 4 := ⟨d.on _ ha, Nat.mod_lt _ (by decide)⟩
end
end Ve
namespace Lw
open PySem PySem.Spec L2 Ve
def k_FIRST_SIDES : D := (.wt [(.wt [(.int (2)), (.int (4))]), (.wt [(.int (4)), (.int (2))]), (.wt [(.int (4)), (.int (0))]), (.wt [(.int (0)), (.int (4))]), (.wt [(.int (0)), (.int (2))]), (.wt [(.int (2)), (.int (0))])])
def k_DIRECTIONS : D := (.int (6))
def k_SIDES : D := (.int (4))
@[simp] def b_L_hand_2 : AS :=
    (sRet (mNew (mLst (mCons (m2 (mVar 2) (mAs (mCons (m2 (mVar 2) (m2 (mC (.int 10)) (mC (.int 18)) gPow) gGe) mNil) gInt) gMul) (mCons (m2 (m2 (m2 (mVar 2) (mC (.int 2305843009213693951)) gMod) (m2 (mC (.int 7919)) (mVar 1) gMul) gAdd) (mC (.int 3)) gAdd) (mCons (mC (.int 0)) mNil))))))
@[simp] def b_L_hand_1 : AS :=
    sSeq (sIf (mT (m2 (mVar 1) (mAs (mCons (mVar 0) mNil) gLen) gLt)) (sSet 2 (m2 (mVar 0) (mVar 1) gIx)) sNext)
    b_L_hand_2
def b_L_hand : AS :=
    sSeq (sSet 2 (mC (.int 0)))
    b_L_hand_1
def m_L_hand : List D → Hd → Option (D × Hd) := mDef 3 b_L_hand
def c_L_hand := cN m_L_hand
theorem con_L_hand : Cl c_L_hand m_L_hand := cl_cN _
@[simp] def b_L_take_6 : AS :=
    (sRet (m2 (m2 (m2 (mVar 4) (mC (.int 97)) gDiv) (m2 (mVar 4) (mC (.int 1000033)) gDiv) gAdd) (mVar 1) gMod))
@[simp] def b_L_take_5 : AS :=
    sSeq (sSet 4 (m2 (m2 (mVar 4) (mVar 5) gMul) (mC (.int 2305843009213693907)) gMod))
    b_L_take_6
@[simp] def b_L_take_4 : AS :=
    sSeq (sSet 5 (m2 (m2 (m2 (mVar 4) (mC (.int 1000003)) gMod) (m2 (mVar 3) (mC (.int 99991)) gMul) gAdd) (mC (.int 11)) gAdd))
    b_L_take_5
@[simp] def b_L_take_3 : AS :=
    sSeq (sSet 4 (m2 (m2 (m2 (mVar 0) (mC (.int 1)) gIx) (m2 (m2 (mC (.int 48271)) (m2 (m2 (mC (.int 2)) (mVar 3) gMul) (mVar 3) gMul) gAdd) (m2 (mC (.int 65537)) (mVar 3) gMul) gAdd) gMul) (mC (.int 2305843009213693921)) gMod))
    b_L_take_4
@[simp] def b_L_take_2 : AS :=
    sSeq (sSet 3 (m2 (mVar 0) (mC (.int 2)) gIx))
    b_L_take_3
@[simp] def b_L_take_1 : AS :=
    sSeq (sStore (m2 (m2 (mVar 0) (mC (.int 2)) gIx) (mC (.int 1)) gAdd) (mVar 0) (mC (.int 2)))
    b_L_take_2
def b_L_take : AS :=
    sSeq (sIf (mT (m2 (m2 (mVar 0) (mC (.int 0)) gIx) (mC (.int 0)) gGt)) (sSeq (sSet 2 (m2 (m2 (mVar 0) (mC (.int 0)) gIx) (mVar 1) gMod))
    (sSeq (sStore (m2 (m2 (mVar 0) (mC (.int 0)) gIx) (mVar 1) gDiv) (mVar 0) (mC (.int 0)))
    (sRet (mVar 2)))) sNext)
    b_L_take_1
def m_L_take : List D → Hd → Option (D × Hd) := mDef 6 b_L_take
def c_L_take := c1V m_L_take
theorem con_L_take : Cl c_L_take m_L_take := cl_c1V _
def Hand (T : Nat) (o : O) : Prop := ∃ a b t : Int, o = .lst [.int a, .int b, .int t] ∧ 0 ≤ a ∧ 0 ≤ b ∧ b < 2 ^ 62 ∧ 0 ≤ t ∧ t ≤ T
theorem Hand.mono {T T' : Nat} {o : O} (h : Hand T o) (hT : T ≤ T') : Hand T' o := by
  obtain ⟨a, b, t, e, h1, h2, h3, h4, h5⟩ := h
  exact ⟨a, b, t, e, h1, h2, h3, h4, by omega⟩
theorem Hand.nr {T : Nat} {o : O} (h : Hand T o) : nrO o = true := by
  obtain ⟨a, b, t, rfl, _⟩ := h
  rfl
theorem hand_ok (ns : List Int) (k : Nat) (hk : k < 100) (hp : Hd) : ∃ o, c_L_hand [.scr ns, .int k] hp = some (.ref hp.length, hp ++ [o]) ∧ Hand 0 o := by
  have key : ∀ cell : Int, ∃ a b : Int, 0 ≤ a ∧ 0 ≤ b ∧ b < 2 ^ 62 ∧ a = cell * (if decide ((10 : Int) ^ 18 ≤ cell) = true then 1 else 0) ∧ b = cell % 2305843009213693951 + 7919 * k + 3 := by
    intro cell
    have h1 := Int.emod_nonneg cell (show (2305843009213693951 : Int) ≠ 0 by decide)
    have h2 := Int.emod_lt_of_pos cell (show (0 : Int) < 2305843009213693951 by decide)
    refine ⟨_, _, ?_, ?_, ?_, rfl, rfl⟩
    · split
      · rename_i h
        have := of_decide_eq_true h
        omega
      · omega
    · omega
    · omega
  have run : ∃ o g, m_L_hand [.scr ns, .int k] [] = some (.ref 0, o :: g) ∧ Hand 0 o := by
    by_cases hl : (k : Int) < (ns.length : Int)
    · have hk2 : k < ns.length := by omega
      obtain ⟨a, b, h1, h2, h3, ea, eb⟩ := key ns[k]
      refine ⟨.lst [.int a, .int b, .int 0], [], ?_, a, b, 0, rfl, h1, h2, h3, by omega, by omega⟩
      have hix : atI ns (k : Int) = some ns[k] := atI_nat (List.getElem?_eq_getElem hk2)
      have hb : decide ((k : Int) < (ns.length : Int)) = true := decide_eq_true hl
      have c1 : cMul ns[k] (if decide ((10 : Int) ^ 18 ≤ ns[k]) = true then 1 else 0) = true := cMul_of (.inr (by split <;> omega))
      have c2 : cMul 7919 (k : Int) = true := cMul_of (.inl (by omega))
      rw [ea, eb]
      simp [m_L_hand, b_L_hand, stD, hk2, gIx, hix, gLen, gPow, cPow, gInt, gMul_int, gMod_int, c1, c2, sizeLine_eq] at c1 c2 ⊢
      simp [gMul_int c1]
    · obtain ⟨a, b, h1, h2, h3, ea, eb⟩ := key 0
      refine ⟨.lst [.int a, .int b, .int 0], [], ?_, a, b, 0, rfl, h1, h2, h3, by omega, by omega⟩
      have hb : decide ((k : Int) < (ns.length : Int)) = false := decide_eq_false hl
      have c1 : cMul 0 (if decide ((10 : Int) ^ 18 ≤ 0) = true then 1 else 0) = true := by decide
      have c2 : cMul 7919 (k : Int) = true := cMul_of (.inl (by omega))
      rw [ea, eb]
      simp [m_L_hand, b_L_hand, stD, show ¬ k < ns.length by omega, gIx, gLen, gPow, cPow, gInt, gMul_int, gMod_int, c1, c2, sizeLine_eq] at c1 c2 ⊢
      simp [gMul_int c1]
  obtain ⟨o, g, e, ho⟩ := run
  refine ⟨o, ?_, ho⟩
  simp [c_L_hand, cN, nrs, D.alls, D.all, e, ho.nr]
theorem take_run (T : Nat) (hT : T < 1000000) (o : O) (h : Hand T o) (many : Int) (h1 : 0 < many) (h2 : many < 1073741824) : ∃ r o' g, m_L_take [.ref 0, .int many] [o] = some (.int r, o' :: g) ∧ 0 ≤ r ∧ r < many ∧ Hand (T + 1) o' := by
  obtain ⟨a, b, t, rfl, ha, hb, hb2, ht, ht2⟩ := h
  have cd : cDiv a many = true := cDiv_of ⟨h1, h2⟩
  by_cases hz : 0 < a
  · refine ⟨a % many, .lst [.int (a / many), .int b, .int t], [], ?_, Int.emod_nonneg _ (by omega), Int.emod_lt_of_pos _ h1, a / many, b, t, rfl, Int.ediv_nonneg ha (by omega), hb, hb2, ht, by omega⟩
    simp [m_L_take, b_L_take, stD, gIx, atI, ixN, hz, gMod_int h1, gDiv_int cd, gSet]
  · have q1 : cMul 2 (t + 1) = true := cMul_of (.inl (by omega))
    have q2 : cMul (2 * (t + 1)) (t + 1) = true := cMul_of (.inl (by omega))
    have q3 : cMul 65537 (t + 1) = true := cMul_of (.inl (by omega))
    have q4 : cMul b (48271 + 2 * (t + 1) * (t + 1) + 65537 * (t + 1)) = true := cMul_of (.inl (by omega))
    have q5 : cMul (t + 1) 99991 = true := cMul_of (.inl (by omega))
    let mx := b * (48271 + 2 * (t + 1) * (t + 1) + 65537 * (t + 1)) % 2305843009213693921
    have hm1 : 0 ≤ mx := Int.emod_nonneg _ (by decide)
    have hm2 : mx < 2305843009213693921 := Int.emod_lt_of_pos _ (by decide)
    let ot := mx % 1000003 + (t + 1) * 99991 + 11
    have q6 : cMul mx ot = true := cMul_of (.inl (by omega))
    let m2' := mx * ot % 2305843009213693907
    have hn1 : 0 ≤ m2' := Int.emod_nonneg _ (by decide)
    have d1 : cDiv m2' 97 = true := cDiv_of (by omega)
    have d2 : cDiv m2' 1000033 = true := cDiv_of (by omega)
    refine ⟨(m2' / 97 + m2' / 1000033) % many, .lst [.int a, .int b, .int (t + 1)], [], ?_, Int.emod_nonneg _ (by omega), Int.emod_lt_of_pos _ h1, a, b, t + 1, rfl, ha, hb, hb2, by omega, by omega⟩
    simp only [mx, ot, m2'] at q6 d1 d2 ⊢
    simp [m_L_take, b_L_take, stD, gIx, atI, ixN, hz, gMod_int h1, gMod_int, gMul_int q1, gMul_int q2, gMul_int q3, gMul_int q4, gMul_int q5, gMul_int q6, gDiv_int d1, gDiv_int d2, gSet]
theorem take_ok (T : Nat) (hT : T < 1000000) (hp : Hd) (n : Nat) (o : O) (e : hp[n]? = some o) (h : Hand T o) (many : Int) (h1 : 0 < many) (h2 : many < 1073741824) :
    ∃ r o', c_L_take [.ref n, .int many] hp = some (.int r, hp.set n o') ∧ 0 ≤ r ∧ r < many ∧ Hand (T + 1) o' := by
  obtain ⟨r, o', g, e1, e2, e3, h'⟩ := take_run T hT o h many h1 h2
  refine ⟨r, o', ?_, e2, e3, h'⟩
  simp [c_L_take, c1V, e, nrs, D.alls, D.all, h.nr, h'.nr, e1]
def b_L_pick : AS :=
    (sRet (m2 (mVar 1) (mAs (mCons (mVar 0) (mCons (mAs (mCons (mVar 1) mNil) gLen) mNil)) (ar 2 c_L_take)) gIx))
def m_L_pick : List D → Hd → Option (D × Hd) := mDef 2 b_L_pick
abbrev c_L_pick := m_L_pick
theorem pick_ok (T : Nat) (hT : T < 1000000) (hp : Hd) (n s : Nat) (hns : n ≠ s) (o : O) (e : hp[n]? = some o) (h : Hand T o) (xs : List D) (es : hp[s]? = some (.lst xs)) (h0 : xs ≠ []) (h1 : xs.length < 1073741824) :
    ∃ (i : Nat) (hi : i < xs.length) (o' : O), c_L_pick [.ref n, .ref s] hp = some (xs[i], hp.set n o') ∧ Hand (T + 1) o' := by
  have hl : 0 < xs.length := List.length_pos_iff.mpr h0
  obtain ⟨r, o', e1, e2, e3, h'⟩ := take_ok T hT hp n o e h (xs.length : Int) (by omega) (by omega)
  have hr : r.toNat < xs.length := by omega
  refine ⟨r.toNat, hr, o', ?_, h'⟩
  have hix : atI xs r = some xs[r.toNat] := by
    have := atI_nat (xs := xs) (j := r.toNat) (List.getElem?_eq_getElem hr)
    rwa [Int.toNat_of_nonneg e2] at this
  simp [c_L_pick, m_L_pick, b_L_pick, stD, gLen, es, e1, gIx, List.getElem?_set_ne hns, hix]
@[simp] def b_beside_cube_1 : AS :=
    (sRet (m2 (m2 (mSl (mVar 0) none (some (mVar 2))) (mTup (mCons (m2 (m2 (m2 (mVar 0) (mVar 2) gIx) (mC (.int 1)) gAdd) (m2 (mC (.int 2)) (m2 (mVar 1) (mC (.int 2)) gMod) gMul) gSub) mNil)) gAdd) (mSl (mVar 0) (some (m2 (mVar 2) (mC (.int 1)) gAdd)) none) gAdd))
def b_beside_cube : AS :=
    sSeq (sSet 2 (m2 (mVar 1) (mC (.int 2)) gDiv))
    b_beside_cube_1
def m_beside_cube : List D → Hd → Option (D × Hd) := mDef 3 b_beside_cube
def c_beside_cube := cV m_beside_cube
theorem con_beside_cube : Cl c_beside_cube m_beside_cube := cl_cV _
theorem besideP_ok (hp : Hd) (x y z d : Int) (h : 0 ≤ d ∧ d < 6) : c_beside_cube [T [x, y, z], .int d] hp = some (T (nb [x, y, z] d), hp) := by
  have key : ∃ g, m_beside_cube [T [x, y, z], .int d] [] = some (T (nb [x, y, z] d), g) := by
    rcases six h with rfl | rfl | rfl | rfl | rfl | rfl
    · have e : m_beside_cube [T [x, y, z], .int 0] [] = some (T [x + 1 - 0, y, z], []) := by kernel_rfl
      rw [show x + 1 - 0 = x + 1 by omega] at e
      exact ⟨_, e⟩
    · have e : m_beside_cube [T [x, y, z], .int 1] [] = some (T [x + 1 - 2, y, z], []) := by kernel_rfl
      rw [show x + 1 - 2 = x + -1 by omega] at e
      exact ⟨_, e⟩
    · have e : m_beside_cube [T [x, y, z], .int 2] [] = some (T [x, y + 1 - 0, z], []) := by kernel_rfl
      rw [show y + 1 - 0 = y + 1 by omega] at e
      exact ⟨_, e⟩
    · have e : m_beside_cube [T [x, y, z], .int 3] [] = some (T [x, y + 1 - 2, z], []) := by kernel_rfl
      rw [show y + 1 - 2 = y + -1 by omega] at e
      exact ⟨_, e⟩
    · have e : m_beside_cube [T [x, y, z], .int 4] [] = some (T [x, y, z + 1 - 0], []) := by kernel_rfl
      rw [show z + 1 - 0 = z + 1 by omega] at e
      exact ⟨_, e⟩
    · have e : m_beside_cube [T [x, y, z], .int 5] [] = some (T [x, y, z + 1 - 2], []) := by kernel_rfl
      rw [show z + 1 - 2 = z + -1 by omega] at e
      exact ⟨_, e⟩
  obtain ⟨g, e⟩ := key
  exact cV_of (nrs_Ti _ _) e (nr_T _)
end Lw
namespace Lw
open PySem PySem.Spec L2 Ve
def ex (d : Nat) : Int := if d = 0 then 1 else if d = 1 then -1 else 0
def ey (d : Nat) : Int := if d = 2 then 1 else if d = 3 then -1 else 0
def ez (d : Nat) : Int := if d = 4 then 1 else if d = 5 then -1 else 0
def sdL' (d : Nat) : List Nat := [[2, 4, 3, 5], [4, 2, 5, 3], [4, 0, 5, 1], [0, 4, 1, 5], [0, 2, 1, 3], [2, 0, 3, 1]].getD d []
def sdN (d i : Nat) : Nat := (sdL' d).getD i 0
def ag (d : Nat) : Nat := if d % 2 = 0 then d + 1 else d - 1
def sto (d t : Nat) : Nat := (sdL' d).idxOf t
def ac (v e : Int) : Int := if e = 0 then v else v + e
theorem ac_eq (v e : Int) : ac v e = v + e := by
  unfold ac
  split
  · omega
  · rfl
def edgC (d i : Nat) (x y z : Int) : List Int := [ac (2 * x) (ex d + ex (sdN d i)), ac (2 * y) (ey d + ey (sdN d i)), ac (2 * z) (ez d + ez (sdN d i))]
def o2 (e : Nat → Int) (d i d2 i2 : Nat) : Int := e d + e (sdN d i) - (e d2 + e (sdN d2 i2))
def tabB (d i d2 i2 : Nat) : Bool :=
  let t := sdN d i
  !(o2 ex d i d2 i2 % 2 == 0 && o2 ey d i d2 i2 % 2 == 0 && o2 ez d i d2 i2 % 2 == 0) ||
  ((d2 == d && i2 == i && o2 ex d i d2 i2 == 0 && o2 ey d i d2 i2 == 0 && o2 ez d i d2 i2 == 0) ||
  (d2 == t && i2 == sto t d && o2 ex d i d2 i2 == 0 && o2 ey d i d2 i2 == 0 && o2 ez d i d2 i2 == 0) ||
  (d2 == d && i2 == sto d (ag t) && o2 ex d i d2 i2 == 2 * ex t && o2 ey d i d2 i2 == 2 * ey t && o2 ez d i d2 i2 == 2 * ez t) ||
  (d2 == ag t && o2 ex d i d2 i2 == 2 * ex t && o2 ey d i d2 i2 == 2 * ey t && o2 ez d i d2 i2 == 2 * ez t) ||
  (o2 ex d i d2 i2 == 2 * ex d && o2 ey d i d2 i2 == 2 * ey d && o2 ez d i d2 i2 == 2 * ez d) ||
  (d2 == ag d && o2 ex d i d2 i2 == 2 * (ex d + ex t) && o2 ey d i d2 i2 == 2 * (ey d + ey t) && o2 ez d i d2 i2 == 2 * (ez d + ez t)) ||
  (d2 == ag t && i2 == sto (ag t) (ag d) && o2 ex d i d2 i2 == 2 * (ex d + ex t) && o2 ey d i d2 i2 == 2 * (ey d + ey t) && o2 ez d i d2 i2 == 2 * (ez d + ez t)))
theorem tab_all : ((List.range 6).all fun d => (List.range 4).all fun i => (List.range 6).all fun d2 => (List.range 4).all fun i2 => tabB d i d2 i2) = true := by decide +kernel
theorem tab {d i d2 i2 : Nat} (hd : d < 6) (hi : i < 4) (hd2 : d2 < 6) (hi2 : i2 < 4) : tabB d i d2 i2 = true := by
  have a := List.all_eq_true.mp (List.all_eq_true.mp (List.all_eq_true.mp (List.all_eq_true.mp tab_all d (List.mem_range.mpr hd)) i (List.mem_range.mpr hi)) d2 (List.mem_range.mpr hd2)) i2 (List.mem_range.mpr hi2)
  exact a
def expB (d i : Nat) : Bool :=
  let t := sdN d i
  t < 6 && ag t < 6 && ag d < 6 && sto t d < 4 && sto d (ag t) < 4 && sto (ag t) (ag d) < 4 && sdN t (sto t d) == d && sdN d (sto d (ag t)) == ag t && sdN (ag t) (sto (ag t) (ag d)) == ag d && d != t && (d != ag t) &&
  (ex (ag t) == -ex t && ey (ag t) == -ey t && ez (ag t) == -ez t) && (ex (ag d) == -ex d && ey (ag d) == -ey d && ez (ag d) == -ez d) && (sto d (ag t) != i) && ag (ag t) == t &&
  !(ex d == ex t && ey d == ey t && ez d == ez t) && !(ex t == 0 && ey t == 0 && ez t == 0) && !(ex d == 0 && ey d == 0 && ez d == 0) && !(ex d + ex t == 0 && ey d + ey t == 0 && ez d + ez t == 0)
theorem exp_all : ((List.range 6).all fun d => (List.range 4).all fun i => expB d i) = true := by decide +kernel
structure Ex (d i : Nat) : Prop where
  t6 : sdN d i < 6
  a6 : ag (sdN d i) < 6
  b6 : ag d < 6
  s1 : sto (sdN d i) d < 4
  s2 : sto d (ag (sdN d i)) < 4
  s3 : sto (ag (sdN d i)) (ag d) < 4
  r1 : sdN (sdN d i) (sto (sdN d i) d) = d
  r2 : sdN d (sto d (ag (sdN d i))) = ag (sdN d i)
  r3 : sdN (ag (sdN d i)) (sto (ag (sdN d i)) (ag d)) = ag d
  n1 : d ≠ sdN d i
  n2 : d ≠ ag (sdN d i)
  x1 : ex (ag (sdN d i)) = -ex (sdN d i) ∧ ey (ag (sdN d i)) = -ey (sdN d i) ∧ ez (ag (sdN d i)) = -ez (sdN d i)
  x2 : ex (ag d) = -ex d ∧ ey (ag d) = -ey d ∧ ez (ag d) = -ez d
  n3 : sto d (ag (sdN d i)) ≠ i
  aa : ag (ag (sdN d i)) = sdN d i
  v1 : ¬ (ex d = ex (sdN d i) ∧ ey d = ey (sdN d i) ∧ ez d = ez (sdN d i))
  v2 : ¬ (ex (sdN d i) = 0 ∧ ey (sdN d i) = 0 ∧ ez (sdN d i) = 0)
  v3 : ¬ (ex d = 0 ∧ ey d = 0 ∧ ez d = 0)
  v4 : ¬ (ex d + ex (sdN d i) = 0 ∧ ey d + ey (sdN d i) = 0 ∧ ez d + ez (sdN d i) = 0)
theorem exs {d i : Nat} (hd : d < 6) (hi : i < 4) : Ex d i := by
  have a : expB d i = true := List.all_eq_true.mp (List.all_eq_true.mp exp_all d (List.mem_range.mpr hd)) i (List.mem_range.mpr hi)
  unfold expB at a
  simp only [Bool.and_eq_true, decide_eq_true_eq, beq_iff_eq, bne_iff_ne, Bool.not_eq_true', Bool.and_eq_false_iff, beq_eq_false_iff_ne] at a
  obtain ⟨⟨⟨⟨⟨⟨⟨⟨⟨⟨⟨⟨⟨⟨⟨⟨⟨⟨a1, a2⟩, a3⟩, a4⟩, a5⟩, a6⟩, a7⟩, a8⟩, a9⟩, a10⟩, a11⟩, a12⟩, a13⟩, a14⟩, a15⟩, a16⟩, a17⟩, a18⟩, a19⟩ := a
  exact ⟨a1, a2, a3, a4, a5, a6, a7, a8, a9, a10, a11, ⟨a12.1.1, a12.1.2, a12.2⟩, ⟨a13.1.1, a13.1.2, a13.2⟩, a14, a15, fun h => by rcases a16 with (z | z) | z <;> simp_all, fun h => by rcases a17 with (z | z) | z <;> simp_all, fun h => by rcases a18 with (z | z) | z <;> simp_all, fun h => by rcases a19 with (z | z) | z <;> simp_all⟩
theorem nb_v {d : Nat} (hd : d < 6) (x y z : Int) : nb [x, y, z] (d : Nat) = [x + ex d, y + ey d, z + ez d] := by
  have : d = 0 ∨ d = 1 ∨ d = 2 ∨ d = 3 ∨ d = 4 ∨ d = 5 := by omega
  rcases this with rfl | rfl | rfl | rfl | rfl | rfl <;> simp [nb, ex, ey, ez]
def FaceP (bs : List (List Int)) (x y z : Int) (d : Nat) : Prop := d < 6 ∧ [x, y, z] ∈ bs ∧ nb [x, y, z] (d : Nat) ∉ bs
theorem edg_eq {d i d2 i2 : Nat} {x y z x2 y2 z2 : Int} : edgC d i x y z = edgC d2 i2 x2 y2 z2 ↔ (o2 ex d i d2 i2 = 2 * (x2 - x) ∧ o2 ey d i d2 i2 = 2 * (y2 - y) ∧ o2 ez d i d2 i2 = 2 * (z2 - z)) := by
  unfold edgC o2
  simp only [ac_eq, List.cons.injEq, and_true]
  omega
def bycN (bs : List (List Int)) (x y z : Int) (d i : Nat) : (Int × Int × Int) × Nat × Nat :=
  let t := sdN d i
  if nb (nb [x, y, z] (t : Nat)) (d : Nat) ∈ bs then ((x + ex t + ex d, y + ey t + ey d, z + ez t + ez d), ag t, sto (ag t) (ag d))
  else if nb [x, y, z] (t : Nat) ∈ bs then ((x + ex t, y + ey t, z + ez t), d, sto d (ag t))
  else ((x, y, z), t, sto t d)
def crsN (bs : List (List Int)) (x y z : Int) (d i : Nat) : Int :=
  if nb (nb [x, y, z] (sdN d i : Nat)) (d : Nat) ∈ bs then -1 else if nb [x, y, z] (sdN d i : Nat) ∈ bs then 0 else 1
theorem geo2 {bs : List (List Int)} {x y z : Int} {d i : Nat} (h : FaceP bs x y z d) (hi : i < 4) {x2 y2 z2 : Int} {d2 i2 : Nat} (e : bycN bs x y z d i = ((x2, y2, z2), d2, i2)) :
    FaceP bs x2 y2 z2 d2 ∧ i2 < 4 ∧ edgC d i x y z = edgC d2 i2 x2 y2 z2 ∧ ¬ (d2 = d ∧ i2 = i) ∧ (nb (nb [x, y, z] (sdN d i : Nat)) (d : Nat) ∈ bs → nb [x2, y2, z2] (d2 : Nat) = nb [x, y, z] (d : Nat)) ∧
    crsN bs x y z d i = (if [x2, y2, z2] = [x, y, z] then 1 else if d2 = d then 0 else -1) := by
  obtain ⟨hd, c1, c2⟩ := h
  have E := exs hd hi
  obtain ⟨a1, a2, a3⟩ := E.x1
  obtain ⟨b1, b2, b3⟩ := E.x2
  have v1 := E.v1
  have v2 := E.v2
  have v3 := E.v3
  unfold bycN at e
  unfold crsN
  dsimp only at e
  have nn1 := nb_v hd x y z
  have nn2 := nb_v E.t6 x y z
  have nn3 : nb (nb [x, y, z] (sdN d i : Nat)) (d : Nat) = [x + ex (sdN d i) + ex d, y + ey (sdN d i) + ey d, z + ez (sdN d i) + ez d] := by rw [nn2, nb_v hd]
  rw [nn1] at c2 ⊢
  rw [nn3] at e ⊢
  rw [nn2] at e ⊢
  have oo : ∀ (e : Nat → Int) (a b : Nat), o2 e d i a b = e d + e (sdN d i) - (e a + e (sdN a b)) := fun _ _ _ => rfl
  by_cases m1 : [x + ex (sdN d i) + ex d, y + ey (sdN d i) + ey d, z + ez (sdN d i) + ez d] ∈ bs
  · rw [if_pos m1] at e ⊢
    obtain ⟨p, q⟩ := Prod.mk.inj e
    obtain ⟨p1, p2⟩ := Prod.mk.inj p
    obtain ⟨p2, p3⟩ := Prod.mk.inj p2
    obtain ⟨q1, q2⟩ := Prod.mk.inj q
    subst p1 p2 p3 q1 q2
    rw [nb_v E.a6]
    have air : ∀ a b c : Int, [x + ex (sdN d i) + ex d + ex (ag (sdN d i)), y + ey (sdN d i) + ey d + ey (ag (sdN d i)), z + ez (sdN d i) + ez d + ez (ag (sdN d i))] = [x + ex d, y + ey d, z + ez d] := fun _ _ _ => by
      rw [a1, a2, a3]
      simp only [List.cons.injEq, and_true]
      omega
    refine ⟨⟨E.a6, m1, by rw [nb_v E.a6, air 0 0 0]; exact c2⟩, E.s3, ?_, fun w => E.n2 w.1.symm, fun _ => air 0 0 0, ?_⟩
    · rw [edg_eq, oo, oo, oo, E.r3, a1, a2, a3, b1, b2, b3]
      omega
    · rw [if_neg (fun w => ?_), if_neg (fun w => E.n2 w.symm)]
      simp only [List.cons.injEq, and_true] at w
      exact E.v4 ⟨by omega, by omega, by omega⟩
  · rw [if_neg m1] at e ⊢
    by_cases m2 : [x + ex (sdN d i), y + ey (sdN d i), z + ez (sdN d i)] ∈ bs
    · rw [if_pos m2] at e ⊢
      obtain ⟨p, q⟩ := Prod.mk.inj e
      obtain ⟨p1, p2⟩ := Prod.mk.inj p
      obtain ⟨p2, p3⟩ := Prod.mk.inj p2
      obtain ⟨q1, q2⟩ := Prod.mk.inj q
      subst p1 p2 p3 q1 q2
      refine ⟨⟨hd, m2, by rw [nb_v hd]; exact m1⟩, E.s2, ?_, fun w => E.n3 w.2, fun w => absurd w m1, ?_⟩
      · rw [edg_eq, oo, oo, oo, E.r2, a1, a2, a3]
        omega
      · rw [if_neg (fun w => ?_), if_pos rfl]
        simp only [List.cons.injEq, and_true] at w
        exact v2 ⟨by omega, by omega, by omega⟩
    · rw [if_neg m2] at e ⊢
      obtain ⟨p, q⟩ := Prod.mk.inj e
      obtain ⟨p1, p2⟩ := Prod.mk.inj p
      obtain ⟨p2, p3⟩ := Prod.mk.inj p2
      obtain ⟨q1, q2⟩ := Prod.mk.inj q
      subst p1 p2 p3 q1 q2
      refine ⟨⟨E.t6, c1, by rw [nn2]; exact m2⟩, E.s1, ?_, fun w => E.n1 w.1.symm, fun w => absurd w m1, ?_⟩
      · rw [edg_eq, oo, oo, oo, E.r1]
        omega
      · rw [if_pos rfl]
theorem FC_mem {bs : List (List Int)} (h3 : Three bs) {f : List Int} : f ∈ FC bs bs ↔ ∃ x y z d, f = [x, y, z, ((d : Nat) : Int)] ∧ FaceP bs x y z d := by
  unfold FC fF
  rw [List.mem_flatMap]
  constructor
  · rintro ⟨c, hc, hf⟩
    obtain ⟨d, hd, rfl⟩ := List.mem_map.mp hf
    obtain ⟨h1, h2⟩ := List.mem_filter.mp hd
    obtain ⟨x, y, z, rfl⟩ := h3 c hc
    exact ⟨x, y, z, d, rfl, List.mem_range.mp h1, hc, by simpa using h2⟩
  · rintro ⟨x, y, z, d, rfl, h1, h2, h4⟩
    refine ⟨_, h2, List.mem_map.mpr ⟨d, List.mem_filter.mpr ⟨List.mem_range.mpr h1, by simpa using h4⟩, rfl⟩⟩
end Lw
namespace Lw
open PySem PySem.Spec L2 Ve
theorem par_of {i j : Nat} {fr : AA} {ls : Ls} {hp hp1 : Hd} {a b : D} (e : fr ls hp = some ([a, b], hp1)) : sPar i j fr ls hp = some (.nx, (ls.set i (some a)).set j (some b), hp1) := by
  rw [sPar_s, e]
def b_against : AS :=
    (sRet (m2 (m2 (mVar 0) (mC (.int 1)) gAdd) (m2 (mC (.int 2)) (m2 (mVar 0) (mC (.int 2)) gMod) gMul) gSub))
def m_against : List D → Hd → Option (D × Hd) := mDef 1 b_against
abbrev c_against := m_against
theorem against_ok {d : Nat} (hd : d < 6) (hp : Hd) : m_against [.int (d : Nat)] hp = some (.int (ag d : Nat), hp) := by
  have : d = 0 ∨ d = 1 ∨ d = 2 ∨ d = 3 ∨ d = 4 ∨ d = 5 := by omega
  rcases this with rfl | rfl | rfl | rfl | rfl | rfl
  · kernel_rfl
  · kernel_rfl
  · kernel_rfl
  · kernel_rfl
  · kernel_rfl
  · kernel_rfl
@[simp] def b_sides_of_1 : AS :=
    (sRet (mTupW (mCons (mVar 1) (mCons (mVar 2) (mCons (mAs (mCons (mVar 1) mNil) (ar 1 c_against)) (mCons (mAs (mCons (mVar 2) mNil) (ar 1 c_against)) mNil))))))
def b_sides_of : AS :=
    sSeq (sAsg (.tp ((.nm 1) :: ((.nm 2) :: []))) (m2 (mC k_FIRST_SIDES) (mVar 0) gIx))
    b_sides_of_1
def m_sides_of : List D → Hd → Option (D × Hd) := mDef 3 b_sides_of
abbrev c_sides_of := m_sides_of
theorem sides6_ok {d : Nat} (hd : d < 6) (hp : Hd) : m_sides_of [.int (d : Nat)] hp = some (.wt ((sdL' d).map fun t : Nat => D.int (t : Nat)), hp) := by
  have : d = 0 ∨ d = 1 ∨ d = 2 ∨ d = 3 ∨ d = 4 ∨ d = 5 := by omega
  rcases this with rfl | rfl | rfl | rfl | rfl | rfl
  · kernel_rfl
  · kernel_rfl
  · kernel_rfl
  · kernel_rfl
  · kernel_rfl
  · kernel_rfl
theorem sdL_len {d : Nat} (hd : d < 6) : (sdL' d).length = 4 := by
  have : d = 0 ∨ d = 1 ∨ d = 2 ∨ d = 3 ∨ d = 4 ∨ d = 5 := by omega
  rcases this with rfl | rfl | rfl | rfl | rfl | rfl <;> rfl
def b_side_to : AS :=
    (sRet (mMet isW (mAs (mCons (mVar 0) mNil) (ar 1 c_sides_of)) (mCons (mVar 1) mNil) gTIdx))
def m_side_to : List D → Hd → Option (D × Hd) := mDef 2 b_side_to
abbrev c_side_to := m_side_to
theorem side_to_ok {d t : Nat} (hd : d < 6) (ht : sto d t < 4) (hp : Hd) : m_side_to [.int (d : Nat), .int (t : Nat)] hp = some (.int (sto d t : Nat), hp) := by
  have hm : t ∈ sdL' d := by
    unfold sto at ht
    rw [← sdL_len hd] at ht
    exact List.idxOf_lt_length_iff.mp ht
  have key : ∀ ts : List Nat, ts = sdL' d → ∀ u ∈ ts, m_side_to [.int (d : Nat), .int (u : Nat)] hp = some (.int (sto d u : Nat), hp) := by
    intro ts e u hu
    rw [e] at hu
    have : d = 0 ∨ d = 1 ∨ d = 2 ∨ d = 3 ∨ d = 4 ∨ d = 5 := by omega
    rcases this with rfl | rfl | rfl | rfl | rfl | rfl
    all_goals
      simp only [sdL', List.getD_cons_zero, List.getD_cons_succ, List.mem_cons, List.not_mem_nil, or_false] at hu
      rcases hu with rfl | rfl | rfl | rfl
      · kernel_rfl
      · kernel_rfl
      · kernel_rfl
      · kernel_rfl
  exact key _ rfl t hm
def b_known_of : AS :=
    (sRet (mL (mLc (mIS (mVar 0)) (.nm 1) [1] tYesD (mTup (mCons (mVar 1) (mCons (mC (.bl true)) mNil)))) gDictL))
def m_known_of : List D → Hd → Option (D × Hd) := mDef 2 b_known_of
def c_known_of := cN m_known_of
theorem con_known_of : Cl c_known_of m_known_of := cl_cN _
theorem known_ok (hp : Hd) (bs : List (List Int)) (nd : bs.Nodup) (hl : bs.length ≤ 1000) : c_known_of [.tup (bs.map T)] hp = some (.ref hp.length, hp ++ [.dic (Cd bs)]) := by
  have e : m_known_of [.tup (bs.map T)] [] = some (.ref 0, [.dic (Cd bs)]) := by
    show mDef 2 b_known_of [.tup (bs.map T)] [] = _
    rw [mDef_s]
    have ei : mIS (mVar 0) [some (.tup (bs.map T)), none] [] = some (bs.map T, [], []) := mIS_tup (mVar_of rfl)
    have el := mLc_typed (t := .nm 1) (own := [1]) (tt := tYesD) (te := mTup (mCons (mVar 1) (mCons (mC (.bl true)) mNil))) T bs (fun _ => true) (fun c => .tup [T c, .bl true]) ei (by rw [sizeLine_eq]; omega) rfl (fun x hx => ⟨_, rfl, rfl, fun _ => by
      rw [mTup_s, mCons_s, mVar_of (d := T x) rfl]
      dsimp only
      rw [mCons_s, mC_s]
      dsimp only
      rw [mNil_s]
      dsimp only
      rw [if_pos (show [T x, D.bl true].length ≤ sizeLine by rw [sizeLine_eq]; exact (by decide : 2 ≤ 16777216))]⟩)
    have er : b_known_of (stD 2 [.tup (bs.map T)]) [] = some (.rt (.ref 0), stD 2 [.tup (bs.map T)], [.dic (Cd bs)]) := by
      unfold b_known_of
      rw [sRet_s]
      have : mL (mLc (mIS (mVar 0)) (.nm 1) [1] tYesD (mTup (mCons (mVar 1) (mCons (mC (.bl true)) mNil)))) gDictL (stD 2 [.tup (bs.map T)]) [] = some (.ref 0, [.dic (Cd bs)]) := by
        refine (mL_of el).trans ?_
        rw [List.filter_eq_self.mpr (fun _ _ => rfl)]
        exact gDictL_Cd nd
      rw [this]
    rw [er]
  exact cN_of (nrs_tTs bs) e rfl (nrO_Cd bs)
def e3 (p : List Int × Int × Int) : D := .tup [T p.1, .int p.2.1, .int p.2.2]
def bycV (bs : List (List Int)) (x y z : Int) (d i : Nat) : List Int × Int × Int :=
  ([(bycN bs x y z d i).1.1, (bycN bs x y z d i).1.2.1, (bycN bs x y z d i).1.2.2, (((bycN bs x y z d i).2.1 : Nat) : Int)], (((bycN bs x y z d i).2.2 : Nat) : Int), crsN bs x y z d i)
@[simp] def b_beyond_in_6 : AS :=
    (sRet (mTup (mCons (m2 (mVar 3) (mTup (mCons (mVar 5) mNil)) gAdd) (mCons (mAs (mCons (mVar 5) (mCons (mVar 4) mNil)) (ar 2 c_side_to)) (mCons (mC (.int 1)) mNil)))))
@[simp] def b_beyond_in_5 : AS :=
    sSeq (sIf (mT (m2 (mVar 6) (mVar 0) gIn)) (sRet (mTup (mCons (m2 (mVar 6) (mTup (mCons (mVar 4) mNil)) gAdd) (mCons (mAs (mCons (mVar 4) (mCons (mAs (mCons (mVar 5) mNil) (ar 1 c_against)) mNil)) (ar 2 c_side_to)) (mCons (mC (.int 0)) mNil))))) sNext)
    b_beyond_in_6
@[simp] def b_beyond_in_4 : AS :=
    sSeq (sIf (mT (m2 (mVar 7) (mVar 0) gIn)) (sRet (mTup (mCons (m2 (mVar 7) (mTup (mCons (mAs (mCons (mVar 5) mNil) (ar 1 c_against)) mNil)) gAdd) (mCons (mAs (mCons (mAs (mCons (mVar 5) mNil) (ar 1 c_against)) (mCons (mAs (mCons (mVar 4) mNil) (ar 1 c_against)) mNil)) (ar 2 c_side_to)) (mCons (m1 (mC (.int 1)) gNeg) mNil))))) sNext)
    b_beyond_in_5
@[simp] def b_beyond_in_3 : AS :=
    sSeq (sSet 7 (mAs (mCons (mVar 6) (mCons (mVar 4) mNil)) (ar 2 c_beside_cube)))
    b_beyond_in_4
@[simp] def b_beyond_in_2 : AS :=
    sSeq (sSet 6 (mAs (mCons (mVar 3) (mCons (mVar 5) mNil)) (ar 2 c_beside_cube)))
    b_beyond_in_3
@[simp] def b_beyond_in_1 : AS :=
    sSeq (sSet 5 (m2 (mAs (mCons (mVar 4) mNil) (ar 1 c_sides_of)) (mVar 2) gIx))
    b_beyond_in_2
def b_beyond_in : AS :=
    sSeq (sPar 3 4 (mCons (mSl (mVar 1) none (some (mC (.int 3)))) (mCons (m2 (mVar 1) (mC (.int 3)) gIx) mNil)))
    b_beyond_in_1
def m_beyond_in : List D → Hd → Option (D × Hd) := mDef 8 b_beyond_in
abbrev c_beyond_in := m_beyond_in
theorem mSl_3 {fa : AE} {ls : Ls} {hp hp1 : Hd} {x y z d : Int} (e : fa ls hp = some (T [x, y, z, d], hp1)) : mSl fa none (some (mC (.int 3))) ls hp = some (T [x, y, z], hp1) := by
  rw [mSl_s, e]
  rfl
theorem tcat {x y z : Int} {d : Nat} {hp : Hd} : gAdd (T [x, y, z]) (.tup [.int (d : Nat)]) hp = some (T [x, y, z, (d : Nat)], hp) := rfl
theorem beyond_in_ok {bs : List (List Int)} {x y z : Int} {d i : Nat} (hd : d < 6) (hi : i < 4) {hp : Hd} {k : Nat} (gk : hp[k]? = some (.dic (Cd bs))) : m_beyond_in [.ref k, T [x, y, z, (d : Nat)], .int (i : Nat)] hp = some (e3 (bycV bs x y z d i), hp) := by
  have E := exs hd hi
  have s1 : sPar 3 4 (mCons (mSl (mVar 1) none (some (mC (.int 3)))) (mCons (m2 (mVar 1) (mC (.int 3)) gIx) mNil)) [some (.ref k), some (T [x, y, z, (d : Nat)]), some (.int (i : Nat)), none, none, none, none, none] hp = some (.nx, [some (.ref k), some (T [x, y, z, (d : Nat)]), some (.int (i : Nat)), some (T [x, y, z]), some (.int (d : Nat)), none, none, none], hp) :=
    par_of (cons_of (mSl_3 (mVar_of rfl)) (cons_of (m2_ev (mVar_of rfl) mC_of (gIx_tupN (j := 3) rfl)) nil_of))
  have gt : ((sdL' d).map fun t : Nat => D.int (t : Nat))[i]? = some (.int (sdN d i : Nat)) := by
    have hl : i < (sdL' d).length := by rw [sdL_len hd]; exact hi
    rw [List.getElem?_map, List.getElem?_eq_getElem hl]
    unfold sdN
    rw [List.getD_eq_getElem?_getD, List.getElem?_eq_getElem hl]
    rfl
  have s2 : sSet 5 (m2 (mAs (mCons (mVar 4) mNil) (ar 1 c_sides_of)) (mVar 2) gIx) [some (.ref k), some (T [x, y, z, (d : Nat)]), some (.int (i : Nat)), some (T [x, y, z]), some (.int (d : Nat)), none, none, none] hp = some (.nx, [some (.ref k), some (T [x, y, z, (d : Nat)]), some (.int (i : Nat)), some (T [x, y, z]), some (.int (d : Nat)), some (.int (sdN d i : Nat)), none, none], hp) :=
    sSet_of (m2_ev (call_of (cons_of (mVar_of rfl) nil_of) rfl (sides6_ok hd hp)) (mVar_of rfl) (gIx_tw (w := true) gt))
  have n2 := nb_v E.t6 x y z
  have n3 : nb (nb [x, y, z] (sdN d i : Nat)) (d : Nat) = [x + ex (sdN d i) + ex d, y + ey (sdN d i) + ey d, z + ez (sdN d i) + ez d] := by rw [n2, nb_v hd]
  have b1 := besideP_ok hp x y z (sdN d i : Nat) (by have := E.t6; omega)
  rw [n2] at b1
  have b2 := besideP_ok hp (x + ex (sdN d i)) (y + ey (sdN d i)) (z + ez (sdN d i)) (d : Nat) (by omega)
  rw [nb_v hd] at b2
  have s3 : sSet 6 (mAs (mCons (mVar 3) (mCons (mVar 5) mNil)) (ar 2 c_beside_cube)) [some (.ref k), some (T [x, y, z, (d : Nat)]), some (.int (i : Nat)), some (T [x, y, z]), some (.int (d : Nat)), some (.int (sdN d i : Nat)), none, none] hp = some (.nx, [some (.ref k), some (T [x, y, z, (d : Nat)]), some (.int (i : Nat)), some (T [x, y, z]), some (.int (d : Nat)), some (.int (sdN d i : Nat)), some (T [x + ex (sdN d i), y + ey (sdN d i), z + ez (sdN d i)]), none], hp) :=
    sSet_of (call_of (cons_of (mVar_of rfl) (cons_of (mVar_of rfl) nil_of)) rfl b1)
  have s4 : sSet 7 (mAs (mCons (mVar 6) (mCons (mVar 4) mNil)) (ar 2 c_beside_cube)) [some (.ref k), some (T [x, y, z, (d : Nat)]), some (.int (i : Nat)), some (T [x, y, z]), some (.int (d : Nat)), some (.int (sdN d i : Nat)), some (T [x + ex (sdN d i), y + ey (sdN d i), z + ez (sdN d i)]), none] hp = some (.nx, [some (.ref k), some (T [x, y, z, (d : Nat)]), some (.int (i : Nat)), some (T [x, y, z]), some (.int (d : Nat)), some (.int (sdN d i : Nat)), some (T [x + ex (sdN d i), y + ey (sdN d i), z + ez (sdN d i)]), some (T [x + ex (sdN d i) + ex d, y + ey (sdN d i) + ey d, z + ez (sdN d i) + ez d])], hp) :=
    sSet_of (call_of (cons_of (mVar_of rfl) (cons_of (mVar_of rfl) nil_of)) rfl b2)
  have t1 := mT_of (m2_ev (ls := [some (.ref k), some (T [x, y, z, (d : Nat)]), some (.int (i : Nat)), some (T [x, y, z]), some (.int (d : Nat)), some (.int (sdN d i : Nat)), some (T [x + ex (sdN d i), y + ey (sdN d i), z + ez (sdN d i)]), some (T [x + ex (sdN d i) + ex d, y + ey (sdN d i) + ey d, z + ez (sdN d i) + ez d])]) (mVar_of (i := 7) rfl) (mVar_of (i := 0) rfl) (gIn_dic (a := [x + ex (sdN d i) + ex d, y + ey (sdN d i) + ey d, z + ez (sdN d i) + ez d]) gk))
  have t2 := mT_of (m2_ev (ls := [some (.ref k), some (T [x, y, z, (d : Nat)]), some (.int (i : Nat)), some (T [x, y, z]), some (.int (d : Nat)), some (.int (sdN d i : Nat)), some (T [x + ex (sdN d i), y + ey (sdN d i), z + ez (sdN d i)]), some (T [x + ex (sdN d i) + ex d, y + ey (sdN d i) + ey d, z + ez (sdN d i) + ez d])]) (mVar_of (i := 6) rfl) (mVar_of (i := 0) rfl) (gIn_dic (a := [x + ex (sdN d i), y + ey (sdN d i), z + ez (sdN d i)]) gk))
  have one : ∀ {fa : AE} {ls : Ls} {t : Nat}, fa ls hp = some (.int (t : Nat), hp) → mTup (mCons fa mNil) ls hp = some (.tup [.int (t : Nat)], hp) := fun e => tup_of (cons_of e nil_of) (by show 1 ≤ 1000; decide)
  unfold bycV bycN crsN
  dsimp only
  rw [n3, n2]
  by_cases m1 : [x + ex (sdN d i) + ex d, y + ey (sdN d i) + ey d, z + ez (sdN d i) + ez d] ∈ bs
  · rw [decide_eq_true m1] at t1
    rw [if_pos m1, if_pos m1]
    exact def_of (sSeq_of s1 (sSeq_of s2 (sSeq_of s3 (sSeq_of s4 (seq_ret (sIf_t t1 (ret_of (tup_of (cons_of (m2_ev (mVar_of rfl) (one (call_of (cons_of (mVar_of rfl) nil_of) rfl (against_ok E.t6 hp))) tcat) (cons_of (call_of (cons_of (call_of (cons_of (mVar_of rfl) nil_of) rfl (against_ok E.t6 hp)) (cons_of (call_of (cons_of (mVar_of rfl) nil_of) rfl (against_ok hd hp)) nil_of)) rfl (side_to_ok E.a6 E.s3 hp)) (cons_of (m1_ev mC_of gNeg_int) nil_of))) (by show 3 ≤ 1000; decide)))))))))
  · rw [decide_eq_false m1] at t1
    rw [if_neg m1, if_neg m1]
    by_cases m2' : [x + ex (sdN d i), y + ey (sdN d i), z + ez (sdN d i)] ∈ bs
    · rw [decide_eq_true m2'] at t2
      rw [if_pos m2', if_pos m2']
      exact def_of (sSeq_of s1 (sSeq_of s2 (sSeq_of s3 (sSeq_of s4 (sSeq_of (sIf_f t1 rfl) (seq_ret (sIf_t t2 (ret_of (tup_of (cons_of (m2_ev (mVar_of rfl) (one (mVar_of rfl)) tcat) (cons_of (call_of (cons_of (mVar_of rfl) (cons_of (call_of (cons_of (mVar_of rfl) nil_of) rfl (against_ok E.t6 hp)) nil_of)) rfl (side_to_ok hd E.s2 hp)) (cons_of mC_of nil_of))) (by show 3 ≤ 1000; decide))))))))))
    · rw [decide_eq_false m2'] at t2
      rw [if_neg m2', if_neg m2']
      exact def_of (sSeq_of s1 (sSeq_of s2 (sSeq_of s3 (sSeq_of s4 (sSeq_of (sIf_f t1 rfl) (sSeq_of (sIf_f t2 rfl) (ret_of (tup_of (cons_of (m2_ev (mVar_of rfl) (one (mVar_of rfl)) tcat) (cons_of (call_of (cons_of (mVar_of rfl) (cons_of (mVar_of rfl) nil_of)) rfl (side_to_ok E.t6 E.s1 hp)) (cons_of mC_of nil_of))) (by show 3 ≤ 1000; decide)))))))))
def B1_faces : AS :=
    (sDrop (mExt (mVar 2) (mLc (mR1 (mCons (mC k_DIRECTIONS) mNil)) (.nm 4) [4] (mT (m2 (mAs (mCons (mVar 3) (mCons (mVar 4) mNil)) (ar 2 c_beside_cube)) (mVar 1) gNotIn)) (m2 (mVar 3) (mTup (mCons (mVar 4) mNil)) gAdd))))
@[simp] def b_faces_3 : AS :=
    (sRet (mVar 2))
@[simp] def b_faces_2 : AS :=
    sSeq (sForI (mIS (mVar 0)) (.nm 3) B1_faces)
    b_faces_3
@[simp] def b_faces_1 : AS :=
    sSeq (sSet 2 (mNew (mLst mNil)))
    b_faces_2
def b_faces : AS :=
    sSeq (sSet 1 (mAs (mCons (mVar 0) mNil) (ar 1 c_known_of)))
    b_faces_1
def m_faces : List D → Hd → Option (D × Hd) := mDef 5 b_faces
def c_faces := cN m_faces
theorem con_faces : Cl c_faces m_faces := cl_cN _
theorem faces_ok (hp : Hd) (bs : List (List Int)) (nd : bs.Nodup) (h3 : Three bs) (hl : bs.length ≤ 30) : c_faces [.tup (bs.map T)] hp = some (.ref hp.length, hp ++ [.lst ((FC bs bs).map T)]) := by
  have s1 : sSet 1 (mAs (mCons (mVar 0) mNil) (ar 1 c_known_of)) (stD 5 [.tup (bs.map T)]) [] = some (.nx, [some (.tup (bs.map T)), some (.ref 0), none, none, none], [.dic (Cd bs)]) := by
    refine (sSet_of (d := .ref 0) (hp1 := [.dic (Cd bs)]) ?_).trans rfl
    rw [call1_of (mVar_of rfl)]
    exact known_ok [] bs nd (by omega)
  have s2 : sSet 2 (mNew (mLst mNil)) [some (.tup (bs.map T)), some (.ref 0), none, none, none] [.dic (Cd bs)] = some (.nx, [some (.tup (bs.map T)), some (.ref 0), some (.ref 1), none, none], [.dic (Cd bs), .lst []]) := rfl
  have loop := sFor_inv (t := .nm 3) (b := B1_faces) (fun i ls hp => (∃ u v, ls = [some (.tup (bs.map T)), some (.ref 0), some (.ref 1), u, v]) ∧ hp = [.dic (Cd bs), .lst ((FC bs (bs.take i)).map T)])
    (bs.map T) [some (.tup (bs.map T)), some (.ref 0), some (.ref 1), none, none] [.dic (Cd bs), .lst []] 0 ⟨⟨none, none, rfl⟩, rfl⟩ (fun j x ls hp ej ⟨⟨u, v, el⟩, eh⟩ => by
      rw [Nat.zero_add] at eh ⊢
      have hj : j < bs.length := by
        have := (List.getElem?_eq_some_iff.mp ej).1
        simpa using this
      have ex : x = T bs[j] := by
        rw [List.getElem?_map, List.getElem?_eq_getElem hj] at ej
        exact (Option.some.inj ej).symm
      subst ex
      subst el
      subst eh
      obtain ⟨p, q, r, ec⟩ := h3 _ (List.getElem_mem hj)
      have fcl := FC_len bs (bs.take j)
      rw [FC_take hj]
      generalize hc : bs[j] = c at ec
      rw [List.length_take] at fcl
      generalize FC bs (bs.take j) = acc at fcl
      refine ⟨_, [some (.tup (bs.map T)), some (.ref 0), some (.ref 1), some (T c), v], _, rfl, .inl ?_, ⟨⟨_, _, rfl⟩, rfl⟩⟩
      have ei : mR1 (mCons (mC k_DIRECTIONS) mNil) [some (.tup (bs.map T)), some (.ref 0), some (.ref 1), some (T c), v] [.dic (Cd bs), .lst (acc.map T)] = some ((List.range 6).map fun i => D.int (i : Nat), [], [.dic (Cd bs), .lst (acc.map T)]) := mR1_six rfl
      have el := mLc_typed (t := .nm 4) (own := [4]) (tt := mT (m2 (mAs (mCons (mVar 3) (mCons (mVar 4) mNil)) (ar 2 c_beside_cube)) (mVar 1) gNotIn)) (te := m2 (mVar 3) (mTup (mCons (mVar 4) mNil)) gAdd) (fun i : Nat => D.int (i : Nat)) (List.range 6) (fun d : Nat => !decide (nb c (d : Int) ∈ bs)) (fun d : Nat => T (c ++ [(d : Int)])) ei (by rw [sizeLine_eq]; decide) rfl (fun d hd => by
        have hd6 : 0 ≤ (d : Int) ∧ (d : Int) < 6 := by
          have := List.mem_range.mp hd
          omega
        refine ⟨[some (.tup (bs.map T)), some (.ref 0), some (.ref 1), some (T c), some (.int (d : Int))], rfl, mT_of ?_, fun _ => ?_⟩
        · have eb : mAs (mCons (mVar 3) (mCons (mVar 4) mNil)) (ar 2 c_beside_cube) [some (.tup (bs.map T)), some (.ref 0), some (.ref 1), some (T c), some (.int (d : Int))] [.dic (Cd bs), .lst (acc.map T)] = some (T (nb c (d : Int)), [.dic (Cd bs), .lst (acc.map T)]) := by
            rw [call2_of (mVar_of rfl) (mVar_of rfl), ec]
            exact besideP_ok _ p q r d hd6
          rw [m2_of eb (mVar_of (d := .ref 0) rfl)]
          exact gNotIn_dic rfl
        · have et : mTup (mCons (mVar 4) mNil) [some (.tup (bs.map T)), some (.ref 0), some (.ref 1), some (T c), some (.int (d : Int))] [.dic (Cd bs), .lst (acc.map T)] = some (.tup [.int (d : Int)], [.dic (Cd bs), .lst (acc.map T)]) := rfl
          rw [m2_of (mVar_of (d := T c) rfl) et, ec]
          rfl)
      have en : ((List.range 6).filter fun d : Nat => !decide (nb c (d : Int) ∈ bs)).map (fun d : Nat => T (c ++ [(d : Int)])) = (fF bs c).map T := by
        unfold fF
        rw [List.map_map]
        rfl
      rw [en] at el
      have ef := fF_len bs c
      have ex : mExt (mVar 2) (mLc (mR1 (mCons (mC k_DIRECTIONS) mNil)) (.nm 4) [4] (mT (m2 (mAs (mCons (mVar 3) (mCons (mVar 4) mNil)) (ar 2 c_beside_cube)) (mVar 1) gNotIn)) (m2 (mVar 3) (mTup (mCons (mVar 4) mNil)) gAdd)) [some (.tup (bs.map T)), some (.ref 0), some (.ref 1), some (T c), v] [.dic (Cd bs), .lst (acc.map T)] = some (.non, [.dic (Cd bs), .lst ((acc ++ fF bs c).map T)]) := by
        unfold mExt
        rw [mVar_of (d := .ref 1) rfl]
        dsimp only
        rw [if_pos (show isL (.ref 1) [.dic (Cd bs), .lst (acc.map T)] = true from rfl), el]
        dsimp only
        unfold onL
        dsimp only
        rw [show ([.dic (Cd bs), .lst (acc.map T)] : Hd)[1]? = some (.lst (acc.map T)) from rfl]
        dsimp only
        rw [if_pos (by rw [List.length_map, List.length_map, sizeLine_eq]; omega), List.map_append]
        rfl
      exact sDrop_of ex)
  obtain ⟨ls', hp', e3, ⟨u, v, el⟩, eh⟩ := loop
  rw [List.length_map, Nat.zero_add, List.take_length] at eh
  subst el
  subst eh
  have er : m_faces [.tup (bs.map T)] [] = some (.ref 1, [.dic (Cd bs), .lst ((FC bs bs).map T)]) := by
    show mDef 5 b_faces [.tup (bs.map T)] [] = _
    rw [mDef_s]
    have eb : b_faces (stD 5 [.tup (bs.map T)]) [] = some (.rt (.ref 1), [some (.tup (bs.map T)), some (.ref 0), some (.ref 1), u, v], [.dic (Cd bs), .lst ((FC bs bs).map T)]) := by
      unfold b_faces
      refine sSeq_of s1 ?_
      unfold b_faces_1
      refine sSeq_of s2 ?_
      unfold b_faces_2
      have ef : sForI (mIS (mVar 0)) (.nm 3) B1_faces [some (.tup (bs.map T)), some (.ref 0), some (.ref 1), none, none] [.dic (Cd bs), .lst []] = some (.nx, [some (.tup (bs.map T)), some (.ref 0), some (.ref 1), u, v], [.dic (Cd bs), .lst ((FC bs bs).map T)]) := by
        unfold sForI
        rw [mIS_tup (mVar_of (d := .tup (bs.map T)) rfl)]
        exact e3
      exact sSeq_of ef rfl
    rw [eb]
  exact cN_of (nrs_tTs bs) er rfl (nrO_Ts _)
end Lw
namespace Lw
open PySem PySem.Spec L2 Ve
theorem ag_all : ((List.range 6).all fun d => ag (ag d) == d && ag d < 6 && (List.range 4).all fun i => sto d (sdN d i) == i) = true := by decide +kernel
theorem ag_ag {d : Nat} (hd : d < 6) : ag (ag d) = d := by
  have := List.all_eq_true.mp ag_all d (List.mem_range.mpr hd)
  simp only [Bool.and_eq_true, beq_iff_eq] at this
  exact this.1.1
theorem sto_sd {d i : Nat} (hd : d < 6) (hi : i < 4) : sto d (sdN d i) = i := by
  have := List.all_eq_true.mp ag_all d (List.mem_range.mpr hd)
  simp only [Bool.and_eq_true] at this
  exact beq_iff_eq.mp (List.all_eq_true.mp this.2 i (List.mem_range.mpr hi))
theorem geo_back {bs : List (List Int)} {x y z : Int} {d i : Nat} (h : FaceP bs x y z d) (hi : i < 4) {x2 y2 z2 : Int} {d2 i2 : Nat} (e : bycN bs x y z d i = ((x2, y2, z2), d2, i2)) :
    bycN bs x2 y2 z2 d2 i2 = ((x, y, z), d, i) ∧ crsN bs x2 y2 z2 d2 i2 = crsN bs x y z d i := by
  obtain ⟨hd, c1, c2⟩ := h
  have E := exs hd hi
  obtain ⟨a1, a2, a3⟩ := E.x1
  obtain ⟨b1, b2, b3⟩ := E.x2
  unfold bycN at e
  unfold crsN
  dsimp only at e
  have nn1 := nb_v hd x y z
  have nn2 := nb_v E.t6 x y z
  have nn3 : nb (nb [x, y, z] (sdN d i : Nat)) (d : Nat) = [x + ex (sdN d i) + ex d, y + ey (sdN d i) + ey d, z + ez (sdN d i) + ez d] := by rw [nn2, nb_v hd]
  rw [nn1] at c2
  rw [nn3, nn2] at e ⊢
  by_cases m1 : [x + ex (sdN d i) + ex d, y + ey (sdN d i) + ey d, z + ez (sdN d i) + ez d] ∈ bs
  · rw [if_pos m1] at e ⊢
    obtain ⟨p, q⟩ := Prod.mk.inj e
    obtain ⟨p1, p2⟩ := Prod.mk.inj p
    obtain ⟨p2, p3⟩ := Prod.mk.inj p2
    obtain ⟨q1, q2⟩ := Prod.mk.inj q
    have t2 : sdN d2 i2 = ag d := by rw [← q1, ← q2]; exact E.r3
    have k : nb (nb [x2, y2, z2] (sdN d2 i2 : Nat)) (d2 : Nat) = [x, y, z] := by
      rw [t2, nb_v E.b6, ← q1, nb_v E.a6, ← p1, ← p2, ← p3, a1, a2, a3, b1, b2, b3]
      simp only [List.cons.injEq, and_true]
      omega
    unfold bycN
    dsimp only
    rw [k, if_pos c1, if_pos c1, t2, ag_ag hd, ← q1, ag_ag E.t6, sto_sd hd hi]
    refine ⟨?_, rfl⟩
    rw [← p1, ← p2, ← p3, a1, a2, a3, b1, b2, b3]
    simp only [Prod.mk.injEq, and_true]
    omega
  · rw [if_neg m1] at e ⊢
    by_cases m2 : [x + ex (sdN d i), y + ey (sdN d i), z + ez (sdN d i)] ∈ bs
    · rw [if_pos m2] at e ⊢
      obtain ⟨p, q⟩ := Prod.mk.inj e
      obtain ⟨p1, p2⟩ := Prod.mk.inj p
      obtain ⟨p2, p3⟩ := Prod.mk.inj p2
      obtain ⟨q1, q2⟩ := Prod.mk.inj q
      have t2 : sdN d2 i2 = ag (sdN d i) := by rw [← q1, ← q2]; exact E.r2
      have k0 : nb [x2, y2, z2] (sdN d2 i2 : Nat) = [x, y, z] := by
        rw [t2, nb_v E.a6, ← p1, ← p2, ← p3, a1, a2, a3]
        simp only [List.cons.injEq, and_true]
        omega
      have k1 : nb (nb [x2, y2, z2] (sdN d2 i2 : Nat)) (d2 : Nat) ∉ bs := by
        rw [k0, ← q1, nn1]
        exact c2
      unfold bycN
      dsimp only
      rw [if_neg k1, if_neg k1, k0, if_pos c1, if_pos c1, t2, ← q1, ag_ag E.t6, sto_sd hd hi]
      refine ⟨?_, rfl⟩
      rw [← p1, ← p2, ← p3, a1, a2, a3]
      simp only [Prod.mk.injEq, and_true]
      omega
    · rw [if_neg m2] at e ⊢
      obtain ⟨p, q⟩ := Prod.mk.inj e
      obtain ⟨p1, p2⟩ := Prod.mk.inj p
      obtain ⟨p2, p3⟩ := Prod.mk.inj p2
      obtain ⟨q1, q2⟩ := Prod.mk.inj q
      subst p1 p2 p3
      have t2 : sdN d2 i2 = d := by rw [← q1, ← q2]; exact E.r1
      have k0 : nb [x, y, z] (sdN d2 i2 : Nat) ∉ bs := by
        rw [t2, nn1]
        exact c2
      have k1 : nb (nb [x, y, z] (sdN d2 i2 : Nat)) (d2 : Nat) ∉ bs := by
        rw [t2, nn1, ← q1, nb_v E.t6]
        intro w
        refine m1 ?_
        rw [show [x + ex (sdN d i) + ex d, y + ey (sdN d i) + ey d, z + ez (sdN d i) + ez d] = [x + ex d + ex (sdN d i), y + ey d + ey (sdN d i), z + ez d + ez (sdN d i)] by simp only [List.cons.injEq, and_true]; omega]
        exact w
      unfold bycN
      dsimp only
      rw [if_neg k1, if_neg k1, if_neg k0, if_neg k0, t2, ← q1, sto_sd hd hi]
      exact ⟨rfl, rfl⟩
end Lw
namespace Lw
open PySem PySem.Spec L2 Ve
theorem putAll_Gd (g : List Int → D) : ∀ (cs acc : List (List Int)), cs.Nodup → (∀ c ∈ cs, c ∉ acc) → putAll (Gd' g acc) (Gd' g cs) = Gd' g (acc ++ cs)
  | [], acc, _, _ => by
    rw [List.append_nil]
    rfl
  | c :: cs, acc, nd, h => by
    rw [List.nodup_cons] at nd
    show putAll (putD (Gd' g acc) (T c) (g c)) (Gd' g cs) = _
    rw [putD_Gd]
    unfold addC
    rw [if_neg (h c List.mem_cons_self), putAll_Gd g cs _ nd.2, List.append_assoc]
    · rfl
    · intro x hx z
      rcases List.mem_append.mp z with z | z
      · exact h x (List.mem_cons_of_mem _ hx) z
      · have : x = c := by simpa using z
        subst this
        exact nd.1 hx
theorem prs_Gd (g : List Int → D) : ∀ cs : List (List Int), prs? (cs.map fun c => D.tup [T c, g c]) = some (Gd' g cs)
  | [] => rfl
  | c :: cs => by
    rw [List.map_cons, prs?, prs_Gd g cs]
    rfl
theorem gDictL_Gd {hp : Hd} {g : List Int → D} {cs : List (List Int)} (nd : cs.Nodup) : gDictL (cs.map fun c => D.tup [T c, g c]) hp = some (.ref hp.length, hp ++ [.dic (Gd' g cs)]) := by
  unfold gDictL
  rw [prs_Gd]
  dsimp only
  have hk : ((Gd' g cs).all fun p => tupKey p.1) = true := by
    unfold Gd'
    rw [List.all_map, List.all_eq_true]
    intro c _
    show (toKeys (c.map D.int)).isSome = true
    rw [toKeys_ints]
    rfl
  rw [hk, Bool.or_true, if_pos rfl]
  have := putAll_Gd g cs [] nd (fun _ _ h => nomatch h)
  rw [List.nil_append] at this
  show some (D.ref hp.length, hp ++ [O.dic (putAll (Gd' g []) (Gd' g cs))]) = _
  rw [this]
def byF (bs : List (List Int)) (f : List Int) (i : Nat) : List Int × Nat := match f with
  | [x, y, z, d] => ([(bycN bs x y z d.toNat i).1.1, (bycN bs x y z d.toNat i).1.2.1, (bycN bs x y z d.toNat i).1.2.2, (((bycN bs x y z d.toNat i).2.1 : Nat) : Int)], (bycN bs x y z d.toNat i).2.2)
  | _ => ([], 0)
def faN (bs : List (List Int)) (f : List Int) : List (List Int) := (List.range 4).map fun i => (byF bs f i).1
structure ByF (bs : List (List Int)) (f : List Int) (i : Nat) : Prop where
  mem : (byF bs f i).1 ∈ FC bs bs
  lt : (byF bs f i).2 < 4
  back : byF bs (byF bs f i).1 (byF bs f i).2 = (f, i)
  ne : byF bs f i ≠ (f, i)
theorem byF_ok {bs : List (List Int)} (h3 : Three bs) {f : List Int} (hf : f ∈ FC bs bs) {i : Nat} (hi : i < 4) : ByF bs f i := by
  obtain ⟨x, y, z, d, rfl, hF⟩ := (FC_mem h3).mp hf
  obtain ⟨⟨x2, y2, z2⟩, d2, i2, e⟩ : ∃ p : Int × Int × Int, ∃ d2 i2 : Nat, bycN bs x y z d i = (p, d2, i2) := ⟨_, _, _, rfl⟩
  obtain ⟨g1, g2, g3, g4, _⟩ := geo2 hF hi e
  obtain ⟨k1, _⟩ := geo_back hF hi e
  have eb : byF bs [x, y, z, ((d : Nat) : Int)] i = ([x2, y2, z2, ((d2 : Nat) : Int)], i2) := by
    show (([(bycN bs x y z d i).1.1, (bycN bs x y z d i).1.2.1, (bycN bs x y z d i).1.2.2, (((bycN bs x y z d i).2.1 : Nat) : Int)] : List Int), (bycN bs x y z d i).2.2) = _
    rw [e]
  have eb2 : byF bs [x2, y2, z2, ((d2 : Nat) : Int)] i2 = ([x, y, z, ((d : Nat) : Int)], i) := by
    show (([(bycN bs x2 y2 z2 d2 i2).1.1, (bycN bs x2 y2 z2 d2 i2).1.2.1, (bycN bs x2 y2 z2 d2 i2).1.2.2, (((bycN bs x2 y2 z2 d2 i2).2.1 : Nat) : Int)] : List Int), (bycN bs x2 y2 z2 d2 i2).2.2) = _
    rw [k1]
  refine ⟨?_, ?_, ?_, ?_⟩
  · rw [eb]
    exact (FC_mem h3).mpr ⟨x2, y2, z2, d2, rfl, g1⟩
  · rw [eb]
    exact g2
  · rw [eb]
    exact eb2
  · rw [eb]
    intro z
    obtain ⟨z1, z2⟩ := Prod.mk.inj z
    simp only [List.cons.injEq, and_true] at z1
    exact g4 ⟨by omega, z2⟩
theorem faN_in {bs : List (List Int)} (h3 : Three bs) {f : List Int} (hf : f ∈ FC bs bs) {g : List Int} (h : g ∈ faN bs f) : g ∈ FC bs bs := by
  obtain ⟨i, hi, rfl⟩ := List.mem_map.mp h
  exact (byF_ok h3 hf (List.mem_range.mp hi)).mem
theorem faN_sym {bs : List (List Int)} (h3 : Three bs) {f : List Int} (hf : f ∈ FC bs bs) {g : List Int} (h : g ∈ faN bs f) : f ∈ faN bs g := by
  obtain ⟨i, hi, rfl⟩ := List.mem_map.mp h
  have b := byF_ok h3 hf (List.mem_range.mp hi)
  exact List.mem_map.mpr ⟨_, List.mem_range.mpr b.lt, by rw [b.back]⟩
def crF (bs : List (List Int)) (f : List Int) (i : Nat) : Int := match f with
  | [x, y, z, d] => crsN bs x y z d.toNat i
  | _ => 0
theorem by_in_ok {bs : List (List Int)} (h3 : Three bs) {f : List Int} (hf : f ∈ FC bs bs) {i : Nat} (hi : i < 4) {hp : Hd} {k : Nat} (gk : hp[k]? = some (.dic (Cd bs))) : m_beyond_in [.ref k, T f, .int (i : Nat)] hp = some (.tup [T (byF bs f i).1, .int ((byF bs f i).2 : Nat), .int (crF bs f i)], hp) := by
  obtain ⟨x, y, z, d, rfl, hF⟩ := (FC_mem h3).mp hf
  exact beyond_in_ok hF.1 hi gk
end Lw
namespace Lw
open PySem PySem.Spec L2 Ve
@[simp] def B1_part_with_1 : AS :=
    (sIf (mT (m2 (mVar 6) (mVar 2) gNotIn)) (sSeq (sStore (mC (.bl true)) (mVar 2) (mVar 6))
    (sDrop (mMet isL (mVar 3) (mCons (mVar 6) mNil) gAppend))) sNext)
def B1_part_with : AS :=
    sSeq (sSet 6 (m2 (mAs (mCons (mVar 0) (mCons (mVar 4) (mCons (mVar 5) mNil))) (ar 3 c_beyond_in)) (mC (.int 0)) gIx))
    B1_part_with_1
def F1_part_with : AS := (sForI (mR1 (mCons (mC k_SIDES) mNil)) (.nm 5) B1_part_with)
@[simp] def B2_part_with_1 : AS :=
    F1_part_with
def B2_part_with : AS :=
    sSeq (sSet 4 (mMet isL (mVar 3) mNil gPop))
    B2_part_with_1
def W2_part_with : Nat → AS := sWhile (mT (m2 (mAs (mCons (mVar 3) mNil) gLen) (mC (.int 0)) gGt)) B2_part_with
@[simp] def b_part_with_3 : AS :=
    (sRet (mL (mSorted (mVar 2)) gTup))
@[simp] def b_part_with_2 : AS :=
    sSeq (W2_part_with 1000000)
    b_part_with_3
@[simp] def b_part_with_1 : AS :=
    sSeq (sSet 3 (mNew (mLst (mCons (mVar 1) mNil))))
    b_part_with_2
def b_part_with : AS :=
    sSeq (sSet 2 (mDict (((mVar 1), (mC (.bl true))) :: [])))
    b_part_with_1
def m_part_with : List D → Hd → Option (D × Hd) := mDef 7 b_part_with
def c_part_with := c1V m_part_with
theorem con_part_with : Cl c_part_with m_part_with := cl_c1V _
theorem nIn_d {hp : Hd} {ls : Ls} {i j n : Nat} {a : List Int} {cs : List (List Int)} (h1 : ls[i]? = some (some (T a))) (h2 : ls[j]? = some (some (.ref n))) (h : hp[n]? = some (.dic (Cd cs))) : mT (m2 (mVar i) (mVar j) gNotIn) ls hp = some (!decide (a ∈ cs), hp) := mT_of (m2_ev (mVar_of h1) (mVar_of h2) (gNotIn_dic h))
theorem part4 {bs : List (List Int)} (h3 : Three bs) (u1 : Option D) (met wait : List (List Int)) {f : List Int} (hf : f ∈ FC bs bs) (u5 u6 : Option D) (hw : wait.length ≤ 2000) (hm : met.length ≤ 2000) :
    ∃ v5 v6, F1_part_with [some (.ref 0), u1, some (.ref 1), some (.ref 2), some (T f), u5, u6] [.dic (Cd bs), .dic (Cd met), .lst (wait.map T)] =
      some (.nx, [some (.ref 0), u1, some (.ref 1), some (.ref 2), some (T f), v5, v6], [.dic (Cd bs), .dic (Cd ((faN bs f).foldl psh (met, wait)).1), .lst (((faN bs f).foldl psh (met, wait)).2.map T)]) := by
  have loop := sForI_psh (t := .nm 5) (b := B1_part_with) (gd := []) (fi := mR1 (mCons (mC k_SIDES) mNil)) (ls := [some (.ref 0), u1, some (.ref 1), some (.ref 2), some (T f), u5, u6]) (hp := [.dic (Cd bs), .dic (Cd met), .lst (wait.map T)])
    (List.range 4) (fun i : Nat => D.int (i : Nat)) (fun i : Nat => (byF bs f i).1) (fun _ => true)
    (fun st ls hp => ∃ v5 v6, ls = [some (.ref 0), u1, some (.ref 1), some (.ref 2), some (T f), v5, v6] ∧ hp = [.dic (Cd bs), .dic (Cd st.1), .lst (st.2.map T)])
    (mR1_nat (j := 4) rfl (by decide)) (fun _ _ _ _ => rfl) (met, wait) ⟨u5, u6, rfl, rfl⟩ (by
      rintro i hi st ls hp ⟨v5, v6, rfl, rfl⟩ hm0 l1 l2
      have hi4 := List.mem_range.mp hi
      simp only [List.length_range] at l1 l2
      have ec := by_in_ok h3 hf hi4 (hp := [.dic (Cd bs), .dic (Cd st.1), .lst (st.2.map T)]) (k := 0) rfl
      generalize crF bs f i = c at ec
      generalize (byF bs f i).2 = j at ec
      generalize (byF bs f i).1 = g at ec ⊢
      have s1 : sSet 6 (m2 (mAs (mCons (mVar 0) (mCons (mVar 4) (mCons (mVar 5) mNil))) (ar 3 c_beyond_in)) (mC (.int 0)) gIx) [some (.ref 0), u1, some (.ref 1), some (.ref 2), some (T f), some (.int (i : Nat)), v6] [.dic (Cd bs), .dic (Cd st.1), .lst (st.2.map T)] = some (.nx, [some (.ref 0), u1, some (.ref 1), some (.ref 2), some (T f), some (.int (i : Nat)), some (T g)], [.dic (Cd bs), .dic (Cd st.1), .lst (st.2.map T)]) :=
        sSet_of (m2_ev (call_of (cons_of (mVar_of rfl) (cons_of (mVar_of rfl) (cons_of (mVar_of rfl) nil_of))) rfl ec) mC_of (gIx_tupN (j := 0) rfl))
      have t := nIn_d (ls := [some (.ref 0), u1, some (.ref 1), some (.ref 2), some (T f), some (.int (i : Nat)), some (T g)]) (i := 6) (j := 2) rfl rfl (hp := [.dic (Cd bs), .dic (Cd st.1), .lst (st.2.map T)]) (n := 1) (a := g) (cs := st.1) rfl
      by_cases h2 : g ∈ st.1
      · rw [decide_eq_true h2] at t
        refine ⟨_, _, _, asg_nm, .inl (sSeq_of s1 (sIf_f t rfl)), some (.int (i : Nat)), _, rfl, ?_⟩
        simp [h2]
      · rw [decide_eq_false h2] at t
        have t4 : gSet (.ref 1) (T g) (.bl true) [.dic (Cd bs), .dic (Cd st.1), .lst (st.2.map T)] = some [.dic (Cd bs), .dic (Cd (st.1 ++ [g])), .lst (st.2.map T)] := gSet_Gd (g := fun _ => .bl true) (cs := st.1) (a := g) rfl h2 (by rw [sizeLine_eq]; omega)
        have t5 := gAppend_of (hp := [.dic (Cd bs), .dic (Cd (st.1 ++ [g])), .lst (st.2.map T)]) (n := 2) (xs := st.2.map T) (d := T g) rfl (by rw [List.length_map]; omega)
        refine ⟨_, _, _, asg_nm, .inl (sSeq_of s1 (sIf_t t (sSeq_of (sStore_of mC_of (mVar_of rfl) (mVar_of rfl) t4) (sDrop_of (met_of (mVar_of rfl) (by rfl) (cons_of (mVar_of rfl) nil_of) t5))))), some (.int (i : Nat)), _, rfl, ?_⟩
        simp [h2])
  obtain ⟨ls', hp', e, v5, v6, rfl, rfl⟩ := loop
  rw [List.filter_eq_self.mpr (fun _ _ => rfl)] at e
  exact ⟨v5, v6, e⟩
structure PtF (bs : List (List Int)) (f : List Int) (cs : List (List Int)) : Prop where
  nd : cs.Nodup
  first : f ∈ cs
  sub : ∀ a ∈ cs, a ∈ FC bs bs
  cl : ∀ a ∈ cs, ∀ b ∈ faN bs a, b ∈ cs
  rch : ∀ a ∈ cs, Rch (faN bs) f a
theorem part_ok {bs : List (List Int)} (h3 : Three bs) (hl : bs.length ≤ 30) {f : List Int} (hf : f ∈ FC bs bs) {hp : Hd} {k : Nat} (gk : hp[k]? = some (.dic (Cd bs))) : ∃ cs, c_part_with [.ref k, T f] hp = some (.tup ((sortC cs).map T), hp) ∧ PtF bs f cs := by
  have inb : ∀ {b}, Rch (faN bs) f b → b ∈ FC bs bs := fun r => by
    induction r with
    | refl => exact hf
    | step _ q ih => exact faN_in h3 ih q
  have fl := FC_len bs bs
  obtain ⟨met, ls', hp', e, ⟨v4, v5, v6, rfl, rfl⟩, hm, h0⟩ := search_while (P := Rch (faN bs) f) (N := faN bs) (FC bs bs) (fun _ h => inb h) (fun a b h q => .step h q) (c := mT (m2 (mAs (mCons (mVar 3) mNil) gLen) (mC (.int 0)) gGt)) (b := B2_part_with)
    (fun met wait ls hp => ∃ v4 v5 v6, ls = [some (.ref 0), some (T f), some (.ref 1), some (.ref 2), v4, v5, v6] ∧ hp = [.dic (Cd bs), .dic (Cd met), .lst (wait.map T)])
    (by
      rintro met ls hp ⟨v4, v5, v6, rfl, rfl⟩
      have g1 : gLen [.ref 2] [.dic (Cd bs), .dic (Cd met), .lst (([] : List (List Int)).map T)] = some (.int 0, _) := gLen_lst (xs := []) rfl
      exact mT_of ((m2_ev (as_of (cons_of (mVar_of rfl) nil_of) g1) mC_of gGt_int).trans rfl)) (by
      rintro met w here ls hp ⟨v4, v5, v6, rfl, rfl⟩
      have g1 : gLen [.ref 2] [.dic (Cd bs), .dic (Cd met), .lst ((w ++ [here]).map T)] = some (.int ((w ++ [here]).map T).length, _) := gLen_lst rfl
      have q1 : (0 : Int) < ((w ++ [here]).map T).length := by rw [List.length_map, List.length_append, List.length_singleton]; omega
      exact mT_of ((m2_ev (as_of (cons_of (mVar_of rfl) nil_of) g1) mC_of gGt_int).trans (by rw [decide_eq_true q1]))) (by
      rintro met w here ls hp ⟨v4, v5, v6, rfl, rfl⟩ hh hbh l1 l2 _
      obtain ⟨v5', v6', e6⟩ := part4 h3 (some (T f)) met w (inb hbh) v5 v6 (by omega) (by omega)
      have gp := gPop_of (hp := [.dic (Cd bs), .dic (Cd met), .lst ((w ++ [here]).map T)]) (n := 2) (xs := w.map T) (d := T here) (by rw [List.map_append]; rfl)
      exact ⟨_, _, sSeq_of (sSet_of (met_of (mVar_of rfl) (by rfl) nil_of gp)) e6, some (T here), v5', v6', rfl, rfl⟩)
    1000000 f .refl [some (.ref 0), some (T f), some (.ref 1), some (.ref 2), none, none, none] [.dic (Cd bs), .dic (Cd [f]), .lst ([f].map T)] ⟨none, none, none, rfl, rfl⟩ (by omega)
  refine ⟨met, ?_, hm.nd, h0, fun a ha => inb (hm.pr a ha), fun a ha => hm.cl a ha (by simp), hm.pr⟩
  have kd : ((([(T f, D.bl true)] : List (D × D)).all fun p => (toKey p.1).isSome) || ([(T f, D.bl true)] : List (D × D)).all fun p => tupKey p.1) = true := by
    show (((toKey (T f)).isSome && true) || ((toKeys (f.map D.int)).isSome && true)) = true
    rw [toKeys_ints]
    simp
  have s1 : sSet 2 (mDict (((mVar 1), (mC (.bl true))) :: [])) [some (.ref 0), some (T f), none, none, none, none, none] [.dic (Cd bs)] = some (.nx, [some (.ref 0), some (T f), some (.ref 1), none, none, none, none], [.dic (Cd bs), .dic (Cd [f])]) := by
    refine (sSet_of (d := .ref 1) (hp1 := [.dic (Cd bs), .dic (Cd [f])]) ?_).trans rfl
    simp only [mVar_s, mC_s, m2_s, m1_s, mT_s, mNil_s, mCons_s, mAs_s, ar_s, mNew_s, mTup_s, mLst_s, sNext_s, sSeq_s, sDrop_s, sRet_s, sIf_s2, sSet_s, sAsg_s, sPar_s, sStore_s, gAdd_int, gSub_int, gLt_int, gLe_int, gGt_int, gGe_int, gNeg_int, gEq_int, gNe_int,
 mIfE_s2, mAnd_s2, mOr_s2, mNot_s, mAndV_s2, mOrV_s2, mNotV_s, mChain_s2, mChain3_s, mL_s, m2L_s, mMet_s, mExt_s, mExtO_s, mIsi_s, mSl_s, mPo_n, mPo_s, mCat_s, mCatOL_s, mCatLO_s, mCatOO_s, mLRg1_s, mLRg2_s, mTRg1_s, mTRg2_s, mRep_s, sAsgL_s, sPar3_s, sAug_s, sBrk_s, sCnt_s, sRetN_s, tYesD_s, mSorted_s, mSortedL_s, mIS_s, mIL_s, mList_s, sAsgM_s, tNm_s, tSub_s, tTp_s, tTps_nil, tTps_cons, mDict0_s, asg_nm, asg_tp, asg_tpT, asgs_nil, asgs_cons, mDef_s,
 List.getElem?_cons_zero, List.getElem?_cons_succ, List.set_cons_zero, List.set_cons_succ, List.length_cons, List.length_nil, List.cons_append, List.nil_append, List.map_cons, List.map_nil, if_true, if_false, reduceIte, reduceCtorEq, Bool.false_eq_true, Bool.true_eq_false, decide_eq_true_eq, decide_true, decide_false, Bool.not_true, Bool.not_false, Nat.reduceAdd, Nat.reduceLeDiff, Nat.reduceLT, Nat.reduceEqDiff, Int.reduceLT, Int.reduceLE, Int.reduceAdd, Int.reduceSub, Int.reduceMul, Int.reduceNeg, isL, onL, gAppend, gPop, Ve.gTup, sizeLine_eq, mDict, mPairs, kd, Bool.true_and, Nat.reduceLeDiff, decide_true]
    rfl
  have s2 : sSet 3 (mNew (mLst (mCons (mVar 1) mNil))) [some (.ref 0), some (T f), some (.ref 1), none, none, none, none] [.dic (Cd bs), .dic (Cd [f])] = some (.nx, [some (.ref 0), some (T f), some (.ref 1), some (.ref 2), none, none, none], [.dic (Cd bs), .dic (Cd [f]), .lst ([f].map T)]) := rfl
  have ne : ∀ c ∈ met, c ≠ [] := fun c hc => FC_ne c (inb (hm.pr c hc))
  have em : m_part_with [.ref 0, T f] [.dic (Cd bs)] = some (.tup ((sortC met).map T), [.dic (Cd bs), .dic (Cd met), .lst []]) := by
    have so := mSorted_dic (fa := mVar 2) (ls := [some (.ref 0), some (T f), some (.ref 1), some (.ref 2), v4, v5, v6]) (hp := [.dic (Cd bs), .dic (Cd met), .lst (([] : List (List Int)).map T)]) (mVar_of rfl) (n := 1) rfl ne
    exact def_of (sSeq_of s1 (sSeq_of s2 (sSeq_of (show W2_part_with 1000000 _ _ = _ from e) (ret_of ((mL_of so).trans rfl)))))
  have := c1V_of (m := m_part_with) (ds := [T f]) gk (nrs_cons (nr_T _) rfl) (nrO_Cd bs) em (nr_tTs _) (nrO_Cd bs)
  rw [set_same gk] at this
  exact this
end Lw
namespace Lw
open PySem PySem.Spec L2 Ve
def E1_skin_of : AE :=
    (mTup (mCons (mVar 4) (mCons (mVar 6) mNil)))
def C1_skin_of : AA :=
    (mLc (mEnum (mVar 1)) (.tp ((.nm 6) :: ((.nm 4) :: []))) [6, 4] tYesD E1_skin_of)
def E2_skin_of : AE :=
    (mAs (mCons (mVar 0) (mCons (mVar 4) (mCons (mVar 7) mNil))) (ar 3 c_beyond_in))
def C2_skin_of : AA :=
    (mLc (mR1 (mCons (mC k_SIDES) mNil)) (.nm 7) [7] tYesD E2_skin_of)
def E3_skin_of : AE :=
    (mTup (mCons (m2 (mVar 2) (mVar 8) gIx) (mCons (mVar 7) mNil)))
def C3_skin_of : AA :=
    (mLc (mIS (mVar 5)) (.tp ((.nm 8) :: ((.nm 7) :: ((.nm 9) :: [])))) [8, 7, 9] tYesD E3_skin_of)
@[simp] def B1_skin_of_1 : AS :=
    (sDrop (mMet isL (mVar 3) (mCons (mL C3_skin_of gTup) mNil) gAppend))
def B1_skin_of : AS :=
    sSeq (sSet 5 (mNew C2_skin_of))
    B1_skin_of_1
def F1_skin_of : AS := (sForI (mIS (mVar 1)) (.nm 4) B1_skin_of)
@[simp] def b_skin_of_3 : AS :=
    (sRet (mAs (mCons (mVar 3) mNil) gTupV))
@[simp] def b_skin_of_2 : AS :=
    sSeq F1_skin_of
    b_skin_of_3
@[simp] def b_skin_of_1 : AS :=
    sSeq (sSet 3 (mNew (mLst mNil)))
    b_skin_of_2
def b_skin_of : AS :=
    sSeq (sSet 2 (mL C1_skin_of gDictL))
    b_skin_of_1
def m_skin_of : List D → Hd → Option (D × Hd) := mDef 10 b_skin_of
def c_skin_of := c1V m_skin_of
theorem con_skin_of : Cl c_skin_of m_skin_of := cl_c1V _
def skJ (bs S : List (List Int)) (k i : Nat) : Sd := (S.idxOf (byF bs (S.getD k []) i).1, (byF bs (S.getD k []) i).2)
theorem getD_mem' {S : List (List Int)} {k : Nat} (h : k < S.length) : S.getD k [] ∈ S := by
  rw [List.getD_eq_getElem?_getD, List.getElem?_eq_getElem h]
  exact List.getElem_mem h
theorem map_range {α : Type} (S : List (List Int)) (g : List Int → α) : S.map g = (List.range S.length).map fun k => g (S.getD k []) := by
  refine List.ext_getElem? fun k => ?_
  rw [List.getElem?_map, List.getElem?_map]
  by_cases h : k < S.length
  · rw [List.getElem?_range h]
    show _ = some (g (S.getD k []))
    rw [List.getD_eq_getElem?_getD, List.getElem?_eq_getElem h]
    rfl
  · rw [List.getElem?_eq_none (by omega), List.getElem?_eq_none (by rw [List.length_range]; omega)]
    rfl
theorem idx_get {S : List (List Int)} (nd : S.Nodup) {k : Nat} (h : k < S.length) : S.idxOf (S.getD k []) = k := idxOf_eq nd (by rw [List.getD_eq_getElem?_getD, List.getElem?_eq_getElem h]; rfl)
abbrev plF (S : List (List Int)) : List Int → D := fun c => .int (S.idxOf c : Nat)
theorem places_ok {S : List (List Int)} (nd : S.Nodup) (hl : S.length ≤ 1000) {v0 v2 v3 v4 v5 v6 v7 v8 v9 : Option D} {hp : Hd} : mL C1_skin_of gDictL [v0, some (.tup (S.map T)), v2, v3, v4, v5, v6, v7, v8, v9] hp = some (.ref hp.length, hp ++ [.dic (Gd' (plF S) S)]) := by
  have ei : mEnum (mVar 1) [v0, some (.tup (S.map T)), v2, v3, v4, v5, v6, v7, v8, v9] hp = some ((List.range S.length).map fun k => D.tup [.int (k : Nat), T (S.getD k [])], [], hp) := by
    rw [mEnum_tup (mVar_of rfl), map_range, enumD_range]
  have e := mLc_typed (t := .tp ((.nm 6) :: ((.nm 4) :: []))) (own := [6, 4]) (tt := tYesD) (te := E1_skin_of) (fun k => D.tup [.int (k : Nat), T (S.getD k [])]) (List.range S.length) (fun _ => true) (fun k => D.tup [T (S.getD k []), .int (k : Nat)]) ei (by rw [List.length_range, sizeLine_eq]; omega) rfl (fun k hk => ⟨_, rfl, rfl, fun _ => tup_of (cons_of (mVar_of rfl) (cons_of (mVar_of rfl) nil_of)) (by show 2 ≤ 1000; decide)⟩)
  rw [List.filter_eq_self.mpr (fun _ _ => rfl)] at e
  refine (mL_of e).trans ?_
  have : (List.range S.length).map (fun k => D.tup [T (S.getD k []), .int (k : Nat)]) = S.map fun c => D.tup [T c, plF S c] := by
    rw [map_range S (fun c => D.tup [T c, plF S c])]
    refine List.map_congr_left fun k hk => ?_
    show _ = D.tup [T (S.getD k []), .int (S.idxOf (S.getD k []) : Nat)]
    rw [idx_get nd (List.mem_range.mp hk)]
  rw [this]
  exact gDictL_Gd nd
structure Cls (bs S : List (List Int)) : Prop where
  nd : S.Nodup
  sub : ∀ a ∈ S, a ∈ FC bs bs
  cl : ∀ a ∈ S, ∀ b ∈ faN bs a, b ∈ S
theorem Cls.by_ {bs S : List (List Int)} (h : Cls bs S) {k i : Nat} (hk : k < S.length) (hi : i < 4) : (byF bs (S.getD k []) i).1 ∈ S := h.cl _ (getD_mem' hk) _ (List.mem_map.mpr ⟨i, List.mem_range.mpr hi, rfl⟩)
theorem row_skin {bs S : List (List Int)} (h3 : Three bs) (h : Cls bs S) (hl : S.length ≤ 1000) {k : Nat} (hk : k < S.length) {rs : List D} (hr : rs.length ≤ 1000) {v5 v6 v7 v8 v9 : Option D} {g : Hd} :
    ∃ v5' g', B1_skin_of [some (.ref 0), some (.tup (S.map T)), some (.ref 1), some (.ref 2), some (T (S.getD k [])), v5, v6, v7, v8, v9] (.dic (Cd bs) :: .dic (Gd' (plF S) S) :: .lst rs :: g) = some (.nx, [some (.ref 0), some (.tup (S.map T)), some (.ref 1), some (.ref 2), some (T (S.getD k [])), v5', v6, v7, v8, v9], .dic (Cd bs) :: .dic (Gd' (plF S) S) :: .lst (rs ++ [TT (rowI (skJ bs S) k)]) :: g') := by
  have hf := h.sub _ (getD_mem' hk)
  have by_ := fun i hi => h.by_ hk (i := i) hi
  generalize ef : S.getD k [] = f at hf by_
  have e2 := mLc_typed (fi := mR1 (mCons (mC k_SIDES) mNil)) (t := .nm 7) (own := [7]) (tt := tYesD) (te := E2_skin_of) (ls := [some (.ref 0), some (.tup (S.map T)), some (.ref 1), some (.ref 2), some (T f), v5, v6, v7, v8, v9]) (hp := .dic (Cd bs) :: .dic (Gd' (plF S) S) :: .lst rs :: g) (fun i : Nat => D.int (i : Nat)) (List.range 4) (fun _ => true) (fun i => D.tup [T (byF bs f i).1, .int ((byF bs f i).2 : Nat), .int (crF bs f i)]) (mR1_nat (j := 4) rfl (by decide)) (by rw [List.length_range, sizeLine_eq]; decide) rfl (fun i hi =>
    ⟨_, asg_nm, rfl, fun _ => call_of (cons_of (mVar_of rfl) (cons_of (mVar_of rfl) (cons_of (mVar_of rfl) nil_of))) rfl (by_in_ok h3 hf (List.mem_range.mp hi) rfl)⟩)
  rw [List.filter_eq_self.mpr (fun _ _ => rfl)] at e2
  have s1 : sSet 5 (mNew C2_skin_of) [some (.ref 0), some (.tup (S.map T)), some (.ref 1), some (.ref 2), some (T f), v5, v6, v7, v8, v9] (.dic (Cd bs) :: .dic (Gd' (plF S) S) :: .lst rs :: g) = some (.nx, [some (.ref 0), some (.tup (S.map T)), some (.ref 1), some (.ref 2), some (T f), some (.ref (g.length + 3)), v6, v7, v8, v9], .dic (Cd bs) :: .dic (Gd' (plF S) S) :: .lst rs :: (g ++ [.lst ((List.range 4).map fun i => D.tup [T (byF bs f i).1, .int ((byF bs f i).2 : Nat), .int (crF bs f i)])])) := sSet_of (mNew_of e2)
  have gq : (.dic (Cd bs) :: .dic (Gd' (plF S) S) :: .lst rs :: (g ++ [O.lst ((List.range 4).map fun i => D.tup [T (byF bs f i).1, .int ((byF bs f i).2 : Nat), .int (crF bs f i)])]) : Hd)[g.length + 3]? = some (.lst ((List.range 4).map fun i => D.tup [T (byF bs f i).1, .int ((byF bs f i).2 : Nat), .int (crF bs f i)])) := by
    show (g ++ [O.lst _])[g.length]? = _
    exact hget_new
  have e3' := mLc_typed (fi := mIS (mVar 5)) (t := .tp ((.nm 8) :: ((.nm 7) :: ((.nm 9) :: [])))) (own := [8, 7, 9]) (tt := tYesD) (te := E3_skin_of) (ls := [some (.ref 0), some (.tup (S.map T)), some (.ref 1), some (.ref 2), some (T f), some (.ref (g.length + 3)), v6, v7, v8, v9]) (fun i => D.tup [T (byF bs f i).1, .int ((byF bs f i).2 : Nat), .int (crF bs f i)]) (List.range 4) (fun _ => true) (fun i => T (pI (skJ bs S k i)))
    (mIS_ref (mVar_of rfl) gq) (by rw [List.length_range, sizeLine_eq]; decide) (gdOk1 gq) (fun i hi => ⟨_, rfl, rfl, fun _ => by
      refine tup_of (cons_of (m2_ev (mVar_of rfl) (mVar_of rfl) (gIx_Gd (g := plF S) (cs := S) rfl (by_ i (List.mem_range.mp hi)))) (cons_of (d := .int ((byF bs f i).2 : Nat)) (mVar_of rfl) nil_of)) (by show 2 ≤ 1000; decide) |>.trans ?_
      unfold skJ
      rw [ef]
      rfl⟩)
  rw [List.filter_eq_self.mpr (fun _ _ => rfl)] at e3'
  have e4 := (mL_of (g := Ve.gTup) e3').trans (show Ve.gTup _ _ = some (TT (rowI (skJ bs S) k), _) by rw [rowI_tup]; rfl)
  have ga := gAppend_of (hp := .dic (Cd bs) :: .dic (Gd' (plF S) S) :: .lst rs :: (g ++ [O.lst ((List.range 4).map fun i => D.tup [T (byF bs f i).1, .int ((byF bs f i).2 : Nat), .int (crF bs f i)])])) (n := 2) (xs := rs) (d := TT (rowI (skJ bs S) k)) rfl (by omega)
  exact ⟨_, _, sSeq_of s1 (sDrop_of (met_of (mVar_of rfl) (by rfl) (cons_of e4 nil_of) ga))⟩
theorem skinof_ok {bs S : List (List Int)} (h3 : Three bs) (h : Cls bs S) (hl : S.length ≤ 1000) {hp : Hd} {k : Nat} (gk : hp[k]? = some (.dic (Cd bs))) : c_skin_of [.ref k, .tup (S.map T)] hp = some (skD S.length (skJ bs S), hp) := by
  have p := places_ok h.nd hl (v0 := some (.ref 0)) (v2 := none) (v3 := none) (v4 := none) (v5 := none) (v6 := none) (v7 := none) (v8 := none) (v9 := none) (hp := [.dic (Cd bs)])
  have s1 : sSet 2 (mL C1_skin_of gDictL) [some (.ref 0), some (.tup (S.map T)), none, none, none, none, none, none, none, none] [.dic (Cd bs)] = some (.nx, [some (.ref 0), some (.tup (S.map T)), some (.ref 1), none, none, none, none, none, none, none], [.dic (Cd bs), .dic (Gd' (plF S) S)]) := sSet_of p
  have s2 : sSet 3 (mNew (mLst mNil)) [some (.ref 0), some (.tup (S.map T)), some (.ref 1), none, none, none, none, none, none, none] [.dic (Cd bs), .dic (Gd' (plF S) S)] = some (.nx, [some (.ref 0), some (.tup (S.map T)), some (.ref 1), some (.ref 2), none, none, none, none, none, none], [.dic (Cd bs), .dic (Gd' (plF S) S), .lst []]) := rfl
  obtain ⟨ls', hp', e, v4, v5, g, rfl, rfl⟩ := sForI_pre (fi := mIS (mVar 1)) (t := .nm 4) (b := B1_skin_of) (gd := []) (items := List.range S.length) (hp := [.dic (Cd bs), .dic (Gd' (plF S) S), .lst []]) (hp1 := [.dic (Cd bs), .dic (Gd' (plF S) S), .lst []]) (ls := [some (.ref 0), some (.tup (S.map T)), some (.ref 1), some (.ref 2), none, none, none, none, none, none]) (fun k => T (S.getD k []))
    (fun d ls hp => ∃ v4 v5 g, ls = [some (.ref 0), some (.tup (S.map T)), some (.ref 1), some (.ref 2), v4, v5, none, none, none, none] ∧ hp = .dic (Cd bs) :: .dic (Gd' (plF S) S) :: .lst (d.map fun k => TT (rowI (skJ bs S) k)) :: g)
    (by rw [mIS_tup (mVar_of rfl), map_range]) (fun _ _ _ _ => rfl) ⟨none, none, [], rfl, rfl⟩ (by
      rintro d k r ls hp ed ⟨v4, v5, g, rfl, rfl⟩
      obtain ⟨hk0, hk⟩ := range_at ed
      rw [← hk0] at hk
      obtain ⟨v5', g', e⟩ := row_skin h3 h hl hk (rs := d.map fun k => TT (rowI (skJ bs S) k)) (by rw [List.length_map]; omega) (v5 := v5) (v6 := none) (v7 := none) (v8 := none) (v9 := none) (g := g)
      exact ⟨_, _, _, asg_nm, .inl e, _, v5', g', rfl, by rw [List.map_append]; rfl⟩)
  obtain ⟨g', em⟩ : ∃ g', m_skin_of [.ref 0, .tup (S.map T)] [.dic (Cd bs)] = some (skD S.length (skJ bs S), .dic (Cd bs) :: g') := by
    rw [skD_tup]
    exact ⟨_, def_of (sSeq_of s1 (sSeq_of s2 (sSeq_of (show F1_skin_of _ _ = _ from e) (ret_of (as_of (cons_of (mVar_of rfl) nil_of) rfl)))))⟩
  have := c1V_of (m := m_skin_of) (ds := [.tup (S.map T)]) gk (nrs_cons (nr_tTs _) rfl) (nrO_Cd bs) em (nr_sk _ _) (nrO_Cd bs)
  rw [set_same gk] at this
  exact this
theorem skJ_skin {bs cs : List (List Int)} {f : List Int} (h3 : Three bs) (h : PtF bs f cs) {S : List (List Int)} (pm : S.Perm cs) : Skin S.length (skJ bs S) := by
  have nd : S.Nodup := pm.nodup_iff.mpr h.nd
  have sub : ∀ a ∈ S, a ∈ FC bs bs := fun a ha => h.sub a (pm.mem_iff.mp ha)
  have cl : Cls bs S := ⟨nd, sub, fun a ha b hb => pm.mem_iff.mpr (h.cl a (pm.mem_iff.mp ha) b hb)⟩
  have fm : f ∈ S := pm.mem_iff.mpr h.first
  have ok : ∀ k i, k < S.length → i < 4 → ByF bs (S.getD k []) i := fun k i hk hi => byF_ok h3 (sub _ (getD_mem' hk)) hi
  have get : ∀ a ∈ S, S.getD (S.idxOf a) [] = a := fun a ha => by
    rw [List.getD_eq_getElem?_getD, idxOf_at ha]
    rfl
  refine ⟨List.length_pos_of_mem fm, fun k i hk hi => ⟨List.idxOf_lt_length_of_mem (cl.by_ hk hi), (ok k i hk hi).lt⟩, fun k i hk hi => ?_, fun k i hk hi z => ?_, fun Q q0 clQ k hk => ?_⟩
  · have b := (ok k i hk hi).back
    unfold skJ
    rw [get _ (cl.by_ hk hi)]
    show (S.idxOf (byF bs (byF bs (S.getD k []) i).1 (byF bs (S.getD k []) i).2).1, (byF bs (byF bs (S.getD k []) i).1 (byF bs (S.getD k []) i).2).2) = _
    rw [b]
    show (S.idxOf (S.getD k []), i) = _
    rw [idx_get nd hk]
  · unfold skJ at z
    obtain ⟨z1, z2⟩ := Prod.mk.inj z
    have g := get _ (cl.by_ hk hi)
    rw [z1] at g
    exact (ok k i hk hi).ne (Prod.ext g.symm z2)
  · have h0 := List.length_pos_of_mem fm
    have step : ∀ a ∈ S, ∀ b ∈ faN bs a, (Q (S.idxOf a) → Q (S.idxOf b)) := fun a ha b hb qa => by
      obtain ⟨i, hi, rfl⟩ := List.mem_map.mp hb
      have := clQ (S.idxOf a) i (List.idxOf_lt_length_of_mem ha) (List.mem_range.mp hi) qa
      unfold skJ at this
      rw [get a ha] at this
      exact this
    have all : ∀ {a}, Rch (faN bs) f a → a ∈ S ∧ (Q (S.idxOf a) ↔ Q (S.idxOf f)) := fun r => by
      induction r with
      | refl => exact ⟨fm, Iff.rfl⟩
      | step r0 q ih =>
        rename_i b c
        have hc := cl.cl b ih.1 c q
        exact ⟨hc, fun qc => ih.2.mp (step c hc b (faN_sym h3 (sub b ih.1) q) qc), fun qf => step b ih.1 c q (ih.2.mpr qf)⟩
    have m0 : S.getD 0 [] ∈ S := getD_mem' h0
    have a0 := (all (h.rch _ (pm.mem_iff.mp m0))).2
    rw [idx_get nd h0] at a0
    have ak := (all (h.rch _ (pm.mem_iff.mp (getD_mem' hk)))).2
    rw [idx_get nd hk] at ak
    exact ak.mpr (a0.mp q0)
end Lw
namespace Lw
open PySem PySem.Spec L2 Ve
def E1_parts : AE :=
    (mTup (mCons (mVar 6) (mCons (mC (.bl true)) mNil)))
def C1_parts : AA :=
    (mLc (mIS (mVar 5)) (.nm 6) [6] tYesD E1_parts)
def B1_parts : AS :=
    (sIf (mT (m2 (mVar 4) (mVar 2) gNotIn)) (sSeq (sSet 5 (mAs (mCons (mVar 1) (mCons (mVar 4) mNil)) (ar 2 c_part_with)))
    (sSeq (sDrop (mMet isDc (mVar 2) (mCons (mL C1_parts gDictL) mNil) gUpd))
    (sDrop (mMet isL (mVar 3) (mCons (mTup (mCons (mVar 5) (mCons (mAs (mCons (mVar 1) (mCons (mVar 5) mNil)) (ar 2 c_skin_of)) mNil))) mNil) gAppend)))) sNext)
def F1_parts : AS := (sForI (mIS (mAs (mCons (mVar 0) mNil) (ar 1 c_faces))) (.nm 4) B1_parts)
@[simp] def b_parts_4 : AS :=
    (sRet (mVar 3))
@[simp] def b_parts_3 : AS :=
    sSeq F1_parts
    b_parts_4
@[simp] def b_parts_2 : AS :=
    sSeq (sSet 3 (mNew (mLst mNil)))
    b_parts_3
@[simp] def b_parts_1 : AS :=
    sSeq (sSet 2 mDict0)
    b_parts_2
def b_parts : AS :=
    sSeq (sSet 1 (mAs (mCons (mVar 0) mNil) (ar 1 c_known_of)))
    b_parts_1
def m_parts : List D → Hd → Option (D × Hd) := mDef 7 b_parts
def c_parts := cN m_parts
theorem con_parts : Cl c_parts m_parts := cl_cN _
theorem inj_of_map {α β : Type} {h : α → β} : ∀ {l : List α}, (l.map h).Nodup → ∀ a ∈ l, ∀ b ∈ l, h a = h b → a = b
  | [], _, a, ha, _, _, _ => by cases ha
  | x :: l, nd, a, ha, b, hb, e => by
    rw [List.map_cons, List.nodup_cons] at nd
    rcases List.mem_cons.mp ha with z1 | ha'
    · rcases List.mem_cons.mp hb with z2 | hb'
      · rw [z1, z2]
      · exact absurd (List.mem_map.mpr ⟨b, hb', by rw [← e, z1]⟩) nd.1
    · rcases List.mem_cons.mp hb with z2 | hb'
      · exact absurd (List.mem_map.mpr ⟨a, ha', by rw [e, z2]⟩) nd.1
      · exact inj_of_map nd.2 a ha' b hb' e
theorem map_nodup {α β : Type} {h : α → β} {S : List α} (nd : S.Nodup) (inj : ∀ a ∈ S, ∀ b ∈ S, h a = h b → a = b) : (S.map h).Nodup := List.pairwise_map.mpr (nd.imp_of_mem fun ha hb ne e => ne (inj _ ha _ hb e))
theorem foldl_addC_len : ∀ (cs acc : List (List Int)), (cs.foldl addC acc).length ≤ acc.length + cs.length
  | [], acc => Nat.le_refl _
  | c :: cs, acc => by
    have h1 := foldl_addC_len cs (addC acc c)
    have h2 : (addC acc c).length ≤ acc.length + 1 := by
      unfold addC
      split
      · omega
      · rw [List.length_append]
        exact Nat.le_refl _
    show (cs.foldl addC (addC acc c)).length ≤ _
    rw [List.length_cons]
    omega
theorem foldl_addC_ne : ∀ (cs acc : List (List Int)), (acc ≠ [] ∨ cs ≠ []) → cs.foldl addC acc ≠ []
  | [], acc, h => h.resolve_right (fun z => z rfl)
  | c :: cs, acc, _ => by
    refine foldl_addC_ne cs (addC acc c) (.inl ?_)
    unfold addC
    split
    · rename_i hm
      exact List.ne_nil_of_mem hm
    · exact fun z => by simp at z
end Lw
namespace Lw
open PySem PySem.Spec L2 Ve
def FsX (bs : List (List Int)) (rs : List D) : Prop := ∃ (f : List Int) (cs : List (List Int)), PtF bs f cs ∧ (FC bs bs)[0]? = some f ∧ rs[0]? = some (.tup [.tup ((sortC cs).map T), skD (sortC cs).length (skJ bs (sortC cs))])
theorem parts_okX {bs : List (List Int)} (h3 : Three bs) (nd : bs.Nodup) (hl : bs.length ≤ 30) (hne : FC bs bs ≠ []) (hh : ((FC bs bs).map hshI).Nodup) (hp : Hd) : ∃ rs, c_parts [.tup (bs.map T)] hp = some (.ref hp.length, hp ++ [.lst rs]) ∧ FsX bs rs := by
  have fl := FC_len bs bs
  have s1 : sSet 1 (mAs (mCons (mVar 0) mNil) (ar 1 c_known_of)) [some (.tup (bs.map T)), none, none, none, none, none, none] [] = some (.nx, [some (.tup (bs.map T)), some (.ref 0), none, none, none, none, none], [.dic (Cd bs)]) := sSet_of (call_of (cons_of (mVar_of rfl) nil_of) rfl (known_ok [] bs nd (by omega)))
  have s2 : sSet 2 mDict0 [some (.tup (bs.map T)), some (.ref 0), none, none, none, none, none] [.dic (Cd bs)] = some (.nx, [some (.tup (bs.map T)), some (.ref 0), some (.ref 1), none, none, none, none], [.dic (Cd bs), .dic []]) := rfl
  have s3 : sSet 3 (mNew (mLst mNil)) [some (.tup (bs.map T)), some (.ref 0), some (.ref 1), none, none, none, none] [.dic (Cd bs), .dic []] = some (.nx, [some (.tup (bs.map T)), some (.ref 0), some (.ref 1), some (.ref 2), none, none, none], [.dic (Cd bs), .dic [], .lst []]) := rfl
  have ef := faces_ok [.dic (Cd bs), .dic [], .lst []] bs nd h3 hl
  have ei : mIS (mAs (mCons (mVar 0) mNil) (ar 1 c_faces)) [some (.tup (bs.map T)), some (.ref 0), some (.ref 1), some (.ref 2), none, none, none] [.dic (Cd bs), .dic [], .lst []] = some ((FC bs bs).map T, [(3, (FC bs bs).map T)], [.dic (Cd bs), .dic [], .lst [], .lst ((FC bs bs).map T)]) := mIS_ref (call_of (cons_of (mVar_of rfl) nil_of) rfl ef) rfl
  obtain ⟨ls', hp', e, v4, v5, acc, rs, g, rfl, rfl, _, _, rn, fin⟩ := sForI_pre (t := .nm 4) (b := B1_parts) T
    (fun d ls hp => ∃ v4 v5 acc rs g, ls = [some (.tup (bs.map T)), some (.ref 0), some (.ref 1), some (.ref 2), v4, v5, none] ∧ hp = .dic (Cd bs) :: .dic (Cd acc) :: .lst rs :: .lst ((FC bs bs).map T) :: g ∧ acc.length ≤ 200 * d.length ∧ rs.length ≤ d.length ∧ (∀ r ∈ rs, nr r = true) ∧ ((d = [] ∧ acc = [] ∧ rs = []) ∨ (acc ≠ [] ∧ FsX bs rs)))
    ei (by
      rintro d ls hp ⟨_, _, _, _, _, rfl, rfl, _⟩
      exact gdOk1 rfl) ⟨none, none, [], [], [], rfl, rfl, Nat.zero_le _, Nat.zero_le _, fun r hr => (by cases hr), .inl ⟨rfl, rfl, rfl⟩⟩ (by
      rintro d f r ls hp ed ⟨v4, v5, acc, rs, g, rfl, rfl, la, lr, rn, hf⟩
      have hfm : f ∈ FC bs bs := by rw [ed]; exact List.mem_append_right _ List.mem_cons_self
      have ld : d.length < (FC bs bs).length := by rw [ed, List.length_append, List.length_cons]; omega
      have t := nIn_d (ls := [some (.tup (bs.map T)), some (.ref 0), some (.ref 1), some (.ref 2), some (T f), v5, none]) (i := 4) (j := 2) rfl rfl (hp := .dic (Cd bs) :: .dic (Cd acc) :: .lst rs :: .lst ((FC bs bs).map T) :: g) (n := 1) (a := f) (cs := acc) rfl
      have l1 : (d ++ [f]).length = d.length + 1 := by rw [List.length_append]; rfl
      by_cases hm : f ∈ acc
      · rw [decide_eq_true hm] at t
        refine ⟨_, _, _, asg_nm, .inl (sIf_f t rfl), _, v5, acc, rs, g, rfl, rfl, by omega, by omega, rn, .inr ?_⟩
        rcases hf with ⟨_, z, _⟩ | hf
        · rw [z] at hm
          cases hm
        · exact hf
      · rw [decide_eq_false hm] at t
        obtain ⟨cs, ep, pt⟩ := part_ok h3 hl hfm (hp := .dic (Cd bs) :: .dic (Cd acc) :: .lst rs :: .lst ((FC bs bs).map T) :: g) (k := 0) rfl
        have pm := sortC_perm cs
        have ndS : (sortC cs).Nodup := pm.nodup_iff.mpr pt.nd
        have lS : (sortC cs).length ≤ (FC bs bs).length := nodup_len ndS fun a ha => pt.sub a (pm.mem_iff.mp ha)
        have cS : Cls bs (sortC cs) := ⟨ndS, fun a ha => pt.sub a (pm.mem_iff.mp ha), fun a ha b hb => pm.mem_iff.mpr (pt.cl a (pm.mem_iff.mp ha) b hb)⟩
        have neS : sortC cs ≠ [] := List.ne_nil_of_mem (pm.mem_iff.mpr pt.first)
        have sk := skJ_skin h3 pt pm
        have hS : ((sortC cs).map hshI).Nodup := map_nodup ndS fun a ha b hb e => inj_of_map hh a (cS.sub a ha) b (cS.sub b hb) e
        generalize hS0 : sortC cs = S at *
        have s5 : sSet 5 (mAs (mCons (mVar 1) (mCons (mVar 4) mNil)) (ar 2 c_part_with)) [some (.tup (bs.map T)), some (.ref 0), some (.ref 1), some (.ref 2), some (T f), v5, none] (.dic (Cd bs) :: .dic (Cd acc) :: .lst rs :: .lst ((FC bs bs).map T) :: g) = some (.nx, [some (.tup (bs.map T)), some (.ref 0), some (.ref 1), some (.ref 2), some (T f), some (.tup (S.map T)), none], .dic (Cd bs) :: .dic (Cd acc) :: .lst rs :: .lst ((FC bs bs).map T) :: g) := sSet_of (call_of (cons_of (mVar_of rfl) (cons_of (mVar_of rfl) nil_of)) rfl ep)
        have el := mLc_typed (fi := mIS (mVar 5)) (t := .nm 6) (own := [6]) (tt := tYesD) (te := E1_parts) (ls := [some (.tup (bs.map T)), some (.ref 0), some (.ref 1), some (.ref 2), some (T f), some (.tup (S.map T)), none]) (hp := .dic (Cd bs) :: .dic (Cd acc) :: .lst rs :: .lst ((FC bs bs).map T) :: g) T S (fun _ => true) (fun c => D.tup [T c, .bl true]) (mIS_tup (mVar_of rfl)) (by rw [sizeLine_eq]; omega) rfl (fun c _ => ⟨_, asg_nm, rfl, fun _ => tup_of (cons_of (mVar_of rfl) (cons_of mC_of nil_of)) (by show 2 ≤ 1000; decide)⟩)
        rw [List.filter_eq_self.mpr (fun _ _ => rfl)] at el
        have ed1 := (mL_of (g := gDictL) el).trans (gDictL_Cd ndS)
        have gu := gUpd_of (hp := (.dic (Cd bs) :: .dic (Cd acc) :: .lst rs :: .lst ((FC bs bs).map T) :: g) ++ [.dic (Cd S)]) (n := 1) (m := (.dic (Cd bs) :: .dic (Cd acc) :: .lst rs :: .lst ((FC bs bs).map T) :: g : Hd).length) (acc := acc) (cs := S) rfl hget_new (by simp) neS (by omega) (.inr hS)
        have s6 : sDrop (mMet isDc (mVar 2) (mCons (mL C1_parts gDictL) mNil) gUpd) [some (.tup (bs.map T)), some (.ref 0), some (.ref 1), some (.ref 2), some (T f), some (.tup (S.map T)), none] (.dic (Cd bs) :: .dic (Cd acc) :: .lst rs :: .lst ((FC bs bs).map T) :: g) = some (.nx, [some (.tup (bs.map T)), some (.ref 0), some (.ref 1), some (.ref 2), some (T f), some (.tup (S.map T)), none], .dic (Cd bs) :: .dic (Cd (S.foldl addC acc)) :: .lst rs :: .lst ((FC bs bs).map T) :: (g ++ [.dic (Cd S)])) :=
          sDrop_of (met_of (mVar_of rfl) (by rfl) (cons_of ed1 nil_of) gu)
        have es := skinof_ok h3 cS (by omega) (hp := .dic (Cd bs) :: .dic (Cd (S.foldl addC acc)) :: .lst rs :: .lst ((FC bs bs).map T) :: (g ++ [.dic (Cd S)])) (k := 0) rfl
        have ga := gAppend_of (hp := .dic (Cd bs) :: .dic (Cd (S.foldl addC acc)) :: .lst rs :: .lst ((FC bs bs).map T) :: (g ++ [.dic (Cd S)])) (n := 2) (xs := rs) (d := .tup [.tup (S.map T), skD S.length (skJ bs S)]) rfl (by omega)
        have s7 : sDrop (mMet isL (mVar 3) (mCons (mTup (mCons (mVar 5) (mCons (mAs (mCons (mVar 1) (mCons (mVar 5) mNil)) (ar 2 c_skin_of)) mNil))) mNil) gAppend) [some (.tup (bs.map T)), some (.ref 0), some (.ref 1), some (.ref 2), some (T f), some (.tup (S.map T)), none] (.dic (Cd bs) :: .dic (Cd (S.foldl addC acc)) :: .lst rs :: .lst ((FC bs bs).map T) :: (g ++ [.dic (Cd S)])) = some (.nx, [some (.tup (bs.map T)), some (.ref 0), some (.ref 1), some (.ref 2), some (T f), some (.tup (S.map T)), none], .dic (Cd bs) :: .dic (Cd (S.foldl addC acc)) :: .lst (rs ++ [.tup [.tup (S.map T), skD S.length (skJ bs S)]]) :: .lst ((FC bs bs).map T) :: (g ++ [.dic (Cd S)])) :=
          sDrop_of (met_of (mVar_of rfl) (by rfl) (cons_of (tup_of (cons_of (mVar_of rfl) (cons_of (call_of (cons_of (mVar_of rfl) (cons_of (mVar_of rfl) nil_of)) rfl es) nil_of)) (by show 2 ≤ 1000; decide)) nil_of) ga)
        have fl' := foldl_addC_len S acc
        refine ⟨_, _, _, asg_nm, .inl (sIf_t t (sSeq_of s5 (sSeq_of s6 s7))), _, _, _, _, _, rfl, rfl, by omega, by rw [List.length_append, List.length_singleton]; omega, fun r hr => ?_, .inr ⟨foldl_addC_ne S acc (.inr neS), ?_⟩⟩
        · rcases List.mem_append.mp hr with z | z
          · exact rn r z
          · rw [List.mem_singleton.mp z]
            exact nr_tup (nrs_cons (nr_tTs _) (nrs_cons (nr_sk _ _) rfl))
        · rcases hf with ⟨z0, _, z⟩ | ⟨_, f0, cs0, p0, q0, g0⟩
          · rw [z]
            exact ⟨f, cs, pt, by rw [ed, z0]; rfl, by rw [hS0]; rfl⟩
          · refine ⟨f0, cs0, p0, q0, ?_⟩
            rw [List.getElem?_append_left (List.getElem?_eq_some_iff.mp g0).1]
            exact g0)
  have em : m_parts [.tup (bs.map T)] [] = some (.ref 2, .dic (Cd bs) :: .dic (Cd acc) :: .lst rs :: .lst ((FC bs bs).map T) :: g) := def_of (sSeq_of s1 (sSeq_of s2 (sSeq_of s3 (sSeq_of (show F1_parts _ _ = _ from e) (ret_of (mVar_of rfl))))))
  refine ⟨rs, cN_of (nrs_tTs bs) em rfl (nrs_of rn), ?_⟩
  rcases fin with ⟨z, _⟩ | ⟨_, h⟩
  · exact absurd z hne
  · exact h
end Lw
namespace Lw
open PySem PySem.Spec L2 Ve
theorem cut_toD (xs : List D) (k : Nat) (h : k ≤ xs.length) : cutD xs none (some ((k : Nat) : Int)) = xs.take k := by
  unfold cutD
  rw [HT.sIx_nat, HT.sIx_none, Nat.min_eq_left h, Nat.sub_zero, List.drop_zero]
theorem mSl_toL {fa fb : AE} {ls : Ls} {hp hp1 hp2 : Hd} {n k : Nat} {xs : List D} (e1 : fa ls hp = some (.ref n, hp1)) (e2 : fb ls hp1 = some (.int (k : Nat), hp2)) (h : hp2[n]? = some (.lst xs)) (hk : k ≤ xs.length) : mSl fa none (some fb) ls hp = some (.ref hp2.length, hp2 ++ [.lst (xs.take k)]) := by
  rw [mSl_s, e1]
  dsimp only
  rw [mPo_n]
  dsimp only
  rw [mPo_s, e2]
  dsimp only
  unfold gSl
  dsimp only
  rw [h]
  dsimp only
  rw [cut_toD xs k hk]
theorem mEnum_ref {fa : AE} {ls : Ls} {hp hp1 : Hd} {q : Nat} {ds : List D} (e : fa ls hp = some (.ref q, hp1)) (h : hp1[q]? = some (.lst ds)) : mEnum fa ls hp = some (enumD ds, [(q, ds)], hp1) := by
  unfold mEnum
  rw [e]
  simp only [tupOf, h]
def E1_L_left : AE :=
    (mTup (mCons (mVar 2) (mCons (mVar 4) mNil)))
def C1_L_left : AA :=
    (mLc (mR1 (mCons (mC (.int 4)) mNil)) (.nm 4) [4] (mT (m2 (m2 (mVar 3) (mVar 4) gIx) (mC .non) gIs)) E1_L_left)
def B1_L_left : AS :=
    (sDrop (mExt (mVar 1) C1_L_left))
def F1_L_left : AS := (sForI (mEnum (mVar 0)) (.tp ((.nm 2) :: ((.nm 3) :: []))) B1_L_left)
@[simp] def b_L_left_2 : AS :=
    (sRet (mVar 1))
@[simp] def b_L_left_1 : AS :=
    sSeq F1_L_left
    b_L_left_2
def b_L_left : AS :=
    sSeq (sSet 1 (mNew (mLst mNil)))
    b_L_left_1
def m_L_left : List D → Hd → Option (D × Hd) := mDef 5 b_L_left
abbrev c_L_left := m_L_left
theorem left_ok {hp : Hd} {r0 R n : Nat} {P : PJ} (h : RowsAt hp r0 R n P) (hn : n ≤ 100) : m_L_left [.ref R] hp = some (.ref hp.length, hp ++ [.lst ((opn P n).map fun p => T (pI p))]) := by
  have hR := hlt h.lst
  have it := mEnum_ref (fa := mVar 0) (ls := [some (.ref R), some (.ref hp.length), none, none, none]) (hp := hp ++ [.lst []]) (mVar_of rfl) (hget_old h.lst)
  rw [enumD_range] at it
  obtain ⟨ls', hp', e, ⟨v2, v3, v4, rfl, g, rw_, fr⟩⟩ := sForI_pre (t := .tp ((.nm 2) :: ((.nm 3) :: []))) (b := B1_L_left) (items := List.range n) (hp1 := hp ++ [.lst []]) (hp := hp ++ [.lst []])
    (ls := [some (.ref R), some (.ref hp.length), none, none, none]) (fun f : Nat => D.tup [.int (f : Nat), .ref (r0 + f)])
    (fun d ls hp' => ∃ v2 v3 v4, ls = [some (.ref R), some (.ref hp.length), v2, v3, v4] ∧ hp' = hp ++ [.lst ((opnL P d).map fun p => T (pI p))] ∧ RowsAt hp' r0 R n P ∧ True) it (by
      rintro d ls hp' ⟨_, _, _, _, _, r, _⟩
      exact gdOk1 r.lst) ⟨_, _, _, rfl, rfl, h.old, trivial⟩ (by
      rintro d f r ls hp' ed ⟨v2, v3, v4, rfl, rfl, h', _⟩
      obtain ⟨rfl, hf⟩ := range_at ed
      generalize hfd : d.length = f at *
      have e1 := mLc_typed (fi := mR1 (mCons (mC (.int 4)) mNil)) (t := .nm 4) (own := [4]) (tt := mT (m2 (m2 (mVar 3) (mVar 4) gIx) (mC .non) gIs)) (te := E1_L_left)
        (ls := [some (.ref R), some (.ref hp.length), some (.int (f : Nat)), some (.ref (r0 + f)), v4]) (fun i : Nat => D.int (i : Nat)) (List.range 4) (fun i => (P f i).isNone) (fun i => T (pI (f, i)))
        (mR1_nat (j := 4) (hp := hp ++ [.lst ((opnL P d).map fun p => T (pI p))]) rfl (by decide)) (by rw [List.length_range, sizeLine_eq]; decide) rfl (fun i hi => by
          have hi := List.mem_range.mp hi
          have g2 := gIx_refN (j := i) (h'.row f hf) (prow_at P f hi)
          exact ⟨_, asg_nm, mT_of (m2_ev (m2_ev (mVar_of rfl) (mVar_of rfl) g2) mC_of (gIs_oD _ _)), fun _ => tup_of (cons_of (mVar_of rfl) (cons_of (mVar_of rfl) nil_of)) (Nat.le_of_ble_eq_true rfl)⟩)
      have gq : (hp ++ [O.lst ((opnL P d).map fun p => T (pI p))])[hp.length]? = some (.lst ((opnL P d).map fun p => T (pI p))) := hget_new
      have eH : (hp ++ [O.lst ((opnL P d).map fun p => T (pI p))]).set hp.length (.lst ((opnL P d).map (fun p => T (pI p)) ++ ((List.range 4).filter fun i => (P f i).isNone).map fun i => T (pI (f, i)))) = hp ++ [O.lst ((opnL P (d ++ [f])).map fun p => T (pI p))] := by
        rw [List.set_append_right _ _ (Nat.le_refl _), Nat.sub_self, List.set_cons_zero]
        unfold opnL
        rw [List.flatMap_append, List.map_append, List.flatMap_singleton, List.map_map]
        rfl
      refine ⟨_, _, _, rfl, .inl (sDrop_of (mExt_of (mVar_of rfl) (isL_of gq) e1 gq (by
        have h1 := opnL_len P d
        have h2 := List.length_filter_le (fun i => (P f i).isNone) (List.range 4)
        rw [List.length_range] at h2
        rw [List.length_map, List.length_map]
        omega))), _, _, _, rfl, eH, ?_, trivial⟩
      rw [eH]
      exact h.old)
  rw [opnL_range] at g
  subst g
  have e' : F1_L_left [some (.ref R), some (.ref hp.length), none, none, none] (hp ++ [.lst []]) = some (.nx, _, _) := e
  exact def_of (sSeq_of (sSet_of (mNew_of (ds := []) rfl)) (sSeq_of e' (ret_of (mVar_of rfl))))
end Lw
namespace Lw
open PySem PySem.Spec L2 Ve
def E1_L_skin : AE :=
    (mNew (mRep (mLst (mCons (mC .non) mNil)) (mC (.int 4))))
def C1_L_skin : AA :=
    (mLc (mR1 (mCons (mVar 1) mNil)) (.nm 3) [3] tYesD E1_L_skin)
@[simp] def B1_L_skin_3 : AS :=
    (sStore (mTup (mCons (mVar 3) (mCons (mVar 6) mNil))) (m2 (mVar 2) (mVar 4) gIx) (mVar 5))
@[simp] def B1_L_skin_2 : AS :=
    sSeq (sStore (mTup (mCons (mVar 4) (mCons (mVar 5) mNil))) (m2 (mVar 2) (mVar 3) gIx) (mVar 6))
    B1_L_skin_3
@[simp] def B1_L_skin_1 : AS :=
    sSeq (sSet 6 (mAs (mCons (mVar 0) (mCons (mC (.int 4)) mNil)) (ar 2 c_L_take)))
    B1_L_skin_2
def B1_L_skin : AS :=
    sSeq (sAsg (.tp ((.nm 4) :: ((.nm 5) :: []))) (mAs (mCons (mVar 0) (mCons (mAs (mCons (mSl (mVar 2) none (some (mVar 3))) mNil) (ar 1 c_L_left)) mNil)) (ar 2 c_L_pick)))
    B1_L_skin_1
def F1_L_skin : AS := (sForI (mR2 (mCons (mC (.int 1)) (mCons (mVar 1) mNil))) (.nm 3) B1_L_skin)
@[simp] def B2_L_skin_3 : AS :=
    (sStore (mTup (mCons (mVar 3) (mCons (mVar 6) mNil))) (m2 (mVar 2) (mVar 4) gIx) (mVar 5))
@[simp] def B2_L_skin_2 : AS :=
    sSeq (sStore (mTup (mCons (mVar 4) (mCons (mVar 5) mNil))) (m2 (mVar 2) (mVar 3) gIx) (mVar 6))
    B2_L_skin_3
@[simp] def B2_L_skin_1 : AS :=
    sSeq (sAsg (.tp ((.nm 4) :: ((.nm 5) :: []))) (mMet isL (mVar 7) (mCons (mAs (mCons (mVar 0) (mCons (mAs (mCons (mVar 7) mNil) gLen) mNil)) (ar 2 c_L_take)) mNil) gPopAt))
    B2_L_skin_2
def B2_L_skin : AS :=
    sSeq (sAsg (.tp ((.nm 3) :: ((.nm 6) :: []))) (mMet isL (mVar 7) (mCons (mC (.int 0)) mNil) gPopAt))
    B2_L_skin_1
def W2_L_skin : Nat → AS := sWhile (mT (m2L (mVar 7) (mLst mNil) (gEqL true))) B2_L_skin
def E2_L_skin : AE :=
    (mAs (mCons (mVar 8) mNil) gTupV)
def C2_L_skin : AA :=
    (mLc (mIS (mVar 2)) (.nm 8) [8] tYesD E2_L_skin)
@[simp] def b_L_skin_4 : AS :=
    (sRet (mL C2_L_skin gTup))
@[simp] def b_L_skin_3 : AS :=
    sSeq (W2_L_skin 1000000)
    b_L_skin_4
@[simp] def b_L_skin_2 : AS :=
    sSeq (sSet 7 (mAs (mCons (mVar 2) mNil) (ar 1 c_L_left)))
    b_L_skin_3
@[simp] def b_L_skin_1 : AS :=
    sSeq F1_L_skin
    b_L_skin_2
def b_L_skin : AS :=
    sSeq (sSet 2 (mNew C1_L_skin))
    b_L_skin_1
def m_L_skin : List D → Hd → Option (D × Hd) := mDef 9 b_L_skin
theorem e1_skin (ls : Ls) (hp : Hd) : E1_L_skin ls hp = some (.ref hp.length, hp ++ [.lst [.non, .non, .non, .non]]) := by
  unfold E1_L_skin
  refine mNew_of ?_
  have h : mLst (mCons (mC .non) mNil) ls hp = some ([.non], hp) := by
    rw [mLst_s, cons_of (d := .non) (ds := []) rfl rfl]
    exact if_pos (by rw [sizeLine_eq]; exact Nat.le_of_ble_eq_true rfl)
  rw [mRep_s, h]
  exact if_pos ⟨by omega, by omega, by rw [sizeLine_eq]; exact Nat.le_of_ble_eq_true rfl⟩
theorem none_row (i : Nat) : prow (fun _ _ => none) i = [.non, .non, .non, .non] := rfl
theorem store_ok {hp : Hd} {R n : Nat} {P : PJ} (h : RowsAt hp 1 R n P) {a b : Sd} (hab : a ≠ b) (ha : a.1 < n) (hb : b.1 < n) (hR : n < R) (ha2 : a.2 < 4) (hb2 : b.2 < 4) (v0 v1 v7 v8 : Option D) :
    ∃ hp2, B1_L_skin_2 [v0, v1, some (.ref R), some (.int (a.1 : Nat)), some (.int (b.1 : Nat)), some (.int (b.2 : Nat)), some (.int (a.2 : Nat)), v7, v8] hp = some (.nx, [v0, v1, some (.ref R), some (.int (a.1 : Nat)), some (.int (b.1 : Nat)), some (.int (b.2 : Nat)), some (.int (a.2 : Nat)), v7, v8], hp2) ∧
      RowsAt hp2 1 R n (upJ P a b) ∧ (∀ k, (∀ f, f < n → k ≠ 1 + f) → hp2[k]? = hp[k]?) ∧ hp2.length = hp.length := by
  obtain ⟨hp1, hp2, e1, h1, e2, h2, h3, h4⟩ := h.two hab ha hb (fun f hf => by omega) ha2 hb2
  refine ⟨hp2, ?_, h2, h3, h4⟩
  have g1 := h.at_ ha
  have g2 := h1.at_ hb
  have e1' : gSet (.ref (1 + a.1)) (.int (a.2 : Nat)) (.tup [.int (b.1 : Nat), .int (b.2 : Nat)]) hp = some hp1 := e1
  have e2' : gSet (.ref (1 + b.1)) (.int (b.2 : Nat)) (.tup [.int (a.1 : Nat), .int (a.2 : Nat)]) hp1 = some hp2 := e2
  exact sSeq_of (sStore_of (tup_of (cons_of (mVar_of rfl) (cons_of (mVar_of rfl) rfl)) (by show 2 ≤ 1000; decide)) (m2_ev (mVar_of rfl) (mVar_of rfl) g1) (mVar_of rfl) e1') (sStore_of (tup_of (cons_of (mVar_of rfl) (cons_of (mVar_of rfl) rfl)) (by show 2 ≤ 1000; decide)) (m2_ev (mVar_of rfl) (mVar_of rfl) g2) (mVar_of rfl) e2')
def Sk1 (T0 n k : Nat) (ls : Ls) (hp : Hd) : Prop := ∃ P o v3 v4 v5 v6, ls = [some (.ref 0), some (.int (n : Nat)), some (.ref (n + 1)), v3, v4, v5, v6, none, none] ∧ RowsAt hp 1 (n + 1) n P ∧ hp[0]? = some o ∧ Hand (T0 + 2 * k) o ∧ PM n P ∧ (∀ f i, 1 + k ≤ f → P f i = none) ∧ (opn P (1 + k)).length = 2 * (1 + k) + 2 ∧ Lnk (1 + k) P ∧ n + 2 ≤ hp.length
theorem skin_step1 (T0 : Nat) (hT : T0 + 1000 < 1000000) {n k : Nat} (hn : n ≤ 100) (hd : k < n - 1) {ls : Ls} {hp : Hd} (h : Sk1 T0 n k ls hp) : ∃ ls2 hp2, B1_L_skin (ls.set 3 (some (.int ((1 + k : Nat) : Int)))) hp = some (.nx, ls2, hp2) ∧ Sk1 T0 n (k + 1) ls2 hp2 := by
  obtain ⟨P, o, v3, v4, v5, v6, rfl, rw0, g00, ho, pm, fr, len, lk, hl0⟩ := h
  have eS : mSl (mVar 2) none (some (mVar 3)) [some (.ref 0), some (.int (n : Nat)), some (.ref (n + 1)), some (.int ((1 + k : Nat) : Int)), v4, v5, v6, none, none] hp = some (.ref hp.length, hp ++ [.lst ((List.range (1 + k)).map fun f => D.ref (1 + f))]) := by
    rw [mSl_toL (mVar_of rfl) (mVar_of rfl) rw0.lst (by rw [List.length_map, List.length_range]; omega), ← List.map_take, List.take_range, Nat.min_eq_left (by omega)]
  have rS : RowsAt (hp ++ [.lst ((List.range (1 + k)).map fun f => D.ref (1 + f))]) 1 hp.length (1 + k) P := ⟨hget_new, fun f hf => hget_old (rw0.row f (by omega))⟩
  have rw_ : RowsAt (hp ++ [.lst ((List.range (1 + k)).map fun f => D.ref (1 + f))]) 1 (n + 1) n P := rw0.old
  have g0 : (hp ++ [.lst ((List.range (1 + k)).map fun f => D.ref (1 + f))])[0]? = some o := hget_old g00
  have hl2 : n + 2 ≤ (hp ++ [O.lst ((List.range (1 + k)).map fun f => D.ref (1 + f))]).length := by rw [List.length_append]; omega
  generalize hp ++ [O.lst ((List.range (1 + k)).map fun f => D.ref (1 + f))] = hpS at eS rS rw_ g0 hl2
  have e1 := left_ok rS (by omega)
  have ne : ((opn P (1 + k)).map fun p => T (pI p)) ≠ [] := fun z => by
    have := congrArg List.length z
    rw [List.length_map, len] at this
    simp at this
  have lel := opn_le P (1 + k)
  obtain ⟨q, hq, o1, e2, ho1⟩ := pick_ok (T0 + 2 * k) (by omega) (hpS ++ [.lst ((opn P (1 + k)).map fun p => T (pI p))]) 0 hpS.length (by omega) o (hget_old g0) ho _ hget_new ne (by rw [List.length_map]; omega)
  rw [List.length_map] at hq
  obtain ⟨⟨g, j⟩, hb⟩ : ∃ b, (opn P (1 + k))[q] = b := ⟨_, rfl⟩
  have hbm : (g, j) ∈ opn P (1 + k) := hb ▸ List.getElem_mem hq
  obtain ⟨⟨hg, hj⟩, hno⟩ := mem_opn.mp hbm
  dsimp only at hg hj hno
  rw [List.getElem_map, hb] at e2
  have g1 : ((hpS ++ [O.lst ((opn P (1 + k)).map fun p => T (pI p))]).set 0 o1)[0]? = some o1 := hset_same (hget_old g0)
  have rw1 : RowsAt ((hpS ++ [O.lst ((opn P (1 + k)).map fun p => T (pI p))]).set 0 o1) 1 (n + 1) n P := rw_.old.set (by omega) (fun f _ => by omega)
  have hl1 : ((hpS ++ [O.lst ((opn P (1 + k)).map fun p => T (pI p))]).set 0 o1).length = hpS.length + 1 := by rw [List.length_set, List.length_append]; rfl
  have a1 : sAsg (.tp ((.nm 4) :: ((.nm 5) :: []))) (mAs (mCons (mVar 0) (mCons (mAs (mCons (mSl (mVar 2) none (some (mVar 3))) mNil) (ar 1 c_L_left)) mNil)) (ar 2 c_L_pick)) [some (.ref 0), some (.int (n : Nat)), some (.ref (n + 1)), some (.int ((1 + k : Nat) : Int)), v4, v5, v6, none, none] hp
      = some (.nx, [some (.ref 0), some (.int (n : Nat)), some (.ref (n + 1)), some (.int ((1 + k : Nat) : Int)), some (.int (g : Nat)), some (.int (j : Nat)), v6, none, none], (hpS ++ [O.lst ((opn P (1 + k)).map fun p => T (pI p))]).set 0 o1) := by
    refine asg_of (call_of (cons_of (mVar_of rfl) (cons_of (call_of (cons_of eS rfl) rfl e1) rfl)) rfl e2) ?_
    rw [asg_tpT]
    rfl
  generalize (hpS ++ [O.lst ((opn P (1 + k)).map fun p => T (pI p))]).set 0 o1 = hp1 at g1 rw1 hl1 a1
  obtain ⟨q, o2, e3, q1, q2, ho2⟩ := take_ok _ (by omega) hp1 0 o1 g1 ho1 4 (by decide) (by decide)
  obtain ⟨i, rfl⟩ := Int.eq_ofNat_of_zero_le q1
  have hi : i < 4 := by omega
  have a2 : sSet 6 (mAs (mCons (mVar 0) (mCons (mC (.int 4)) mNil)) (ar 2 c_L_take)) [some (.ref 0), some (.int (n : Nat)), some (.ref (n + 1)), some (.int ((1 + k : Nat) : Int)), some (.int (g : Nat)), some (.int (j : Nat)), v6, none, none] hp1
      = some (.nx, [some (.ref 0), some (.int (n : Nat)), some (.ref (n + 1)), some (.int ((1 + k : Nat) : Int)), some (.int (g : Nat)), some (.int (j : Nat)), some (.int (i : Nat)), none, none], hp1.set 0 o2) := by
    simp only [mVar_s, mC_s, m2_s, m1_s, mT_s, mNil_s, mCons_s, mAs_s, ar_s, mNew_s, mTup_s, mLst_s, sNext_s, sSeq_s, sDrop_s, sRet_s, sIf_s2, sSet_s, sAsg_s, sPar_s, sStore_s, gAdd_int, gSub_int, gLt_int, gLe_int, gGt_int, gGe_int, gNeg_int, gEq_int, gNe_int,
 mIfE_s2, mAnd_s2, mOr_s2, mNot_s, mAndV_s2, mOrV_s2, mNotV_s, mChain_s2, mChain3_s, mL_s, m2L_s, mMet_s, mExt_s, mExtO_s, mIsi_s, mSl_s, mPo_n, mPo_s, mCat_s, mCatOL_s, mCatLO_s, mCatOO_s, mLRg1_s, mLRg2_s, mTRg1_s, mTRg2_s, mRep_s, sAsgL_s, sPar3_s, sAug_s, sBrk_s, sCnt_s, sRetN_s, tYesD_s, mSorted_s, mSortedL_s, mIS_s, mIL_s, mList_s, sAsgM_s, tNm_s, tSub_s, tTp_s, tTps_nil, tTps_cons, mDict0_s, asg_nm, asg_tp, asg_tpT, asgs_nil, asgs_cons, mDef_s,
 List.getElem?_cons_zero, List.getElem?_cons_succ, List.set_cons_zero, List.set_cons_succ, List.length_cons, List.length_nil, List.cons_append, List.nil_append, List.map_cons, List.map_nil, if_true, if_false, reduceIte, reduceCtorEq, Bool.false_eq_true, Bool.true_eq_false, decide_eq_true_eq, decide_true, decide_false, Bool.not_true, Bool.not_false, Nat.reduceAdd, Nat.reduceLeDiff, Nat.reduceLT, Nat.reduceEqDiff, Int.reduceLT, Int.reduceLE, Int.reduceAdd, Int.reduceSub, Int.reduceMul, Int.reduceNeg, isL, onL, gAppend, gPop, Ve.gTup, sizeLine_eq, e3]
  have rw2 : RowsAt (hp1.set 0 o2) 1 (n + 1) n P := rw1.set (by omega) (fun f _ => by omega)
  have hab : ((1 + k, i) : Sd) ≠ (g, j) := fun z => by
    have := congrArg Prod.fst z
    dsimp only at this
    omega
  have han : P (1 + k) i = none := fr _ _ (Nat.le_refl _)
  obtain ⟨hp3, a3, rw3, fr3, hl3⟩ := store_ok rw2 (a := (1 + k, i)) (b := (g, j)) hab (by dsimp only; omega) (by dsimp only; omega) (by omega) hi hj (some (.ref 0)) (some (.int (n : Nat))) none none
  have g3 : hp3[0]? = some o2 := by
    rw [fr3 0 (fun f _ => by omega)]
    exact hset_same g1
  refine ⟨_, hp3, sSeq_of a1 (sSeq_of a2 a3), upJ P (1 + k, i) (g, j), o2, _, _, _, _, rfl, rw3, g3, ?_, ?_, fun f i' hf => ?_, ?_, ?_, ?_⟩
  · exact ho2.mono (by omega)
  · exact pm.up hab (mem_opn.mpr ⟨⟨by dsimp only; omega, hi⟩, han⟩) (mem_opn.mpr ⟨⟨by dsimp only; omega, hj⟩, hno⟩)
  · rw [upJ_o P (p := (f, i')) (fun z => by have := congrArg Prod.fst z; dsimp only at this; omega) (fun z => by have := congrArg Prod.fst z; dsimp only at this; omega)]
    exact fr f i' (by omega)
  · have h1 := opn_succ (P := P) (m := 1 + k) fun i => fr _ _ (Nat.le_refl _)
    have h2 := opn_up (P := P) (m := 1 + k + 1) (a := (1 + k, i)) (b := (g, j)) (mem_opn.mpr ⟨⟨by dsimp only; omega, hi⟩, han⟩) (mem_opn.mpr ⟨⟨by dsimp only; omega, hj⟩, hno⟩) hab
    rw [show 1 + (k + 1) = 1 + k + 1 by omega]
    omega
  · have lk' := lk.up (a := (1 + k, i)) (b := (g, j)) han hno
    intro f h0 hf
    by_cases hc : f < 1 + k
    · exact lk' f h0 hc
    · have : f = 1 + k := by omega
      subst this
      exact ⟨i, (g, j), hi, upJ_a P _ _, hg⟩
  · rw [hl3, List.length_set]
    omega
def Sk2 (T0 n q : Nat) (st : PJ × List Sd) (ls : Ls) (hp : Hd) : Prop := ∃ o v3 v4 v5 v6, ls = [some (.ref 0), some (.int (n : Nat)), some (.ref (n + 1)), v3, v4, v5, v6, some (.ref q), none] ∧ RowsAt hp 1 (n + 1) n st.1 ∧ hp[0]? = some o ∧ hp[q]? = some (.lst ((st.2.map pI).map T)) ∧ Hand (T0 + 2 * n + (2 * n + 2 - st.2.length)) o ∧ PM n st.1 ∧ Lnk n st.1 ∧ st.2.Nodup ∧ (∀ p, p ∈ st.2 ↔ p ∈ opn st.1 n) ∧ st.2.length % 2 = 0 ∧ st.2.length ≤ 2 * n + 2
theorem skin_step2 (T0 : Nat) (hT : T0 + 1000 < 1000000) {n q : Nat} (hn : n ≤ 100) (hq : n + 1 < q) {st : PJ × List Sd} {ls : Ls} {hp : Hd} (h : Sk2 T0 n q st ls hp) (hne : st.2 ≠ []) : ∃ st2 ls2 hp2, B2_L_skin ls hp = some (.nx, ls2, hp2) ∧ Sk2 T0 n q st2 ls2 hp2 ∧ st2.2.length < st.2.length := by
  obtain ⟨P, L⟩ := st
  obtain ⟨o, v3, v4, v5, v6, rfl, rw_, g0, gq, ho, pm, lk, nd, mem, ev_, le⟩ := h
  dsimp only at *
  cases L with
  | nil => exact absurd rfl hne
  | cons a r =>
    obtain ⟨hao, han⟩ := mem_opn.mp ((mem a).mp List.mem_cons_self)
    obtain ⟨nda, ndr⟩ := List.nodup_cons.mp nd
    have hr : r ≠ [] := fun z => by
      rw [z] at ev_
      simp at ev_
    have hr0 := List.length_pos_iff.mpr hr
    have e1 : gPopAt (.ref q) [.int ((0 : Nat) : Int)] hp = some (T (pI a), hp.set q (.lst ((r.map pI).map T))) := gPopAt_of gq rfl (by omega)
    have g1 : (hp.set q (.lst ((r.map pI).map T)))[q]? = some (.lst ((r.map pI).map T)) := hset_same gq
    have g01 : (hp.set q (.lst ((r.map pI).map T)))[0]? = some o := hset_ne (by omega) g0
    have rw1 : RowsAt (hp.set q (.lst ((r.map pI).map T))) 1 (n + 1) n P := rw_.set (by omega) (fun f hf => by omega)
    have il0 := isL_of gq
    generalize hp.set q (.lst ((r.map pI).map T)) = hp1 at e1 g1 g01 rw1
    have il1 := isL_of g1
    have e2 : gLen [.ref q] hp1 = some (.int (r.length : Nat), hp1) := by
      rw [gLen_lst g1, List.length_map, List.length_map]
    obtain ⟨x, o2, e3, x1, x2, ho2⟩ := take_ok _ (by omega) hp1 0 o g01 ho (r.length : Int) (by omega) (by rw [List.length_cons] at le; omega)
    obtain ⟨k, rfl⟩ := Int.eq_ofNat_of_zero_le x1
    have hk : k < r.length := by omega
    have g2 : (hp1.set 0 o2)[q]? = some (.lst ((r.map pI).map T)) := hset_ne (by omega) g1
    have g02 : (hp1.set 0 o2)[0]? = some o2 := hset_same g01
    have rw2 : RowsAt (hp1.set 0 o2) 1 (n + 1) n P := rw1.set (by omega) (fun f hf => by omega)
    generalize hp1.set 0 o2 = hp2 at e3 g2 g02 rw2
    obtain ⟨b, hb⟩ : ∃ b, r[k] = b := ⟨_, rfl⟩
    have hbr : b ∈ r := hb ▸ List.getElem_mem hk
    have e4 : gPopAt (.ref q) [.int (k : Nat)] hp2 = some (T (pI b), hp2.set q (.lst (((r.eraseIdx k).map pI).map T))) := by
      rw [gPopAt_of g2 (y := T (pI b)) (by rw [List.getElem?_map, List.getElem?_map, List.getElem?_eq_getElem hk, hb]; rfl) (by rw [List.length_cons] at le; omega), eraseIdx_map', eraseIdx_map']
    have g3 : (hp2.set q (.lst (((r.eraseIdx k).map pI).map T)))[q]? = some (.lst (((r.eraseIdx k).map pI).map T)) := hset_same g2
    have g03 : (hp2.set q (.lst (((r.eraseIdx k).map pI).map T)))[0]? = some o2 := hset_ne (by omega) g02
    have rw3 : RowsAt (hp2.set q (.lst (((r.eraseIdx k).map pI).map T))) 1 (n + 1) n P := rw2.set (by omega) (fun f hf => by omega)
    generalize hp2.set q (.lst (((r.eraseIdx k).map pI).map T)) = hp3 at e4 g3 g03 rw3
    obtain ⟨hbo, hbn⟩ := mem_opn.mp ((mem b).mp (List.mem_cons_of_mem _ hbr))
    have hab : a ≠ b := fun z => nda (by rw [z]; exact hbr)
    obtain ⟨hp4, e5, rw4, fr4, hl4⟩ := store_ok rw3 hab hao.1 hbo.1 (by omega) hao.2 hbo.2 (some (.ref 0)) (some (.int (n : Nat))) (some (.ref q)) none
    have hperm := cons_eraseIdx_perm r k hk
    rw [hb] at hperm
    have ndp : (b :: r.eraseIdx k).Nodup := hperm.nodup_iff.mpr ndr
    have hlen : (r.eraseIdx k).length + 1 = r.length := by
      rw [List.length_eraseIdx_of_lt hk]
      omega
    rw [List.length_cons] at ho2 le ev_
    have a1 : sAsg (.tp ((.nm 3) :: ((.nm 6) :: []))) (mMet isL (mVar 7) (mCons (mC (.int 0)) mNil) gPopAt) [some (.ref 0), some (.int (n : Nat)), some (.ref (n + 1)), v3, v4, v5, v6, some (.ref q), none] hp = some (.nx, [some (.ref 0), some (.int (n : Nat)), some (.ref (n + 1)), some (.int (a.1 : Nat)), v4, v5, some (.int (a.2 : Nat)), some (.ref q), none], hp1) := by
      refine asg_of (met_of (mVar_of rfl) il0 (cons_of rfl rfl) e1) ?_
      rw [asg_tpT]
      rfl
    have a2 : sAsg (.tp ((.nm 4) :: ((.nm 5) :: []))) (mMet isL (mVar 7) (mCons (mAs (mCons (mVar 0) (mCons (mAs (mCons (mVar 7) mNil) gLen) mNil)) (ar 2 c_L_take)) mNil) gPopAt) [some (.ref 0), some (.int (n : Nat)), some (.ref (n + 1)), some (.int (a.1 : Nat)), v4, v5, some (.int (a.2 : Nat)), some (.ref q), none] hp1 = some (.nx, [some (.ref 0), some (.int (n : Nat)), some (.ref (n + 1)), some (.int (a.1 : Nat)), some (.int (b.1 : Nat)), some (.int (b.2 : Nat)), some (.int (a.2 : Nat)), some (.ref q), none], hp3) := by
      refine asg_of (met_of (mVar_of rfl) il1 (cons_of (call_of (cons_of (mVar_of rfl) (cons_of (as_of (cons_of (mVar_of rfl) rfl) e2) rfl)) rfl e3) rfl) e4) ?_
      rw [asg_tpT]
      rfl
    refine ⟨(upJ P a b, r.eraseIdx k), _, hp4, sSeq_of a1 (sSeq_of a2 e5), ⟨o2, _, _, _, _, rfl, rw4, ?_, ?_, ?_, pm.up hab ((mem a).mp List.mem_cons_self) ((mem b).mp (List.mem_cons_of_mem _ hbr)), lk.up han hbn, (List.nodup_cons.mp ndp).2, fun p => ?_, ?_, ?_⟩, ?_⟩
    · rw [fr4 0 (fun f _ => by omega)]
      exact g03
    · rw [fr4 q (fun f _ => by omega)]
      exact g3
    · exact ho2.mono (by dsimp only; omega)
    · dsimp only
      have hm2 : p ∈ r ↔ p = b ∨ p ∈ r.eraseIdx k := by rw [← hperm.mem_iff, List.mem_cons]
      constructor
      · intro hp
        have hpr := hm2.mpr (.inr hp)
        have h1 : p ≠ a := fun z => nda (z ▸ hpr)
        have h2 : p ≠ b := fun z => (List.nodup_cons.mp ndp).1 (z ▸ hp)
        obtain ⟨q1, q2⟩ := mem_opn.mp ((mem p).mp (List.mem_cons_of_mem _ hpr))
        exact mem_opn.mpr ⟨q1, by rw [upJ_o P h1 h2]; exact q2⟩
      · intro hp
        obtain ⟨q1, q2⟩ := mem_opn.mp hp
        have h1 : p ≠ a := fun z => by rw [z, upJ_a] at q2; cases q2
        have h2 : p ≠ b := fun z => by rw [z, upJ_b P hab] at q2; cases q2
        rw [upJ_o P h1 h2] at q2
        have := (mem p).mpr (mem_opn.mpr ⟨q1, q2⟩)
        rcases List.mem_cons.mp this with z | z
        · exact absurd z h1
        · exact (hm2.mp z).resolve_left h2
    · dsimp only
      omega
    · dsimp only
      omega
    · dsimp only
      rw [List.length_cons]
      omega
theorem skin_run (T0 : Nat) (hT : T0 + 1000 < 1000000) (o : O) (ho : Hand T0 o) (n : Nat) (h1 : 1 ≤ n) (hn : n ≤ 100) : ∃ J o' g, m_L_skin [.ref 0, .int (n : Nat)] [o] = some (skD n J, o' :: g) ∧ Skin n J ∧ Hand (T0 + 5 * n + 5) o' := by
  obtain ⟨out, hp1, ec, ⟨rfl, rfl⟩⟩ := mLc_pre (fi := mR1 (mCons (mVar 1) mNil)) (t := .nm 3) (own := [3]) (te := E1_L_skin) (gd := []) (items := List.range n) (hp := [o]) (hp1 := [o])
    (ls := [some (.ref 0), some (.int (n : Nat)), none, none, none, none, none, none, none]) (fun i : Nat => D.int (i : Nat))
    (fun d out hp => out = d.map (fun f => D.ref (1 + f)) ∧ hp = o :: d.map fun f => O.lst (prow (fun _ _ => none) f)) (mR1_nat (j := n) rfl (by omega)) (by rw [List.length_range, sizeLine_eq]; omega) (fun _ _ _ _ => rfl) ⟨rfl, rfl⟩ (by
      rintro d x r out hp ed ⟨rfl, rfl⟩
      obtain ⟨rfl, hd⟩ := range_at ed
      refine ⟨_, .ref (1 + d.length), _, asg_nm, ?_, by rw [List.map_append]; rfl, rfl⟩
      simp only [List.set_cons_zero, List.set_cons_succ, wipeL, e1_skin]
      simp [Nat.add_comm, none_row])
  generalize eH : (o :: (List.range n).map fun f => O.lst (prow (fun _ _ => none) f)) = H at ec
  have hl : H.length = n + 1 := by rw [← eH]; simp
  have r0 : RowsAt (H ++ [.lst ((List.range n).map fun f => D.ref (1 + f))]) 1 (n + 1) n (fun _ _ => none) := by
    refine ⟨by rw [← hl]; exact hget_new, fun f hf => hget_old ?_⟩
    rw [← eH, Nat.add_comm, List.getElem?_cons_succ, List.getElem?_map, List.getElem?_range hf]
    rfl
  have g0 : (H ++ [.lst ((List.range n).map fun f => D.ref (1 + f))])[0]? = some o := hget_old (by rw [← eH]; rfl)
  have ec' : C1_L_skin [some (.ref 0), some (.int (n : Nat)), none, none, none, none, none, none, none] [o] = some (_, H) := ec
  have lH0 : (H ++ [O.lst ((List.range n).map fun f => D.ref (1 + f))]).length = n + 2 := by rw [List.length_append, hl]; rfl
  have s0 := sSet_of (i := 2) (mNew_of ec')
  rw [hl] at s0
  generalize H ++ [.lst ((List.range n).map fun f => D.ref (1 + f))] = H0 at r0 g0 lH0 s0
  obtain ⟨ls2, H2, e2, h2⟩ := sForI_pre (fi := mR2 (mCons (mC (.int 1)) (mCons (mVar 1) mNil))) (t := .nm 3) (b := B1_L_skin) (gd := []) (items := List.range (n - 1)) (hp := H0) (hp1 := H0)
    (ls := [some (.ref 0), some (.int (n : Nat)), some (.ref (n + 1)), none, none, none, none, none, none]) (fun k : Nat => D.int ((1 + k : Nat) : Int)) (fun d ls hp => Sk1 T0 n d.length ls hp)
    (mR2_nat (i := 1) (j := n) rfl (by omega)) (fun _ _ _ _ => rfl) ⟨fun _ _ => none, o, _, _, _, _, rfl, r0, g0, ho, (fun f i p _ _ e => nomatch e), (fun _ _ _ => rfl), (by decide), (fun f h0 hf => by simp at hf; omega), (by omega)⟩ (by
      rintro d x r ls hp ed h
      obtain ⟨rfl, hd⟩ := range_at ed
      obtain ⟨ls2, hp2, e, h2⟩ := skin_step1 T0 hT hn hd h
      exact ⟨_, _, _, asg_nm, .inl e, by rw [List.length_append]; exact h2⟩)
  rw [List.length_range] at h2
  obtain ⟨P, o2, v3, v4, v5, v6, rfl, r2, g2, ho2, pm2, _, len2, lk2, l2⟩ := h2
  rw [show 1 + (n - 1) = n by omega] at len2 lk2
  have e3 := left_ok r2 hn
  have s3 := sSet_of (i := 7) (call_of (fr := mCons (mVar 2) mNil) (k := 1) (g := c_L_left) (ls := [some (.ref 0), some (.int (n : Nat)), some (.ref (n + 1)), v3, v4, v5, v6, none, none]) (cons_of (mVar_of rfl) rfl) rfl e3)
  obtain ⟨⟨P', L'⟩, ls4, H4, e4, h4, d4⟩ := sWhile_rel (S := PJ × List Sd) (c := mT (m2L (mVar 7) (mLst mNil) (gEqL true))) (b := B2_L_skin) (Sk2 T0 n H2.length) (fun st => st.2 = []) (fun st => st.2.length) (fun st ls hp h => by
    have h' := h
    obtain ⟨o, v3, v4, v5, v6, rfl, rw_, g0, gq, ho, pm, lk, nd, mem, ev_, le⟩ := h
    have ct := eT.gEqL_nil (by decide) gq true
    have cc : mT (m2L (mVar 7) (mLst mNil) (gEqL true)) [some (.ref 0), some (.int (n : Nat)), some (.ref (n + 1)), v3, v4, v5, v6, some (.ref H2.length), none] hp = some (!(st.2.map pI).isEmpty, hp) := by
      rw [mT_s, m2L_s, mVar_of (d := .ref H2.length) rfl]
      dsimp only
      rw [lst_of nil_of (Nat.zero_le _)]
      dsimp only
      rw [ct]
      rfl
    by_cases hz : st.2 = []
    · refine .inl ⟨?_, hz⟩
      rw [cc, hz]
      rfl
    · refine .inr ⟨?_, ?_⟩
      · rw [cc]
        cases hh : st.2 with
        | nil => exact absurd hh hz
        | cons _ _ => rfl
      · obtain ⟨st2, ls2, hp2, a, b, c⟩ := skin_step2 T0 hT hn (by omega) h' hz
        exact ⟨st2, ls2, hp2, .inl a, b, c⟩) 1000000 (P, opn P n) [some (.ref 0), some (.int (n : Nat)), some (.ref (n + 1)), v3, v4, v5, v6, some (.ref H2.length), none] (H2 ++ [O.lst ((opn P n).map fun p => T (pI p))])
    (by dsimp only; omega) ⟨o2, _, _, _, _, rfl, r2.old, hget_old g2, by rw [List.map_map]; exact hget_new, ho2.mono (by omega), pm2, lk2, opn_nodup P n, fun p => Iff.rfl, by dsimp only; omega, by dsimp only; omega⟩
  obtain ⟨o4, w3, w4, w5, w6, rfl, r4, g4, gq4, ho4, pm4, lk4, nd4, mem4, _, _⟩ := h4
  dsimp only at d4 r4 pm4 lk4 mem4 ho4
  subst d4
  have op4 : opn P' n = [] := by
    cases hh : opn P' n with
    | nil => rfl
    | cons x l =>
      have := (mem4 x).mpr (by rw [hh]; exact List.mem_cons_self)
      cases this
  have sk := skin_of h1 pm4 lk4 op4
  have full : ∀ f i, f < n → i < 4 → P' f i = some (endJ P' f i) := fun f i hf hi => by
    cases e : P' f i with
    | none =>
      have : (f, i) ∈ opn P' n := mem_opn.mpr ⟨⟨hf, hi⟩, e⟩
      rw [op4] at this
      cases this
    | some p => simp [endJ, e]
  have e5 := mLc_typed (fi := mIS (mVar 2)) (t := .nm 8) (own := [8]) (tt := tYesD) (te := E2_L_skin) (ls := [some (.ref 0), some (.int (n : Nat)), some (.ref (n + 1)), w3, w4, w5, w6, some (.ref H2.length), none]) (fun f : Nat => D.ref (1 + f)) (List.range n) (fun _ => true) (fun f => TT (rowI (endJ P') f))
    (mIS_ref (fa := mVar 2) (mVar_of rfl) r4.lst) (by rw [List.length_range, sizeLine_eq]; omega) (gdOk1 r4.lst) (fun f hf => by
      have hf := List.mem_range.mp hf
      refine ⟨_, asg_nm, rfl, fun _ => ?_⟩
      have e : gTupV [.ref (1 + f)] H4 = some (.tup (prow P' f), H4) := by
        show (match seqOfL (.ref (1 + f)) H4 with
          | some ds => some (D.tup ds, H4)
          | none => none) = _
        rw [show seqOfL (.ref (1 + f)) H4 = some (prow P' f) from lstOf_ref (r4.row f hf)]
      have e2 : D.tup (prow P' f) = TT (rowI (endJ P') f) := by
        rw [rowI_tup]
        have h : (List.range 4).map (fun i => oD (P' f i)) = (List.range 4).map (fun i => oD (some (endJ P' f i))) := List.map_congr_left fun i hi => congrArg oD (full f i hf (List.mem_range.mp hi))
        unfold prow
        rw [h]
        rfl
      rw [e2] at e
      exact as_of (cons_of (mVar_of rfl) rfl) e)
  rw [List.filter_eq_self.mpr (fun _ _ => rfl)] at e5
  have e5' : mL C2_L_skin gTup [some (.ref 0), some (.int (n : Nat)), some (.ref (n + 1)), w3, w4, w5, w6, some (.ref H2.length), none] H4 = some (skD n (endJ P'), H4) := by
    rw [skD_tup]
    exact (mL_of e5).trans rfl
  have e4' : W2_L_skin 1000000 [some (.ref 0), some (.int (n : Nat)), some (.ref (n + 1)), v3, v4, v5, v6, some (.ref H2.length), none] (H2 ++ [O.lst ((opn P n).map fun p => T (pI p))]) = _ := e4
  have e2' : F1_L_skin [some (.ref 0), some (.int (n : Nat)), some (.ref (n + 1)), none, none, none, none, none, none] H0 = _ := e2
  cases H4 with
  | nil => cases g4
  | cons o' g =>
    cases g4
    exact ⟨endJ P', _, g, def_of (sSeq_of s0 (sSeq_of e2' (sSeq_of s3 (sSeq_of e4' (ret_of e5'))))), sk, ho4.mono (by dsimp only [List.length_nil]; omega)⟩
def c_L_skin := c1V m_L_skin
theorem con_L_skin : Cl c_L_skin m_L_skin := cl_c1V _
theorem skin_ok (T0 : Nat) (hT : T0 + 1000 < 1000000) (hp : Hd) (k : Nat) (o : O) (e : hp[k]? = some o) (ho : Hand T0 o) (n : Nat) (h1 : 1 ≤ n) (hn : n ≤ 100) : ∃ J o', c_L_skin [.ref k, .int (n : Nat)] hp = some (skD n J, hp.set k o') ∧ Skin n J ∧ Hand (T0 + 5 * n + 5) o' := by
  obtain ⟨J, o', g, em, sk, ho'⟩ := skin_run T0 hT o ho n h1 hn
  exact ⟨J, o', c1V_of e rfl ho.nr em (nr_sk n J) ho'.nr, sk, ho'⟩
end Lw
namespace Lw
open PySem PySem.Spec L2 Ve
def swp (a b x : Nat) : Nat := if x = a then b else if x = b then a else x
def Cyc (p : Nat → Nat) : List Nat → Prop
  | [] => False
  | a :: r => (a :: r).map p = r ++ [a]
structure Sys (N : Nat) (p : Nat → Nat) (C : List (List Nat)) : Prop where
  cyc : ∀ l ∈ C, Cyc p l
  all : C.flatten.Perm (List.range N)
theorem swp_o {a b x : Nat} (h1 : x ≠ a) (h2 : x ≠ b) : swp a b x = x := by
  unfold swp
  rw [if_neg h1, if_neg h2]
theorem swp_a (a b : Nat) : swp a b a = b := if_pos rfl
theorem swp_b (a b : Nat) : swp a b b = a := by
  unfold swp
  by_cases h : b = a
  · rw [if_pos h, h]
  · rw [if_neg h, if_pos rfl]
theorem map_swp {a b : Nat} {l : List Nat} (h1 : a ∉ l) (h2 : b ∉ l) : l.map (swp a b) = l := by
  conv => rhs; rw [← List.map_id l]
  exact List.map_congr_left fun x hx => swp_o (fun e => h1 (e ▸ hx)) (fun e => h2 (e ▸ hx))
theorem Cyc.rot {p : Nat → Nat} {a : Nat} {xs ys : List Nat} (h : Cyc p (xs ++ a :: ys)) : Cyc p (a :: ys ++ xs) := by
  cases xs with
  | nil => rw [List.append_nil]; exact h
  | cons x xs =>
    have h : (x :: (xs ++ a :: ys)).map p = (xs ++ a :: ys) ++ [x] := h
    have e : (x :: xs).map p ++ (a :: ys).map p = (xs ++ [a]) ++ (ys ++ [x]) := by
      rw [← List.map_append]
      refine Eq.trans h ?_
      simp
    obtain ⟨e1, e2⟩ := List.append_inj e (by simp)
    show (a :: (ys ++ x :: xs)).map p = (ys ++ x :: xs) ++ [a]
    rw [← List.cons_append, List.map_append, e1, e2]
    simp
theorem Cyc.split {p : Nat → Nat} {a b : Nat} {xs ys : List Nat} (h : Cyc p (a :: xs ++ b :: ys)) (nd : (a :: xs ++ b :: ys).Nodup) : Cyc (fun x => swp a b (p x)) (a :: xs) ∧ Cyc (fun x => swp a b (p x)) (b :: ys) := by
  obtain ⟨n1, n2, n3⟩ := List.nodup_append.mp nd
  have h : (a :: (xs ++ b :: ys)).map p = (xs ++ b :: ys) ++ [a] := h
  have e : (a :: xs).map p ++ (b :: ys).map p = (xs ++ [b]) ++ (ys ++ [a]) := by
    rw [← List.map_append]
    refine Eq.trans h ?_
    simp
  obtain ⟨e1, e2⟩ := List.append_inj e (by simp)
  obtain ⟨ax, _⟩ := List.nodup_cons.mp n1
  obtain ⟨by_, _⟩ := List.nodup_cons.mp n2
  have bx : b ∉ xs := fun z => n3 b (by simp [z]) b (by simp) rfl
  have ay : a ∉ ys := fun z => n3 a (by simp) a (by simp [z]) rfl
  have q : ∀ l : List Nat, l.map (fun x => swp a b (p x)) = (l.map p).map (swp a b) := fun l => by rw [List.map_map]; rfl
  constructor
  · show (a :: xs).map (fun x => swp a b (p x)) = xs ++ [a]
    rw [q, e1, List.map_append, map_swp ax bx, List.map_singleton, swp_b]
  · show (b :: ys).map (fun x => swp a b (p x)) = ys ++ [b]
    rw [q, e2, List.map_append, map_swp ay by_, List.map_singleton, swp_a]
theorem Cyc.merge {p : Nat → Nat} {a b : Nat} {xs ys : List Nat} (h1 : Cyc p (a :: xs)) (h2 : Cyc p (b :: ys)) (nd : (a :: xs ++ b :: ys).Nodup) : Cyc (fun x => swp a b (p x)) (a :: xs ++ b :: ys) := by
  obtain ⟨n1, n2, n3⟩ := List.nodup_append.mp nd
  obtain ⟨ax, _⟩ := List.nodup_cons.mp n1
  obtain ⟨by_, _⟩ := List.nodup_cons.mp n2
  have bx : b ∉ xs := fun z => n3 b (by simp [z]) b (by simp) rfl
  have ay : a ∉ ys := fun z => n3 a (by simp) a (by simp [z]) rfl
  have h1 : (a :: xs).map p = xs ++ [a] := h1
  have h2 : (b :: ys).map p = ys ++ [b] := h2
  have q : ∀ l : List Nat, l.map (fun x => swp a b (p x)) = (l.map p).map (swp a b) := fun l => by rw [List.map_map]; rfl
  show (a :: (xs ++ b :: ys)).map (fun x => swp a b (p x)) = (xs ++ b :: ys) ++ [a]
  rw [← List.cons_append, List.map_append, q, q, h1, h2, List.map_append, List.map_append, map_swp ax bx, map_swp ay by_, List.map_singleton, List.map_singleton, swp_a, swp_b]
  simp
theorem Cyc.same {p : Nat → Nat} {a b : Nat} {l : List Nat} (h : Cyc p l) (h1 : a ∉ l) (h2 : b ∉ l) : Cyc (fun x => swp a b (p x)) l := by
  cases l with
  | nil => exact h
  | cons c r =>
    have h : (c :: r).map p = r ++ [c] := h
    show (c :: r).map (fun x => swp a b (p x)) = r ++ [c]
    have q : (c :: r).map (fun x => swp a b (p x)) = ((c :: r).map p).map (swp a b) := by rw [List.map_map]; rfl
    rw [q, h]
    refine map_swp (fun z => h1 ?_) (fun z => h2 ?_)
    · simpa [or_comm] using z
    · simpa [or_comm] using z
theorem flatten_perm {α : Type} {C D : List (List α)} (h : C.Perm D) : C.flatten.Perm D.flatten := by
  induction h with
  | nil => exact List.Perm.refl _
  | cons x _ ih => rw [List.flatten_cons, List.flatten_cons]; exact ih.append_left x
  | swap x y l =>
    rw [List.flatten_cons, List.flatten_cons, List.flatten_cons, List.flatten_cons, ← List.append_assoc, ← List.append_assoc]
    exact List.perm_append_comm.append_right _
  | trans _ _ ih1 ih2 => exact ih1.trans ih2
theorem Sys.perm {N : Nat} {p : Nat → Nat} {C D : List (List Nat)} (h : Sys N p C) (q : C.Perm D) : Sys N p D := ⟨fun l hl => h.cyc l (q.mem_iff.mpr hl), (flatten_perm q).symm.trans h.all⟩
theorem Sys.turn {N : Nat} {p : Nat → Nat} {l l' : List Nat} {D : List (List Nat)} (h : Sys N p (l :: D)) (q : l.Perm l') (c : Cyc p l') : Sys N p (l' :: D) := by
  refine ⟨fun x hx => ?_, ?_⟩
  · rcases List.mem_cons.mp hx with z | z
    · rw [z]; exact c
    · exact h.cyc x (List.mem_cons_of_mem _ z)
  · have := h.all
    rw [List.flatten_cons] at this ⊢
    exact (q.symm.append_right _).trans this
theorem Sys.nd {N : Nat} {p : Nat → Nat} {C : List (List Nat)} (h : Sys N p C) : C.flatten.Nodup := h.all.nodup_iff.mpr List.nodup_range
theorem Sys.find {p : Nat → Nat} {C : List (List Nat)} (h : ∀ l ∈ C, Cyc p l) {a : Nat} (ha : a ∈ C.flatten) : ∃ l xs D, C.Perm (l :: D) ∧ l.Perm (a :: xs) ∧ Cyc p (a :: xs) := by
  obtain ⟨l, hl, hal⟩ := List.mem_flatten.mp ha
  obtain ⟨s, t, rfl⟩ := List.append_of_mem hl
  obtain ⟨u, v, rfl⟩ := List.append_of_mem hal
  refine ⟨u ++ a :: v, v ++ u, s ++ t, List.perm_middle, ?_, ?_⟩
  · have := List.perm_append_comm (l₁ := u) (l₂ := a :: v)
    rw [List.cons_append] at this
    exact this
  · have := (h _ hl).rot
    rw [List.cons_append] at this
    exact this
theorem Sys.step {N : Nat} {p : Nat → Nat} {C : List (List Nat)} (h : Sys N p C) {a b : Nat} (ha : a < N) (hb : b < N) (hne : a ≠ b) : ∃ D, Sys N (fun x => swp a b (p x)) D ∧ ((D.length = C.length + 1 ∧ ∃ l ∈ C, a ∈ l ∧ b ∈ l) ∨ (D.length + 1 = C.length ∧ ¬ ∃ l ∈ C, a ∈ l ∧ b ∈ l)) := by
  obtain ⟨l, xs, D, pm, pl, cy⟩ := Sys.find h.cyc (h.all.mem_iff.mpr (List.mem_range.mpr ha))
  have h1 := (h.perm pm).turn pl cy
  have nd := h1.nd
  rw [List.flatten_cons] at nd
  obtain ⟨n1, n2, n3⟩ := List.nodup_append.mp nd
  have lC := pm.length_eq
  rw [List.length_cons] at lC
  have nin : ∀ x ∈ a :: xs, ∀ m ∈ D, x ∉ m := fun x hx m hm z => n3 x hx x (List.mem_flatten.mpr ⟨m, hm, z⟩) rfl
  have lin : l ∈ C := pm.mem_iff.mpr List.mem_cons_self
  by_cases hbx : b ∈ xs
  · obtain ⟨us, vs, rfl⟩ := List.append_of_mem hbx
    obtain ⟨c1, c2⟩ := Cyc.split (a := a) (b := b) (xs := us) (ys := vs) cy n1
    refine ⟨(a :: us) :: (b :: vs) :: D, ⟨fun m hm => ?_, ?_⟩, .inl ⟨by rw [List.length_cons, List.length_cons]; omega, l, lin, pl.mem_iff.mpr List.mem_cons_self, pl.mem_iff.mpr (by simp)⟩⟩
    · rcases List.mem_cons.mp hm with z | z
      · rw [z]; exact c1
      · rcases List.mem_cons.mp z with z | z
        · rw [z]; exact c2
        · exact (h1.cyc m (List.mem_cons_of_mem _ z)).same (nin a (by simp) m z) (nin b (by simp) m z)
    · have := h1.all
      rw [List.flatten_cons] at this
      rw [List.flatten_cons, List.flatten_cons, ← List.append_assoc]
      exact this
  · have hbD : b ∈ D.flatten := by
      have := h1.all.mem_iff.mpr (List.mem_range.mpr hb)
      rw [List.flatten_cons] at this
      rcases List.mem_append.mp this with z | z
      · rcases List.mem_cons.mp z with z | z
        · exact absurd z.symm hne
        · exact absurd z hbx
      · exact z
    obtain ⟨l2, ys, D', pm2, pl2, cy2⟩ := Sys.find (fun m hm => h1.cyc m (List.mem_cons_of_mem _ hm)) hbD
    have q1 : ((a :: xs) :: D).Perm (l2 :: (a :: xs) :: D') := (pm2.cons (a :: xs)).trans (List.Perm.swap _ _ _)
    have h2 := (h1.perm q1).turn pl2 cy2
    have h3 := h2.perm (List.Perm.swap _ _ _)
    have nd3 := h3.nd
    rw [List.flatten_cons, List.flatten_cons, ← List.append_assoc] at nd3
    obtain ⟨m1, m2, m3⟩ := List.nodup_append.mp nd3
    have nin2 : ∀ x ∈ a :: xs ++ b :: ys, ∀ m ∈ D', x ∉ m := fun x hx m hm z => m3 x hx x (List.mem_flatten.mpr ⟨m, hm, z⟩) rfl
    have lD := pm2.length_eq
    rw [List.length_cons] at lD
    refine ⟨(a :: xs ++ b :: ys) :: D', ⟨fun m hm => ?_, ?_⟩, .inr ⟨by rw [List.length_cons]; omega, ?_⟩⟩
    · rcases List.mem_cons.mp hm with z | z
      · rw [z]
        exact Cyc.merge (h3.cyc _ List.mem_cons_self) cy2 m1
      · exact (h3.cyc m (List.mem_cons_of_mem _ (List.mem_cons_of_mem _ z))).same (nin2 a (by simp) m z) (nin2 b (by simp) m z)
    · have := h3.all
      rw [List.flatten_cons, List.flatten_cons, ← List.append_assoc] at this
      rw [List.flatten_cons]
      exact this
    · rintro ⟨m, hm, am, bm⟩
      rcases List.mem_cons.mp (pm.mem_iff.mp hm) with z | z
      · subst z
        rcases List.mem_cons.mp (pl.mem_iff.mp bm) with z | z
        · exact hne z.symm
        · exact hbx z
      · exact nin a (by simp) m z am
theorem chain_S {p : Nat → Nat} {S : Nat → Prop} (cl : ∀ x, S x → S (p x)) : ∀ (x : Nat) (ys : List Nat) (z : Nat), (x :: ys).map p = ys ++ [z] → S x → ∀ y ∈ ys, S y
  | _, [], _, _, _, y, hy => by cases hy
  | x, w :: ys, z, h, hx, y, hy => by
    rw [List.map_cons, List.cons_append] at h
    injection h with h1 h2
    have hw : S w := by rw [← h1]; exact cl x hx
    rcases List.mem_cons.mp hy with e | e
    · rw [e]; exact hw
    · exact chain_S cl w ys z h2 hw y e
theorem Cyc.holds {p : Nat → Nat} {S : Nat → Prop} (cl : ∀ x, S x → S (p x)) {l : List Nat} (h : Cyc p l) {x : Nat} (hx : x ∈ l) (sx : S x) : ∀ y ∈ l, S y := fun y hy => by
  obtain ⟨u, v, rfl⟩ := List.append_of_mem hx
  have r := h.rot
  rw [List.cons_append] at r
  have hy2 : y ∈ x :: (v ++ u) := by
    rcases List.mem_append.mp hy with z | z
    · simp [z]
    · rcases List.mem_cons.mp z with z | z
      · simp [z]
      · simp [z]
  rcases List.mem_cons.mp hy2 with e | e
  · rw [e]; exact sx
  · exact chain_S cl x (v ++ u) x r sx y e
theorem Cyc.closed {p : Nat → Nat} {l : List Nat} (h : Cyc p l) : ∀ x, x ∈ l → p x ∈ l := fun x hx => by
  cases l with
  | nil => cases hx
  | cons a r =>
    have h : (a :: r).map p = r ++ [a] := h
    have : p x ∈ (a :: r).map p := List.mem_map_of_mem hx
    rw [h] at this
    simpa [or_comm] using this
theorem Sys.uniq {N : Nat} {p : Nat → Nat} {C : List (List Nat)} (h : Sys N p C) {l m : List Nat} (hl : l ∈ C) (hm : m ∈ C) {x : Nat} (xl : x ∈ l) (xm : x ∈ m) : l = m := by
  obtain ⟨s, t, e⟩ := List.append_of_mem hl
  subst e
  have h1 := (h.perm (D := l :: (s ++ t)) List.perm_middle).nd
  rw [List.flatten_cons] at h1
  obtain ⟨_, _, n3⟩ := List.nodup_append.mp h1
  have hm2 : m ∈ l :: (s ++ t) := by
    rcases List.mem_append.mp hm with z | z
    · simp [z]
    · rcases List.mem_cons.mp z with z | z
      · simp [z]
      · simp [z]
  rcases List.mem_cons.mp hm2 with z | z
  · exact z.symm
  · exact absurd rfl (n3 x xl x (List.mem_flatten.mpr ⟨m, z, xm⟩))
def rndOf (D : List (List Nat)) (x : Nat) : List Nat := (D.find? fun m => decide (x ∈ m)).getD []
theorem rndOf_is {N : Nat} {p : Nat → Nat} {D : List (List Nat)} (g : Sys N p D) {x : Nat} (hx : x < N) : rndOf D x ∈ D ∧ x ∈ rndOf D x := by
  unfold rndOf
  have hxD : x ∈ D.flatten := g.all.mem_iff.mpr (List.mem_range.mpr hx)
  obtain ⟨m, hm, xm⟩ := List.mem_flatten.mp hxD
  cases e : D.find? fun m => decide (x ∈ m) with
  | none =>
    have := List.find?_eq_none.mp e m hm
    simp [xm] at this
  | some m2 =>
    exact ⟨List.mem_of_find?_eq_some e, by simpa using List.find?_some e⟩
theorem Sys.le {N : Nat} {p : Nat → Nat} {C D : List (List Nat)} (h : Sys N p C) (g : Sys N p D) : C.length ≤ D.length := by
  have ne : ∀ l ∈ C, l ≠ [] := fun l hl z => by
    have := h.cyc l hl
    rw [z] at this
    exact this
  have lt : ∀ l ∈ C, ∀ x ∈ l, x < N := fun l hl x hx => List.mem_range.mp (h.all.mem_iff.mp (List.mem_flatten.mpr ⟨l, hl, hx⟩))
  have hd : ∀ l ∈ C, l.headD 0 ∈ l := fun l hl => by
    cases l with
    | nil => exact absurd rfl (ne _ hl)
    | cons a r => exact List.mem_cons_self
  have ndC : C.Nodup := by
    have key : ∀ K : List (List Nat), K.flatten.Nodup → (∀ l ∈ K, l ≠ []) → K.Nodup := by
      intro K
      induction K with
      | nil => intro _ _; exact List.nodup_nil
      | cons l K ih =>
        intro nd ne
        rw [List.flatten_cons] at nd
        obtain ⟨_, n2, n3⟩ := List.nodup_append.mp nd
        refine List.nodup_cons.mpr ⟨fun z => ?_, ih n2 fun m hm => ne m (List.mem_cons_of_mem _ hm)⟩
        cases hl : l with
        | nil => exact ne l List.mem_cons_self hl
        | cons a r =>
          have ha : a ∈ l := by rw [hl]; exact List.mem_cons_self
          exact n3 a ha a (List.mem_flatten.mpr ⟨l, z, ha⟩) rfl
    exact key C h.nd ne
  have inj : (C.map fun l => rndOf D (l.headD 0)).Nodup := by
    unfold List.Nodup
    rw [List.pairwise_map]
    refine ndC.imp_of_mem fun {l m} hl hm hne e => hne ?_
    obtain ⟨r1, r2⟩ := rndOf_is g (lt l hl _ (hd l hl))
    obtain ⟨_, r3⟩ := rndOf_is g (lt m hm _ (hd m hm))
    rw [← e] at r3
    have all := Cyc.holds (S := fun x => x ∈ l) (fun x hx => (h.cyc l hl).closed x hx) (g.cyc _ r1) r2 (hd l hl)
    exact h.uniq hl hm (all _ r3) (hd m hm)
  have := nodup_len inj fun x hx => by
    obtain ⟨l, hl, rfl⟩ := List.mem_map.mp hx
    exact (rndOf_is g (lt l hl _ (hd l hl))).1
  rwa [List.length_map] at this
def nxc (J : Nat → Nat → Sd) (p : Sd) : Sd := J p.1 ((p.2 + 1) % 4)
def itc (J : Nat → Nat → Sd) (p : Sd) : Nat → Sd
  | 0 => p
  | k + 1 => nxc J (itc J p k)
abbrev okP (n : Nat) (p : Sd) : Prop := p.1 < n ∧ p.2 < 4
def Smc (n : Nat) (J : Nat → Nat → Sd) (p q : Sd) : Prop := ∀ Q : Sd → Prop, (∀ z, okP n z → (Q z ↔ Q (nxc J z))) → (Q p ↔ Q q)
section
variable {n : Nat} {J : Nat → Nat → Sd}
theorem nxc_ok (sk : Skin n J) {p : Sd} (h : okP n p) : okP n (nxc J p) := sk.rng _ _ h.1 (Nat.mod_lt _ (by decide))
theorem nxc_inj (sk : Skin n J) {p q : Sd} (hp : okP n p) (hq : okP n q) (e : nxc J p = nxc J q) : p = q := by
  have e1 := sk.inv p.1 ((p.2 + 1) % 4) hp.1 (Nat.mod_lt _ (by decide))
  have e2 := sk.inv q.1 ((q.2 + 1) % 4) hq.1 (Nat.mod_lt _ (by decide))
  unfold nxc at e
  rw [e, e2] at e1
  obtain ⟨h1, h2⟩ := Prod.mk.inj e1
  have := hp.2
  have := hq.2
  exact Prod.ext h1.symm (by omega)
theorem itc_ok (sk : Skin n J) {p : Sd} (h : okP n p) : ∀ k, okP n (itc J p k)
  | 0 => h
  | k + 1 => nxc_ok sk (itc_ok sk h k)
theorem itc_back (sk : Skin n J) {p : Sd} (h : okP n p) (d : Nat) : ∀ i, itc J p (i + d) = itc J p i → itc J p d = p
  | 0, e => by rw [Nat.zero_add] at e; exact e
  | i + 1, e => by
    rw [Nat.add_right_comm] at e
    exact itc_back sk h d i (nxc_inj sk (itc_ok sk h _) (itc_ok sk h _) e)
theorem least_ex {P : Nat → Prop} : ∀ m, (∃ k, k ≤ m ∧ P k) → ∃ k, k ≤ m ∧ P k ∧ ∀ j, j < k → ¬ P j := by
  intro m
  induction m with
  | zero =>
    rintro ⟨k, hk, h⟩
    exact ⟨k, hk, h, fun j hj => by omega⟩
  | succ m ih =>
    rintro ⟨k, hk, h⟩
    rcases Classical.em (∃ k, k ≤ m ∧ P k) with z | z
    · obtain ⟨k', a, b, c⟩ := ih z
      exact ⟨k', by omega, b, c⟩
    · exact ⟨k, hk, h, fun j hj pj => z ⟨j, by omega, pj⟩⟩
theorem map_nodup' {α β : Type} {h : α → β} {S : List α} (nd : S.Nodup) (inj : ∀ a ∈ S, ∀ b ∈ S, h a = h b → a = b) : (S.map h).Nodup := List.pairwise_map.mpr (nd.imp_of_mem fun ha hb ne e => ne (inj _ ha _ hb e))
theorem per_ex (sk : Skin n J) {p : Sd} (h : okP n p) : ∃ k, 0 < k ∧ k ≤ 4 * n ∧ itc J p k = p ∧ ∀ j, 0 < j → j < k → itc J p j ≠ p := by
  have ex : ∃ k, k ≤ 4 * n ∧ 0 < k ∧ itc J p k = p := by
    rcases Classical.em (∃ k, k ≤ 4 * n ∧ 0 < k ∧ itc J p k = p) with z | z
    · exact z
    · have key : ∀ a b, a < b → b < 4 * n + 1 → itc J p a ≠ itc J p b := fun a b hab hb e => by
        refine z ⟨b - a, by omega, by omega, itc_back sk h (b - a) a ?_⟩
        rw [show a + (b - a) = b by omega, e]
      have nd : ((List.range (4 * n + 1)).map (itc J p)).Nodup := map_nodup' List.nodup_range fun a ha b hb e => by
        have ha := List.mem_range.mp ha
        have hb := List.mem_range.mp hb
        rcases Nat.lt_trichotomy a b with l | l | l
        · exact absurd e (key a b l hb)
        · exact l
        · exact absurd e.symm (key b a l ha)
      have := nodup_len (m := sds n) nd fun a ha => by
        obtain ⟨k, _, rfl⟩ := List.mem_map.mp ha
        exact mem_sds.mpr (itc_ok sk h k)
      rw [List.length_map, List.length_range, sds_length] at this
      omega
  obtain ⟨k, a, ⟨b, c⟩, d⟩ := least_ex (P := fun k => 0 < k ∧ itc J p k = p) (4 * n) ex
  exact ⟨k, b, a, c, fun j j0 jk e => d j jk ⟨j0, e⟩⟩
structure Cy (n : Nat) (J : Nat → Nat → Sd) (C : List Sd) : Prop where
  ne : C ≠ []
  nd : C.Nodup
  ok : ∀ p ∈ C, okP n p
  cl : ∀ p ∈ C, nxc J p ∈ C
  bk : ∀ p, okP n p → nxc J p ∈ C → p ∈ C
  one : ∀ p ∈ C, ∀ q ∈ C, Smc n J p q
theorem Smc.refl (p : Sd) : Smc n J p p := fun _ _ => Iff.rfl
theorem Smc.symm {p q : Sd} (h : Smc n J p q) : Smc n J q p := fun Q c => (h Q c).symm
theorem Smc.trans {p q r : Sd} (h : Smc n J p q) (h2 : Smc n J q r) : Smc n J p r := fun Q c => (h Q c).trans (h2 Q c)
theorem Cy.inv {C : List Sd} (h : Cy n J C) : ∀ z, okP n z → (z ∈ C ↔ nxc J z ∈ C) := fun z hz => ⟨h.cl z, h.bk z hz⟩
theorem Cy.come {C : List Sd} (h : Cy n J C) {p q : Sd} (hp : p ∈ C) (s : Smc n J p q) : q ∈ C := (s (· ∈ C) h.inv).mp hp
def cyc (J : Nat → Nat → Sd) (p : Sd) (k : Nat) : List Sd := (List.range k).map (itc J p)
theorem cyc_cy (sk : Skin n J) {p : Sd} (h : okP n p) {k : Nat} (k0 : 0 < k) (e : itc J p k = p) (mn : ∀ j, 0 < j → j < k → itc J p j ≠ p) : Cy n J (cyc J p k) ∧ p ∈ cyc J p k := by
  have mem : ∀ j, j < k → itc J p j ∈ cyc J p k := fun j hj => List.mem_map.mpr ⟨j, List.mem_range.mpr hj, rfl⟩
  have p0 : p ∈ cyc J p k := mem 0 k0
  have sm : ∀ j, Smc n J p (itc J p j) := fun j => by
    induction j with
    | zero => exact .refl _
    | succ j ih => exact ih.trans fun Q c => c _ (itc_ok sk h j)
  refine ⟨⟨List.ne_nil_of_mem p0, ?_, fun q hq => ?_, fun q hq => ?_, fun q oq hq => ?_, fun a ha b hb => ?_⟩, p0⟩
  · refine map_nodup' List.nodup_range fun a ha b hb e2 => ?_
    have ha := List.mem_range.mp ha
    have hb := List.mem_range.mp hb
    rcases Nat.lt_trichotomy a b with l | l | l
    · exact absurd (itc_back sk h (b - a) a (by rw [show a + (b - a) = b by omega, e2])) (mn _ (by omega) (by omega))
    · exact l
    · exact absurd (itc_back sk h (a - b) b (by rw [show b + (a - b) = a by omega, e2])) (mn _ (by omega) (by omega))
  · obtain ⟨j, _, rfl⟩ := List.mem_map.mp hq
    exact itc_ok sk h j
  · obtain ⟨j, hj, rfl⟩ := List.mem_map.mp hq
    have hj := List.mem_range.mp hj
    by_cases c : j + 1 = k
    · have : nxc J (itc J p j) = p := by
        show itc J p (j + 1) = p
        rw [c, e]
      rw [this]
      exact p0
    · exact mem (j + 1) (by omega)
  · obtain ⟨j, hj, e2⟩ := List.mem_map.mp hq
    have hj := List.mem_range.mp hj
    cases j with
    | zero =>
      have e3 : nxc J q = nxc J (itc J p (k - 1)) := by
        rw [← e2]
        show p = itc J p (k - 1 + 1)
        rw [show k - 1 + 1 = k by omega, e]
      rw [nxc_inj sk oq (itc_ok sk h _) e3]
      exact mem _ (by omega)
    | succ j =>
      rw [nxc_inj sk oq (itc_ok sk h j) e2.symm]
      exact mem _ (by omega)
  · obtain ⟨i, _, rfl⟩ := List.mem_map.mp ha
    obtain ⟨j, _, rfl⟩ := List.mem_map.mp hb
    exact (sm i).symm.trans (sm j)
structure Crs (n : Nat) (J : Nat → Nat → Sd) (Cs : List (List Sd)) : Prop where
  cy : ∀ C ∈ Cs, Cy n J C
  dis : Cs.Pairwise fun C C' => ∀ p ∈ C, p ∉ C'
  cov : ∀ p, okP n p → ∃ C ∈ Cs, p ∈ C
theorem pw_eq {Cs : List (List Sd)} (h : Cs.Pairwise fun C C' => ∀ p ∈ C, p ∉ C') : ∀ C ∈ Cs, ∀ C' ∈ Cs, ∀ p, p ∈ C → p ∈ C' → C = C' := by
  induction Cs with
  | nil => intro C hC; cases hC
  | cons A Cs ih =>
    obtain ⟨h1, h2⟩ := List.pairwise_cons.mp h
    intro C hC C' hC' p hp hp'
    rcases List.mem_cons.mp hC with e | k
    · rcases List.mem_cons.mp hC' with e' | k'
      · rw [e, e']
      · rw [e] at hp
        exact absurd hp' (h1 C' k' p hp)
    · rcases List.mem_cons.mp hC' with e' | k'
      · rw [e'] at hp'
        exact absurd hp (h1 C k p hp')
      · exact ih h2 C k C' k' p hp hp'
theorem Crs.nd {Cs : List (List Sd)} (h : Crs n J Cs) : Cs.Nodup := by
  have key : ∀ Cs : List (List Sd), (∀ C ∈ Cs, C ≠ []) → (Cs.Pairwise fun C C' => ∀ p ∈ C, p ∉ C') → Cs.Nodup := by
    intro Cs
    induction Cs with
    | nil => exact fun _ _ => List.nodup_nil
    | cons A Cs ih =>
      intro hne h
      obtain ⟨h1, h2⟩ := List.pairwise_cons.mp h
      refine List.nodup_cons.mpr ⟨fun hA => ?_, ih (fun C hC => hne C (List.mem_cons_of_mem _ hC)) h2⟩
      have := hne A List.mem_cons_self
      obtain ⟨p, r, e⟩ := List.exists_cons_of_ne_nil this
      have hp : p ∈ A := by rw [e]; exact List.mem_cons_self
      exact h1 A hA p hp hp
  exact key Cs (fun C hC => (h.cy C hC).ne) h.dis
theorem crs_le {n' : Nat} {J' : Nat → Nat → Sd} {Cs Cs' : List (List Sd)} (h : Crs n J Cs) (h' : Crs n' J' Cs') (φ : Sd → Sd) (hφ : ∀ p, okP n p → okP n' (φ p)) (hs : ∀ p q, okP n p → okP n q → Smc n' J' (φ p) (φ q) → Smc n J p q) : Cs.length ≤ Cs'.length := by
  have ex : ∀ C : List Sd, ∃ C' : List Sd, C ∈ Cs → C' ∈ Cs' ∧ φ (C.headD (0, 0)) ∈ C' := fun C => by
    by_cases hC : C ∈ Cs
    · have cy := h.cy C hC
      obtain ⟨p, r, e⟩ := List.exists_cons_of_ne_nil cy.ne
      have hp : C.headD (0, 0) ∈ C := by rw [e]; exact List.mem_cons_self
      obtain ⟨C', a, b⟩ := h'.cov _ (hφ _ (cy.ok _ hp))
      exact ⟨C', fun _ => ⟨a, b⟩⟩
    · exact ⟨[], fun z => absurd z hC⟩
  let pick : List Sd → List Sd := fun C => Classical.choose (ex C)
  have hpick : ∀ C ∈ Cs, pick C ∈ Cs' ∧ φ (C.headD (0, 0)) ∈ pick C := fun C hC => Classical.choose_spec (ex C) hC
  have hd : ∀ C ∈ Cs, C.headD (0, 0) ∈ C := fun C hC => by
    obtain ⟨p, r, e⟩ := List.exists_cons_of_ne_nil (h.cy C hC).ne
    rw [e]
    exact List.mem_cons_self
  have nd : (Cs.map pick).Nodup := map_nodup' h.nd fun A hA B hB e => by
    obtain ⟨a1, a2⟩ := hpick A hA
    obtain ⟨b1, b2⟩ := hpick B hB
    rw [← e] at b2
    have s := (h'.cy _ a1).one _ a2 _ b2
    have s2 := hs _ _ ((h.cy A hA).ok _ (hd A hA)) ((h.cy B hB).ok _ (hd B hB)) s
    have := (h.cy A hA).come (hd A hA) s2
    exact pw_eq h.dis A hA B hB _ this (hd B hB)
  have := nodup_len (m := Cs') nd fun x hx => by
    obtain ⟨C, hC, rfl⟩ := List.mem_map.mp hx
    exact (hpick C hC).1
  rwa [List.length_map] at this
end
end Lw
namespace Lw
open PySem PySem.Spec L2 Ve
def numP (p : Sd) : Nat := 4 * p.1 + p.2
def plc (x : Nat) : Sd := (x / 4, x % 4)
theorem plc_num {p : Sd} (h : p.2 < 4) : plc (numP p) = p := by
  unfold plc numP
  refine Prod.ext ?_ ?_
  · show (4 * p.1 + p.2) / 4 = p.1
    omega
  · show (4 * p.1 + p.2) % 4 = p.2
    omega
theorem num_plc (x : Nat) : numP (plc x) = x := by
  unfold plc numP
  show 4 * (x / 4) + x % 4 = x
  omega
def jnN (J : Nat → Nat → Sd) (x : Nat) : Nat := numP (J (x / 4) (x % 4))
def rnN (x : Nat) : Nat := 4 * (x / 4) + (x % 4 + 1) % 4
def nxN (J : Nat → Nat → Sd) (x : Nat) : Nat := jnN J (rnN x)
theorem rnN_face (x : Nat) : rnN x / 4 = x / 4 := by unfold rnN; omega
theorem rnN_mod (x : Nat) : rnN x % 4 = (x % 4 + 1) % 4 := by unfold rnN; omega
section
variable {n : Nat} {J : Nat → Nat → Sd}
theorem nxN_nxc (J : Nat → Nat → Sd) (x : Nat) : nxN J x = numP (nxc J (plc x)) := by
  unfold nxN jnN nxc plc
  rw [rnN_face, rnN_mod]
theorem jnN_lt (sk : Skin n J) {x : Nat} (h : x < 4 * n) : jnN J x < 4 * n := by
  have := sk.rng (x / 4) (x % 4) (by omega) (Nat.mod_lt _ (by decide))
  unfold jnN numP
  omega
theorem jnN_inv (sk : Skin n J) {x : Nat} (h : x < 4 * n) : jnN J (jnN J x) = x := by
  have r := sk.rng (x / 4) (x % 4) (by omega) (Nat.mod_lt _ (by decide))
  have := sk.inv (x / 4) (x % 4) (by omega) (Nat.mod_lt _ (by decide))
  unfold jnN
  rw [show numP (J (x / 4) (x % 4)) / 4 = (J (x / 4) (x % 4)).1 by unfold numP; omega, show numP (J (x / 4) (x % 4)) % 4 = (J (x / 4) (x % 4)).2 by unfold numP; omega, this]
  unfold numP
  show 4 * (x / 4) + x % 4 = x
  omega
theorem jnN_ne (sk : Skin n J) {x : Nat} (h : x < 4 * n) : jnN J x ≠ x := fun e => by
  have := sk.ne (x / 4) (x % 4) (by omega) (Nat.mod_lt _ (by decide))
  refine this (Prod.ext ?_ ?_)
  · show (J (x / 4) (x % 4)).1 = x / 4
    have r := sk.rng (x / 4) (x % 4) (by omega) (Nat.mod_lt _ (by decide))
    unfold jnN numP at e
    omega
  · show (J (x / 4) (x % 4)).2 = x % 4
    have r := sk.rng (x / 4) (x % 4) (by omega) (Nat.mod_lt _ (by decide))
    unfold jnN numP at e
    omega
theorem rnN_lt {x : Nat} (h : x < 4 * n) : rnN x < 4 * n := by unfold rnN; omega
def prt (J : Nat → Nat → Sd) (D : List Nat) (x : Nat) : Nat := if rnN x ∈ D then jnN J (rnN x) else rnN x
theorem Sys.congr {N : Nat} {p q : Nat → Nat} {C : List (List Nat)} (h : Sys N p C) (e : ∀ x, x < N → p x = q x) : Sys N q C := by
  refine ⟨fun l hl => ?_, h.all⟩
  have c := h.cyc l hl
  have lt : ∀ x ∈ l, x < N := fun x hx => List.mem_range.mp (h.all.mem_iff.mp (List.mem_flatten.mpr ⟨l, hl, hx⟩))
  cases l with
  | nil => exact c
  | cons a r =>
    show (a :: r).map q = r ++ [a]
    rw [← show (a :: r).map p = r ++ [a] from c]
    exact List.map_congr_left fun x hx => (e x (lt x hx)).symm
theorem prt_more (sk : Skin n J) {D : List Nat} (cl : ∀ x ∈ D, x < 4 * n ∧ jnN J x ∈ D) {a : Nat} (ha : a < 4 * n) (hd : a ∉ D) {x : Nat} (hx : x < 4 * n) : swp a (jnN J a) (prt J D x) = prt J (a :: jnN J a :: D) x := by
  have hb : jnN J a ∉ D := fun z => hd (by have := (cl _ z).2; rwa [jnN_inv sk ha] at this)
  have hab := jnN_ne sk ha
  have rl := rnN_lt hx
  unfold prt
  by_cases h1 : rnN x = a
  · rw [h1, if_neg hd, if_pos List.mem_cons_self, swp_a]
  · by_cases h2 : rnN x = jnN J a
    · rw [h2, if_neg hb, if_pos (List.mem_cons_of_mem _ List.mem_cons_self), swp_b, jnN_inv sk ha]
    · by_cases h3 : rnN x ∈ D
      · rw [if_pos h3, if_pos (List.mem_cons_of_mem _ (List.mem_cons_of_mem _ h3))]
        have := (cl _ h3).2
        exact swp_o (fun z => hd (z ▸ this)) (fun z => hb (z ▸ this))
      · rw [if_neg h3, if_neg (by
          intro z
          rcases List.mem_cons.mp z with z | z
          · exact h1 z
          · rcases List.mem_cons.mp z with z | z
            · exact h2 z
            · exact h3 z)]
        exact swp_o h1 h2
structure Jd (n : Nat) (J : Nat → Nat → Sd) (D : List Nat) : Prop where
  nd : D.Nodup
  cl : ∀ x ∈ D, x < 4 * n ∧ jnN J x ∈ D
theorem Jd.more (sk : Skin n J) {D : List Nat} (h : Jd n J D) {a : Nat} (ha : a < 4 * n) (hd : a ∉ D) : Jd n J (a :: jnN J a :: D) := by
  have hb : jnN J a ∉ D := fun z => hd (by have := (h.cl _ z).2; rwa [jnN_inv sk ha] at this)
  refine ⟨List.nodup_cons.mpr ⟨fun z => ?_, List.nodup_cons.mpr ⟨hb, h.nd⟩⟩, fun x hx => ?_⟩
  · rcases List.mem_cons.mp z with z | z
    · exact jnN_ne sk ha z.symm
    · exact hd z
  · rcases List.mem_cons.mp hx with z | z
    · rw [z]
      exact ⟨ha, List.mem_cons_of_mem _ List.mem_cons_self⟩
    · rcases List.mem_cons.mp z with z | z
      · rw [z, jnN_inv sk ha]
        exact ⟨jnN_lt sk ha, List.mem_cons_self⟩
      · exact ⟨(h.cl x z).1, List.mem_cons_of_mem _ (List.mem_cons_of_mem _ (h.cl x z).2)⟩
theorem Jd.step (sk : Skin n J) {D : List Nat} (h : Jd n J D) {C : List (List Nat)} (s : Sys (4 * n) (prt J D) C) {a : Nat} (ha : a < 4 * n) (hd : a ∉ D) : ∃ C', Sys (4 * n) (prt J (a :: jnN J a :: D)) C' ∧ ((C'.length = C.length + 1 ∧ ∃ l ∈ C, a ∈ l ∧ jnN J a ∈ l) ∨ C'.length + 1 = C.length) := by
  obtain ⟨C', s', e⟩ := s.step ha (jnN_lt sk ha) (fun z => jnN_ne sk ha z.symm)
  refine ⟨C', s'.congr fun x hx => prt_more sk h.cl ha hd hx, ?_⟩
  rcases e with e | e
  · exact .inl e
  · exact .inr e.1
def fcs (n : Nat) : List (List Nat) := (List.range n).map fun f => [4 * f, 4 * f + 1, 4 * f + 2, 4 * f + 3]
theorem fcs_flat : ∀ n, (fcs n).flatten = List.range (4 * n)
  | 0 => rfl
  | n + 1 => by
    unfold fcs
    rw [List.range_succ, List.map_append, List.flatten_append]
    show (fcs n).flatten ++ _ = _
    rw [fcs_flat n]
    show List.range (4 * n) ++ [4 * n, 4 * n + 1, 4 * n + 2, 4 * n + 3] = _
    rw [show 4 * (n + 1) = 4 * n + 1 + 1 + 1 + 1 by omega, List.range_succ, List.range_succ, List.range_succ, List.range_succ]
    simp
theorem sys_faces (J : Nat → Nat → Sd) (n : Nat) : Sys (4 * n) (prt J []) (fcs n) := by
  refine ⟨fun l hl => ?_, by rw [fcs_flat]⟩
  obtain ⟨f, _, rfl⟩ := List.mem_map.mp hl
  show [4 * f, 4 * f + 1, 4 * f + 2, 4 * f + 3].map (prt J []) = [4 * f + 1, 4 * f + 2, 4 * f + 3] ++ [4 * f]
  have e : ∀ x, prt J [] x = rnN x := fun x => if_neg (by simp)
  simp only [List.map_cons, List.map_nil, e]
  unfold rnN
  show _ = [4 * f + 1, 4 * f + 2, 4 * f + 3, 4 * f]
  congr 1
  · omega
  · congr 1
    · omega
    · congr 1
      · omega
      · congr 1
        omega
theorem grow_ex (sk : Skin n J) : ∀ k, k < n → ∃ (M D : List Nat) (C : List (List Nat)), M.Nodup ∧ (∀ f ∈ M, f < n) ∧ 0 ∈ M ∧ M.length = k + 1 ∧ Jd n J D ∧ D.length = 2 * k ∧ (∀ x ∈ D, x / 4 ∈ M) ∧ Sys (4 * n) (prt J D) C ∧ C.length + k = n
  | 0, hk => ⟨[0], [], fcs n, by simp, (fun f hf => by rw [List.mem_singleton.mp hf]; exact hk), List.mem_singleton_self 0, rfl, ⟨List.nodup_nil, fun x hx => (by cases hx)⟩, rfl, (fun x hx => by cases hx), sys_faces J n, by unfold fcs; rw [List.length_map, List.length_range]; omega⟩
  | k + 1, hk => by
    obtain ⟨M, D, C, nd, lt, m0, ml, jd, dl, dm, s, cl⟩ := grow_ex sk k (by omega)
    have ex : ∃ f ∈ M, ∃ i, i < 4 ∧ (J f i).1 ∉ M := by
      rcases Classical.em (∃ f ∈ M, ∃ i, i < 4 ∧ (J f i).1 ∉ M) with z | z
      · exact z
      · have all : ∀ f, f < n → f ∈ M := sk.con (· ∈ M) m0 fun f i hf hi hM => by
          rcases Classical.em ((J f i).1 ∈ M) with y | y
          · exact y
          · exact absurd ⟨f, hM, i, hi, y⟩ z
        have := nodup_len (m := M) (List.nodup_range (n := n)) fun f hf => all f (List.mem_range.mp hf)
        rw [List.length_range] at this
        omega
    obtain ⟨f, hf, i, hi, hg⟩ := ex
    have fl := lt f hf
    have rg := sk.rng f i fl hi
    have ha : 4 * f + i < 4 * n := by omega
    have af : (4 * f + i) / 4 = f := by omega
    have am : (4 * f + i) % 4 = i := by omega
    have eb : jnN J (4 * f + i) = numP (J f i) := by unfold jnN; rw [af, am]
    have bf : jnN J (4 * f + i) / 4 = (J f i).1 := by rw [eb]; unfold numP; omega
    have hb : jnN J (4 * f + i) ∉ D := fun z => hg (by rw [← bf]; exact dm _ z)
    have hd : 4 * f + i ∉ D := fun z => hb (jd.cl _ z).2
    obtain ⟨C', s', e⟩ := jd.step sk s ha hd
    have e : C'.length + 1 = C.length := by
      rcases e with ⟨_, l, hl, h1, h2⟩ | e
      · have := Cyc.holds (p := prt J D) (S := fun x => x / 4 = (J f i).1) (fun x hx => by
          have : rnN x ∉ D := fun z => hg (by have := dm _ z; rwa [rnN_face, hx] at this)
          show prt J D x / 4 = _
          unfold prt
          rw [if_neg this, rnN_face]
          exact hx) (s.cyc l hl) h2 bf _ h1
        rw [af] at this
        exact absurd (this ▸ hf) hg
      · exact e
    refine ⟨(J f i).1 :: M, _, C', List.nodup_cons.mpr ⟨hg, nd⟩, fun g hgm => ?_, List.mem_cons_of_mem _ m0, by rw [List.length_cons, ml], jd.more sk ha hd, by rw [List.length_cons, List.length_cons, dl]; omega, fun x hx => ?_, s', by omega⟩
    · rcases List.mem_cons.mp hgm with z | z
      · rw [z]; exact rg.1
      · exact lt g z
    · rcases List.mem_cons.mp hx with z | z
      · rw [z, af]; exact List.mem_cons_of_mem _ hf
      · rcases List.mem_cons.mp z with z | z
        · rw [z, bf]; exact List.mem_cons_self
        · exact List.mem_cons_of_mem _ (dm x z)
theorem rest_ex (sk : Skin n J) : ∀ (m : Nat) {D : List Nat} {C : List (List Nat)}, Jd n J D → D.length + 2 * m = 4 * n → Sys (4 * n) (prt J D) C → ∃ (D' : List Nat) (C' : List (List Nat)), Jd n J D' ∧ D'.length = 4 * n ∧ Sys (4 * n) (prt J D') C' ∧ C'.length % 2 = (C.length + m) % 2 ∧ C'.length ≤ C.length + m
  | 0, D, C, jd, dl, s => ⟨D, C, jd, by omega, s, rfl, Nat.le_refl _⟩
  | m + 1, D, C, jd, dl, s => by
    have ex : ∃ a, a < 4 * n ∧ a ∉ D := by
      rcases Classical.em (∃ a, a < 4 * n ∧ a ∉ D) with z | z
      · exact z
      · have := nodup_len (m := D) (List.nodup_range (n := 4 * n)) fun x hx => by
          rcases Classical.em (x ∈ D) with y | y
          · exact y
          · exact absurd ⟨x, List.mem_range.mp hx, y⟩ z
        rw [List.length_range] at this
        omega
    obtain ⟨a, ha, hd⟩ := ex
    obtain ⟨C1, s1, e⟩ := jd.step sk s ha hd
    obtain ⟨D', C', jd', dl', s', p, q⟩ := rest_ex sk m (jd.more sk ha hd) (by rw [List.length_cons, List.length_cons]; omega) s1
    refine ⟨D', C', jd', dl', s', ?_, ?_⟩
    · rcases e with ⟨e, _⟩ | e <;> omega
    · rcases e with ⟨e, _⟩ | e <;> omega
theorem sys_ex (sk : Skin n J) : ∃ C, Sys (4 * n) (nxN J) C ∧ C.length % 2 = n % 2 ∧ C.length ≤ n + 2 := by
  have n0 := sk.pos
  obtain ⟨M, D, C, _, _, _, _, jd, dl, _, s, cl⟩ := grow_ex sk (n - 1) (by omega)
  obtain ⟨D', C', jd', dl', s', p, q⟩ := rest_ex sk (n + 1) jd (by omega) s
  have all : ∀ x, x < 4 * n → x ∈ D' := fun x hx => by
    have sub : ∀ y ∈ D', y ∈ List.range (4 * n) := fun y hy => List.mem_range.mpr (jd'.cl y hy).1
    rcases Classical.em (x ∈ D') with z | z
    · exact z
    · have := nodup_len (l := x :: D') (m := List.range (4 * n)) (List.nodup_cons.mpr ⟨z, jd'.nd⟩) fun y hy => by
        rcases List.mem_cons.mp hy with w | w
        · rw [w]; exact List.mem_range.mpr hx
        · exact sub y w
      rw [List.length_cons, List.length_range] at this
      omega
  refine ⟨C', s'.congr fun x hx => ?_, by omega, by omega⟩
  unfold prt nxN
  exact if_pos (all _ (rnN_lt hx))
theorem Sys.crs (sk : Skin n J) {C : List (List Nat)} (s : Sys (4 * n) (nxN J) C) : Crs n J (C.map fun l => l.map plc) := by
  have lt : ∀ l ∈ C, ∀ x ∈ l, x < 4 * n := fun l hl x hx => List.mem_range.mp (s.all.mem_iff.mp (List.mem_flatten.mpr ⟨l, hl, hx⟩))
  have inj : ∀ x y, plc x = plc y → x = y := fun x y e => by rw [← num_plc x, e, num_plc]
  have okx : ∀ x, x < 4 * n → okP n (plc x) := fun x hx => ⟨by show x / 4 < n; omega, Nat.mod_lt _ (by decide)⟩
  have nxe : ∀ x, x < 4 * n → plc (nxN J x) = nxc J (plc x) := fun x hx => by
    rw [nxN_nxc]
    exact plc_num (nxc_ok sk (okx x hx)).2
  have nlt : ∀ x, x < 4 * n → nxN J x < 4 * n := fun x hx => jnN_lt sk (rnN_lt hx)
  refine ⟨fun A hA => ?_, ?_, fun p hp => ?_⟩
  · obtain ⟨l, hl, rfl⟩ := List.mem_map.mp hA
    have cy := s.cyc l hl
    refine ⟨fun z => ?_, map_nodup' ((List.pairwise_flatten.mp s.nd).1 l hl) fun x _ y _ e => inj x y e, fun p hp => ?_, fun p hp => ?_, fun p hp hq => ?_, fun p hp q hq => ?_⟩
    · rw [List.map_eq_nil_iff.mp z] at cy
      exact cy
    · obtain ⟨x, hx, rfl⟩ := List.mem_map.mp hp
      exact okx x (lt l hl x hx)
    · obtain ⟨x, hx, rfl⟩ := List.mem_map.mp hp
      rw [← nxe x (lt l hl x hx)]
      exact List.mem_map_of_mem (cy.closed x hx)
    · obtain ⟨y, hy, e⟩ := List.mem_map.mp hq
      have hx : numP p < 4 * n := by have := hp.1; have := hp.2; unfold numP; omega
      have ep : plc (numP p) = p := plc_num hp.2
      obtain ⟨m, hm, xm⟩ := List.mem_flatten.mp (s.all.mem_iff.mpr (List.mem_range.mpr hx))
      have xm2 := (s.cyc m hm).closed _ xm
      have : nxN J (numP p) = y := inj _ _ (by rw [nxe _ hx, ep, e])
      rw [this] at xm2
      rw [s.uniq hl hm hy xm2, ← ep]
      exact List.mem_map_of_mem xm
    · obtain ⟨x, hx, rfl⟩ := List.mem_map.mp hp
      obtain ⟨y, hy, rfl⟩ := List.mem_map.mp hq
      have := Cyc.holds (p := nxN J) (S := fun y => y < 4 * n ∧ Smc n J (plc x) (plc y)) (fun z ⟨h1, h2⟩ => ⟨nlt z h1, h2.trans (by
        rw [nxe z h1]
        exact fun Q c => c _ (okx z h1))⟩) cy hx ⟨lt l hl x hx, .refl _⟩ y hy
      exact this.2
  · rw [List.pairwise_map]
    refine (List.pairwise_flatten.mp s.nd).2.imp fun {l m} h p hp hq => ?_
    obtain ⟨x, hx, rfl⟩ := List.mem_map.mp hp
    obtain ⟨y, hy, e⟩ := List.mem_map.mp hq
    exact h x hx y hy (inj y x e).symm
  · have hx : numP p < 4 * n := by have := hp.1; have := hp.2; unfold numP; omega
    obtain ⟨m, hm, xm⟩ := List.mem_flatten.mp (s.all.mem_iff.mpr (List.mem_range.mpr hx))
    exact ⟨_, List.mem_map_of_mem hm, by rw [← plc_num hp.2]; exact List.mem_map_of_mem xm⟩
theorem Crs.same {Cs Cs' : List (List Sd)} (h : Crs n J Cs) (h' : Crs n J Cs') : Cs.length = Cs'.length := Nat.le_antisymm (crs_le h h' id (fun _ h => h) fun _ _ _ _ s => s) (crs_le h' h id (fun _ h => h) fun _ _ _ _ s => s)
end
end Lw
namespace Lw
open PySem PySem.Spec L2 Ve
theorem gSrtO_TT {hp : Hd} {n : Nat} {L : List (List (List Int))} (e : hp[n]? = some (.lst (L.map TT))) (h : ∀ b ∈ L, b ≠ []) : gSrtO (.ref n) hp = some ((sortT L).map TT, hp) := by
  have e2 : seqOfL (.ref n) hp = some (L.map TT) := lstOf_ref e
  unfold gSrtO
  rw [e2]
  exact gSrt_TT h
theorem tupV_ref {hp : Hd} {q : Nat} {ds : List D} (g : hp[q]? = some (.lst ds)) : gTupV [.ref q] hp = some (.tup ds, hp) := by
  show (match seqOfL (.ref q) hp with
    | some ds => some (D.tup ds, hp)
    | none => none) = _
  rw [show seqOfL (.ref q) hp = some ds from lstOf_ref g]
theorem nrO_Gd {g : List Int → D} (h : ∀ c, nr (g c) = true) : ∀ cs : List (List Int), nrO (.dic (Gd' g cs)) = true
  | [] => rfl
  | c :: cs => by
    show kvAll (fun _ => false) ((T c, g c) :: Gd' g cs) = true
    rw [kvAll, show D.all (fun _ => false) (T c) = true from nr_T c, show D.all (fun _ => false) (g c) = true from h c, show kvAll (fun _ => false) (Gd' g cs) = true from nrO_Gd h cs]
    rfl
theorem mSorted_of {fa : AE} {ls : Ls} {hp hp1 : Hd} {d : D} {r : Option (List D × Hd)} (e : fa ls hp = some (d, hp1)) (e2 : gSrtO d hp1 = r) : mSorted fa ls hp = r := by
  unfold mSorted
  rw [e]
  exact e2
@[simp] def b_next_corner_1 : AS :=
    (sRet (m2 (m2 (mVar 0) (mVar 2) gIx) (m2 (m2 (mVar 3) (mC (.int 1)) gAdd) (mC (.int 4)) gMod) gIx))
def b_next_corner : AS :=
    sSeq (sAsg (.tp ((.nm 2) :: ((.nm 3) :: []))) (mVar 1))
    b_next_corner_1
def m_next_corner : List D → Hd → Option (D × Hd) := mDef 4 b_next_corner
abbrev c_next_corner := m_next_corner
theorem nextc_ok {n : Nat} {J : Nat → Nat → Sd} (sk : Skin n J) {p : Sd} (h : okP n p) (hp : Hd) : m_next_corner [skD n J, T (pI p)] hp = some (T (pI (nxc J p)), hp) := by
  have s1 : sAsg (.tp ((.nm 2) :: ((.nm 3) :: []))) (mVar 1) [some (skD n J), some (T (pI p)), none, none] hp = some (.nx, [some (skD n J), some (T (pI p)), some (.int (p.1 : Nat)), some (.int (p.2 : Nat))], hp) := by
    refine asg_of (mVar_of rfl) ?_
    rw [asg_tpT]
    rfl
  exact def_of (sSeq_of s1 (ret_of (m2_ev (m2_ev (mVar_of rfl) (mVar_of rfl) (gIx_sk h.1)) (m2_ev (m2_ev (mVar_of rfl) mC_of gAdd_int) mC_of ((gMod_int (by decide)).trans (by rw [show (((p.2 : Nat) : Int) + 1) % 4 = (((p.2 + 1) % 4 : Nat) : Int) by omega]))) (gIx_row (Nat.mod_lt _ (by decide))))))
@[simp] def B1_round_of_1 : AS :=
    (sSet 3 (mAs (mCons (mVar 0) (mCons (mVar 3) mNil)) (ar 2 c_next_corner)))
def B1_round_of : AS :=
    sSeq (sDrop (mMet isL (mVar 2) (mCons (mVar 3) mNil) gAppend))
    B1_round_of_1
def W1_round_of : Nat → AS := sWhile (mT (m2 (mVar 3) (mVar 1) gNe)) B1_round_of
@[simp] def b_round_of_3 : AS :=
    (sRet (mAs (mCons (mVar 2) mNil) gTupV))
@[simp] def b_round_of_2 : AS :=
    sSeq (W1_round_of 1000000)
    b_round_of_3
@[simp] def b_round_of_1 : AS :=
    sSeq (sSet 3 (mAs (mCons (mVar 0) (mCons (mVar 1) mNil)) (ar 2 c_next_corner)))
    b_round_of_2
def b_round_of : AS :=
    sSeq (sSet 2 (mNew (mLst (mCons (mVar 1) mNil))))
    b_round_of_1
def m_round_of : List D → Hd → Option (D × Hd) := mDef 4 b_round_of
def c_round_of := cV m_round_of
theorem con_round_of : Cl c_round_of m_round_of := cl_cV _
abbrev cyI (C : List Sd) : List (List Int) := C.map pI
theorem round_ok {n : Nat} {J : Nat → Nat → Sd} (hn : n ≤ 200) (sk : Skin n J) {p : Sd} (h : okP n p) : ∃ C : List Sd, Cy n J C ∧ p ∈ C ∧ C.length ≤ 4 * n ∧ ∀ hp, c_round_of [skD n J, T (pI p)] hp = some (TT (cyI C), hp) := by
  obtain ⟨k, k0, k4, ek, mn⟩ := per_ex sk h
  obtain ⟨cy, pm⟩ := cyc_cy sk h k0 ek mn
  have lc : (cyc J p k).length = k := by unfold cyc; rw [List.length_map, List.length_range]
  refine ⟨cyc J p k, cy, pm, by omega, fun hp => ?_⟩
  have s2 : sSet 2 (mNew (mLst (mCons (mVar 1) mNil))) [some (skD n J), some (T (pI p)), none, none] [] = some (.nx, [some (skD n J), some (T (pI p)), some (.ref 0), none], [.lst [T (pI p)]]) := rfl
  have s3 : sSet 3 (mAs (mCons (mVar 0) (mCons (mVar 1) mNil)) (ar 2 c_next_corner)) [some (skD n J), some (T (pI p)), some (.ref 0), none] [.lst [T (pI p)]] = some (.nx, [some (skD n J), some (T (pI p)), some (.ref 0), some (T (pI (itc J p 1)))], [.lst [T (pI p)]]) := sSet_of (call_of (cons_of (mVar_of rfl) (cons_of (mVar_of rfl) nil_of)) rfl (nextc_ok sk h _))
  obtain ⟨j, ls', H', e, ⟨hj, rfl, rfl⟩, hd⟩ := sWhile_rel (S := Nat) (c := mT (m2 (mVar 3) (mVar 1) gNe)) (b := B1_round_of) (fun j ls H => j < k ∧ ls = [some (skD n J), some (T (pI p)), some (.ref 0), some (T (pI (itc J p (j + 1))))] ∧ H = [.lst ((List.range (j + 1)).map fun i => T (pI (itc J p i)))]) (fun j => j + 1 = k) (fun j => k - j) (by
    rintro j ls H ⟨hj, rfl, rfl⟩
    have t := mT_of (ls := [some (skD n J), some (T (pI p)), some (.ref 0), some (T (pI (itc J p (j + 1))))]) (m2_ev (mVar_of (i := 3) rfl) (mVar_of (i := 1) rfl) (gNe_T (hp := [O.lst ((List.range (j + 1)).map fun i => T (pI (itc J p i)))]) (pI (itc J p (j + 1))) (pI p)))
    by_cases c : j + 1 = k
    · refine .inl ⟨?_, c⟩
      rw [t, c, ek, beq_self_eq_true]
      rfl
    · refine .inr ⟨?_, ?_⟩
      · rw [t]
        have : (pI (itc J p (j + 1)) == pI p) = false := by
          rw [beq_eq_false_iff_ne]
          exact fun z => mn (j + 1) (by omega) (by omega) (pI_inj z)
        rw [this]
        rfl
      · have ga := gAppend_of (hp := [O.lst ((List.range (j + 1)).map fun i => T (pI (itc J p i)))]) (n := 0) (d := T (pI (itc J p (j + 1)))) rfl (by rw [List.length_map, List.length_range]; omega)
        refine ⟨j + 1, _, _, .inl (sSeq_of (sDrop_of (met_of (mVar_of (d := .ref 0) rfl) (by rfl) (cons_of (mVar_of (d := T (pI (itc J p (j + 1)))) rfl) nil_of) ga)) (sSet_of (call_of (cons_of (mVar_of (d := skD n J) rfl) (cons_of (mVar_of (d := T (pI (itc J p (j + 1)))) rfl) nil_of)) rfl (nextc_ok sk (itc_ok sk h _) _)))), ⟨by omega, rfl, ?_⟩, by omega⟩
        rw [List.range_succ (n := j + 1), List.map_append]
        rfl) 1000000 0 [some (skD n J), some (T (pI p)), some (.ref 0), some (T (pI (itc J p 1)))] [.lst [T (pI p)]] (by omega) ⟨k0, rfl, rfl⟩
  rw [hd] at e
  have er : mAs (mCons (mVar 2) mNil) gTupV [some (skD n J), some (T (pI p)), some (.ref 0), some (T (pI (itc J p k)))] [.lst ((List.range k).map fun i => T (pI (itc J p i)))] = some (TT (cyI (cyc J p k)), [.lst ((List.range k).map fun i => T (pI (itc J p i)))]) := by
    refine (as_of (cons_of (mVar_of rfl) nil_of) (tupV_ref (q := 0) rfl)).trans ?_
    unfold Ve.TT cyc
    rw [List.map_map, List.map_map]
    rfl
  exact cV_of (nrs_cons (nr_sk _ _) (nrs_cons (nr_T _) rfl)) (def_of (sSeq_of s2 (sSeq_of s3 (sSeq_of (show W1_round_of 1000000 _ _ = _ from e) (ret_of er))))) (nr_TT _)
end Lw
namespace Lw
open PySem PySem.Spec L2 Ve
def E1_corners : AE :=
    (mTup (mCons (mVar 6) (mCons (mC (.bl true)) mNil)))
def C1_corners : AA :=
    (mLc (mIS (mVar 5)) (.nm 6) [6] tYesD E1_corners)
def B1_corners : AS :=
    (sIf (mT (m2 (mTup (mCons (mVar 3) (mCons (mVar 4) mNil))) (mVar 1) gNotIn)) (sSeq (sSet 5 (mAs (mCons (mVar 0) (mCons (mTup (mCons (mVar 3) (mCons (mVar 4) mNil))) mNil)) (ar 2 c_round_of)))
    (sSeq (sDrop (mMet isDc (mVar 1) (mCons (mL C1_corners gDictL) mNil) gUpd))
    (sDrop (mMet isL (mVar 2) (mCons (mVar 5) mNil) gAppend)))) sNext)
def F1_corners : AS := (sForI (mR1 (mCons (mC (.int 4)) mNil)) (.nm 4) B1_corners)
def B2_corners : AS :=
    F1_corners
def F2_corners : AS := (sForI (mR1 (mCons (mAs (mCons (mVar 0) mNil) gLen) mNil)) (.nm 3) B2_corners)
@[simp] def b_corners_3 : AS :=
    (sRet (mNew (mSorted (mVar 2))))
@[simp] def b_corners_2 : AS :=
    sSeq F2_corners
    b_corners_3
@[simp] def b_corners_1 : AS :=
    sSeq (sSet 2 (mNew (mLst mNil)))
    b_corners_2
def b_corners : AS :=
    sSeq (sSet 1 mDict0)
    b_corners_1
def m_corners : List D → Hd → Option (D × Hd) := mDef 7 b_corners
def c_corners := cN m_corners
theorem con_corners : Cl c_corners m_corners := cl_cN _
theorem plc_hash : decide (((sds 92).map fun p => hshI (pI p)).Nodup) = true := by decide +kernel
theorem nodup_inj {α β : Type} {h : α → β} {l : List α} (nd : (l.map h).Nodup) : ∀ a ∈ l, ∀ b ∈ l, h a = h b → a = b := by
  induction l with
  | nil => intro a ha; cases ha
  | cons x l ih =>
    intro a ha b hb e
    rw [List.map_cons, List.nodup_cons] at nd
    rcases List.mem_cons.mp ha with ea | ha'
    · rcases List.mem_cons.mp hb with eb | hb'
      · rw [ea, eb]
      · exact absurd (List.mem_map.mpr ⟨b, hb', by rw [← e, ea]⟩) nd.1
    · rcases List.mem_cons.mp hb with eb | hb'
      · exact absurd (List.mem_map.mpr ⟨a, ha', by rw [e, eb]⟩) nd.1
      · exact ih nd.2 a ha' b hb' e
theorem plc_inj {a b : Sd} (ha : a.1 < 92 ∧ a.2 < 4) (hb : b.1 < 92 ∧ b.2 < 4) (e : hshI (pI a) = hshI (pI b)) : a = b := nodup_inj (of_decide_eq_true plc_hash) a (mem_sds.mpr ha) b (mem_sds.mpr hb) e
theorem cy_hash {n : Nat} {J : Nat → Nat → Sd} (hn : n ≤ 92) {C : List Sd} (cy : Cy n J C) : ((cyI C).map hshI).Nodup := by
  have nd : (cyI C).Nodup := map_nodup' cy.nd fun a _ b _ e => pI_inj e
  refine map_nodup' nd fun x hx y hy e => ?_
  obtain ⟨a, ha, rfl⟩ := List.mem_map.mp hx
  obtain ⟨b, hb, rfl⟩ := List.mem_map.mp hy
  have oa := cy.ok a ha
  have ob := cy.ok b hb
  rw [plc_inj ⟨by have := oa.1; omega, oa.2⟩ ⟨by have := ob.1; omega, ob.2⟩ e]
structure Cst (n : Nat) (J : Nat → Nat → Sd) (acc : List (List Int)) (Cs : List (List Sd)) (d : List Sd) : Prop where
  cy : ∀ C ∈ Cs, Cy n J C
  dis : Cs.Pairwise fun C C' => ∀ p ∈ C, p ∉ C'
  cov : ∀ p ∈ d, ∃ C ∈ Cs, p ∈ C
  met : ∀ a, a ∈ acc ↔ ∃ C ∈ Cs, ∃ p ∈ C, a = pI p
  lacc : acc.length ≤ 4 * n * Cs.length
  lcs : Cs.length ≤ d.length
section
variable {n : Nat} {J : Nat → Nat → Sd}
theorem Cst.in_ {acc : List (List Int)} {Cs : List (List Sd)} {d : List Sd} (h : Cst n J acc Cs d) {p : Sd} (hp : pI p ∈ acc) : Cst n J acc Cs (d ++ [p]) := by
  refine ⟨h.cy, h.dis, fun q hq => ?_, h.met, h.lacc, by rw [List.length_append]; have := h.lcs; omega⟩
  rcases List.mem_append.mp hq with z | z
  · exact h.cov q z
  · rw [List.mem_singleton.mp z]
    obtain ⟨C, hC, q, hq, e⟩ := (h.met _).mp hp
    exact ⟨C, hC, by rw [pI_inj e]; exact hq⟩
theorem Cst.out {acc : List (List Int)} {Cs : List (List Sd)} {d : List Sd} (h : Cst n J acc Cs d) {p : Sd} (hp : pI p ∉ acc) {C : List Sd} (cy : Cy n J C) (pC : p ∈ C) (lC : C.length ≤ 4 * n) : Cst n J ((cyI C).foldl addC acc) (Cs ++ [C]) (d ++ [p]) := by
  refine ⟨fun A hA => ?_, List.pairwise_append.mpr ⟨h.dis, List.pairwise_singleton _ _, fun A hA B hB q hq hq' => ?_⟩, fun q hq => ?_, fun a => ?_, ?_, by rw [List.length_append, List.length_append]; have := h.lcs; simp; omega⟩
  · rcases List.mem_append.mp hA with z | z
    · exact h.cy A z
    · rw [List.mem_singleton.mp z]; exact cy
  · rw [List.mem_singleton.mp hB] at hq'
    have := (h.cy A hA).come hq (cy.one q hq' p pC)
    exact hp ((h.met _).mpr ⟨A, hA, p, this, rfl⟩)
  · rcases List.mem_append.mp hq with z | z
    · obtain ⟨A, hA, q'⟩ := h.cov q z
      exact ⟨A, List.mem_append_left _ hA, q'⟩
    · rw [List.mem_singleton.mp z]
      exact ⟨C, List.mem_append_right _ (List.mem_singleton_self _), pC⟩
  · rw [foldl_addC_mem, h.met]
    constructor
    · rintro (⟨A, hA, q, hq, e⟩ | z)
      · exact ⟨A, List.mem_append_left _ hA, q, hq, e⟩
      · obtain ⟨q, hq, e⟩ := List.mem_map.mp z
        exact ⟨C, List.mem_append_right _ (List.mem_singleton_self _), q, hq, e.symm⟩
    · rintro ⟨A, hA, q, hq, e⟩
      rcases List.mem_append.mp hA with z | z
      · exact .inl ⟨A, z, q, hq, e⟩
      · rw [List.mem_singleton.mp z] at hq
        exact .inr (List.mem_map.mpr ⟨q, hq, e.symm⟩)
  · have l1 := foldl_addC_len (cyI C) acc
    have l2 : (cyI C).length = C.length := List.length_map ..
    have := h.lacc
    rw [List.length_append, List.length_singleton, Nat.mul_add, Nat.mul_one]
    omega
abbrev LC (n : Nat) (J : Nat → Nat → Sd) (v3 v4 v5 v6 : Option D) : Ls := [some (skD n J), some (.ref 0), some (.ref 1), v3, v4, v5, v6]
abbrev csD (Cs : List (List Sd)) : List D := Cs.map fun C => TT (cyI C)
theorem place_step (hn : n ≤ 92) (sk : Skin n J) {acc : List (List Int)} {Cs : List (List Sd)} {d : List Sd} (ld : d.length ≤ 4 * n) (st : Cst n J acc Cs d) {f i : Nat} (hf : f < n) (hi : i < 4) {v5 v6 : Option D} {g : Hd} :
    ∃ acc' Cs' v5' g', B1_corners (LC n J (some (.int (f : Nat))) (some (.int (i : Nat))) v5 v6) (.dic (Cd acc) :: .lst (csD Cs) :: g) = some (.nx, LC n J (some (.int (f : Nat))) (some (.int (i : Nat))) v5' v6, .dic (Cd acc') :: .lst (csD Cs') :: g') ∧ Cst n J acc' Cs' (d ++ [(f, i)]) := by
  have em : mTup (mCons (mVar 3) (mCons (mVar 4) mNil)) (LC n J (some (.int (f : Nat))) (some (.int (i : Nat))) v5 v6) (.dic (Cd acc) :: .lst (csD Cs) :: g) = some (T (pI (f, i)), .dic (Cd acc) :: .lst (csD Cs) :: g) := tup_of (cons_of (mVar_of rfl) (cons_of (mVar_of rfl) nil_of)) (by show 2 ≤ 1000; decide)
  have t := mT_of (m2_ev em (mVar_of (i := 1) rfl) (gNotIn_dic (a := pI (f, i)) (hp := .dic (Cd acc) :: .lst (csD Cs) :: g) (n := 0) (cs := acc) rfl))
  have lcs := st.lcs
  by_cases hm : pI (f, i) ∈ acc
  · rw [decide_eq_true hm] at t
    exact ⟨acc, Cs, v5, g, sIf_f t rfl, st.in_ hm⟩
  · rw [decide_eq_false hm] at t
    obtain ⟨C, cy, pC, lC, er⟩ := round_ok (by omega) sk (p := (f, i)) ⟨hf, hi⟩
    have ndC : (cyI C).Nodup := map_nodup' cy.nd fun a _ b _ e => pI_inj e
    have hsC : ((cyI C).map hshI).Nodup := cy_hash hn cy
    have neC : cyI C ≠ [] := fun z => cy.ne (List.map_eq_nil_iff.mp z)
    have llC : (cyI C).length ≤ 4 * n := by rw [List.length_map]; exact lC
    have s5 : sSet 5 (mAs (mCons (mVar 0) (mCons (mTup (mCons (mVar 3) (mCons (mVar 4) mNil))) mNil)) (ar 2 c_round_of)) (LC n J (some (.int (f : Nat))) (some (.int (i : Nat))) v5 v6) (.dic (Cd acc) :: .lst (csD Cs) :: g) = some (.nx, LC n J (some (.int (f : Nat))) (some (.int (i : Nat))) (some (TT (cyI C))) v6, .dic (Cd acc) :: .lst (csD Cs) :: g) := sSet_of (call_of (cons_of (mVar_of rfl) (cons_of em nil_of)) rfl (er _))
    have el := mLc_typed (fi := mIS (mVar 5)) (t := .nm 6) (own := [6]) (tt := tYesD) (te := E1_corners) (ls := LC n J (some (.int (f : Nat))) (some (.int (i : Nat))) (some (TT (cyI C))) v6) (hp := .dic (Cd acc) :: .lst (csD Cs) :: g) T (cyI C) (fun _ => true) (fun c => D.tup [T c, .bl true]) (mIS_tup (mVar_of rfl)) (by rw [sizeLine_eq]; omega) rfl (fun c _ => ⟨_, asg_nm, rfl, fun _ => tup_of (cons_of (mVar_of rfl) (cons_of mC_of nil_of)) (by show 2 ≤ 1000; decide)⟩)
    rw [List.filter_eq_self.mpr (fun _ _ => rfl)] at el
    have ed1 := (mL_of (g := gDictL) el).trans (gDictL_Cd ndC)
    have lacc := st.lacc
    have m1 : 4 * n * Cs.length ≤ 368 * 368 := Nat.mul_le_mul (by omega) (by omega)
    have gu := gUpd_of (hp := (.dic (Cd acc) :: .lst (csD Cs) :: g) ++ [.dic (Cd (cyI C))]) (n := 0) (m := (.dic (Cd acc) :: .lst (csD Cs) :: g : Hd).length) (acc := acc) (cs := cyI C) rfl hget_new (by simp) neC (by omega) (.inr hsC)
    have s6 : sDrop (mMet isDc (mVar 1) (mCons (mL C1_corners gDictL) mNil) gUpd) (LC n J (some (.int (f : Nat))) (some (.int (i : Nat))) (some (TT (cyI C))) v6) (.dic (Cd acc) :: .lst (csD Cs) :: g) = some (.nx, LC n J (some (.int (f : Nat))) (some (.int (i : Nat))) (some (TT (cyI C))) v6, .dic (Cd ((cyI C).foldl addC acc)) :: .lst (csD Cs) :: (g ++ [.dic (Cd (cyI C))])) :=
      sDrop_of (met_of (mVar_of rfl) (by rfl) (cons_of ed1 nil_of) gu)
    have ga := gAppend_of (hp := .dic (Cd ((cyI C).foldl addC acc)) :: .lst (csD Cs) :: (g ++ [.dic (Cd (cyI C))])) (n := 1) (xs := csD Cs) (d := TT (cyI C)) rfl (by rw [List.length_map]; omega)
    have s7 : sDrop (mMet isL (mVar 2) (mCons (mVar 5) mNil) gAppend) (LC n J (some (.int (f : Nat))) (some (.int (i : Nat))) (some (TT (cyI C))) v6) (.dic (Cd ((cyI C).foldl addC acc)) :: .lst (csD Cs) :: (g ++ [.dic (Cd (cyI C))])) = some (.nx, LC n J (some (.int (f : Nat))) (some (.int (i : Nat))) (some (TT (cyI C))) v6, .dic (Cd ((cyI C).foldl addC acc)) :: .lst (csD Cs ++ [TT (cyI C)]) :: (g ++ [.dic (Cd (cyI C))])) :=
      sDrop_of (met_of (mVar_of rfl) (by rfl) (cons_of (mVar_of rfl) nil_of) ga)
    have ec : csD Cs ++ [TT (cyI C)] = csD (Cs ++ [C]) := by
      show _ = (Cs ++ [C]).map fun C => TT (cyI C)
      rw [List.map_append]
      rfl
    rw [ec] at s7
    exact ⟨_, Cs ++ [C], _, _, sIf_t t (sSeq_of s5 (sSeq_of s6 s7)), st.out hm cy pC lC⟩
theorem face_step (hn : n ≤ 92) (sk : Skin n J) {acc : List (List Int)} {Cs : List (List Sd)} {f : Nat} (hf : f < n) (st : Cst n J acc Cs (sds f)) {v4 v5 v6 : Option D} {g : Hd} :
    ∃ acc' Cs' v4' v5' g', B2_corners (LC n J (some (.int (f : Nat))) v4 v5 v6) (.dic (Cd acc) :: .lst (csD Cs) :: g) = some (.nx, LC n J (some (.int (f : Nat))) v4' v5' v6, .dic (Cd acc') :: .lst (csD Cs') :: g') ∧ Cst n J acc' Cs' (sds (f + 1)) := by
  obtain ⟨ls', H', e, acc', Cs', v4', v5', g', rfl, rfl, st'⟩ := sForI_pre (fi := mR1 (mCons (mC (.int 4)) mNil)) (t := .nm 4) (b := B1_corners) (gd := []) (items := List.range 4) (ls := LC n J (some (.int (f : Nat))) v4 v5 v6) (hp := .dic (Cd acc) :: .lst (csD Cs) :: g) (fun i : Nat => D.int (i : Nat))
    (fun d ls H => ∃ acc' Cs' v4' v5' g', ls = LC n J (some (.int (f : Nat))) v4' v5' v6 ∧ H = .dic (Cd acc') :: .lst (csD Cs') :: g' ∧ Cst n J acc' Cs' (sds f ++ d.map fun i => (f, i)))
    (mR1_nat (j := 4) rfl (by decide)) (fun _ _ _ _ => rfl) ⟨acc, Cs, v4, v5, g, rfl, rfl, by rw [List.map_nil, List.append_nil]; exact st⟩ (by
      rintro d i r ls H ed ⟨acc, Cs, v4, v5, g, rfl, rfl, st⟩
      have hi : i < 4 := List.mem_range.mp (by rw [ed]; exact List.mem_append_right _ List.mem_cons_self)
      have ld : d.length < 4 := by
        have := congrArg List.length ed
        rw [List.length_range, List.length_append, List.length_cons] at this
        omega
      obtain ⟨acc', Cs', v5', g', e, st'⟩ := place_step hn sk (by rw [List.length_append, sds_length, List.length_map]; omega) st hf hi (v5 := v5) (v6 := v6) (g := g)
      rw [List.append_assoc] at st'
      exact ⟨_, _, _, asg_nm, .inl e, acc', Cs', _, v5', g', rfl, rfl, by rw [List.map_append]; exact st'⟩)
  refine ⟨acc', Cs', v4', v5', g', e, ?_⟩
  rw [sds_succ]
  exact st'
theorem corners_ok (hn : n ≤ 92) (sk : Skin n J) : ∃ Cs : List (List Sd), Crs n J Cs ∧ Cs.length ≤ 4 * n ∧ ∀ hp : Hd, c_corners [skD n J] hp = some (.ref hp.length, hp ++ [.lst ((sortT (Cs.map cyI)).map TT)]) := by
  have s1 : sSet 1 mDict0 [some (skD n J), none, none, none, none, none, none] [] = some (.nx, [some (skD n J), some (.ref 0), none, none, none, none, none], [.dic (Cd [])]) := rfl
  have s2 : sSet 2 (mNew (mLst mNil)) [some (skD n J), some (.ref 0), none, none, none, none, none] [.dic (Cd [])] = some (.nx, LC n J none none none none, [.dic (Cd []), .lst (csD [])]) := rfl
  obtain ⟨ls', H', e, acc, Cs, v3, v4, v5, g, rfl, rfl, st⟩ := sForI_pre (fi := mR1 (mCons (mAs (mCons (mVar 0) mNil) gLen) mNil)) (t := .nm 3) (b := B2_corners) (gd := []) (items := List.range n) (ls := LC n J none none none none) (hp := [.dic (Cd []), .lst (csD [])]) (fun f : Nat => D.int (f : Nat))
    (fun d ls H => ∃ acc Cs v3 v4 v5 g, ls = LC n J v3 v4 v5 none ∧ H = .dic (Cd acc) :: .lst (csD Cs) :: g ∧ Cst n J acc Cs (sds d.length))
    (mR1_nat (j := n) (cons_of (as_of (cons_of (mVar_of rfl) nil_of) gLen_sk) nil_of) (by omega)) (fun _ _ _ _ => rfl) ⟨[], [], none, none, none, [], rfl, rfl, ⟨fun _ h => (by cases h), List.Pairwise.nil, fun p hp => (by cases hp), fun a => ⟨fun h => (by cases h), fun ⟨C, hC, _⟩ => (by cases hC)⟩, Nat.zero_le _, Nat.zero_le _⟩⟩ (by
      rintro d f r ls H ed ⟨acc, Cs, v3, v4, v5, g, rfl, rfl, st⟩
      obtain ⟨rfl, hf⟩ := range_at ed
      obtain ⟨acc', Cs', v4', v5', g', e, st'⟩ := face_step hn sk hf st (v4 := v4) (v5 := v5) (v6 := none) (g := g)
      exact ⟨_, _, _, asg_nm, .inl e, acc', Cs', _, v4', v5', g', rfl, rfl, by rw [List.length_append]; exact st'⟩)
  rw [List.length_range] at st
  have lcs := st.lcs
  rw [sds_length] at lcs
  refine ⟨Cs, ⟨st.cy, st.dis, fun p hp => st.cov p (mem_sds.mpr hp)⟩, lcs, fun hp => ?_⟩
  have ne : ∀ b ∈ Cs.map cyI, b ≠ [] := fun b hb z => by
    obtain ⟨C, hC, rfl⟩ := List.mem_map.mp hb
    exact (st.cy C hC).ne (List.map_eq_nil_iff.mp z)
  have ec : csD Cs = (Cs.map cyI).map TT := by unfold csD; rw [List.map_map]; rfl
  rw [ec] at e
  have so := gSrtO_TT (hp := .dic (Cd acc) :: .lst ((Cs.map cyI).map TT) :: g) (n := 1) rfl ne
  have em : m_corners [skD n J] [] = some (.ref (g.length + 2), .dic (Cd acc) :: .lst ((Cs.map cyI).map TT) :: (g ++ [.lst ((sortT (Cs.map cyI)).map TT)])) := def_of (sSeq_of s1 (sSeq_of s2 (sSeq_of (show F2_corners _ _ = _ from e) (ret_of (mNew_of (mSorted_of (mVar_of rfl) so))))))
  exact cN_of (nrs_cons (nr_sk _ _) rfl) em (by
    show (g ++ [O.lst _])[g.length]? = _
    exact hget_new) (nrs_of fun d hd => by
      obtain ⟨b, _, rfl⟩ := List.mem_map.mp hd
      exact nr_TT b)
end
end Lw
namespace Lw
open PySem PySem.Spec L2 Ve
def b_passages : AS :=
    (sRet (m2 (m2 (m2 (mC (.int 2)) (mAs (mCons (mVar 0) mNil) gLen) gAdd) (mAs (mCons (mAs (mCons (mVar 0) mNil) (ar 1 c_corners)) mNil) gLen) gSub) (mC (.int 2)) gDiv))
def m_passages : List D → Hd → Option (D × Hd) := mDef 1 b_passages
def c_passages := cV m_passages
theorem con_passages : Cl c_passages m_passages := cl_cV _
theorem passages_ok {n : Nat} {J : Nat → Nat → Sd} (hn : n ≤ 92) (sk : Skin n J) {Cs : List (List Sd)} (h : Crs n J Cs) {p : Nat} (e : 2 + n = Cs.length + 2 * p) (hp : Hd) : c_passages [skD n J] hp = some (.int (p : Nat), hp) := by
  obtain ⟨Cs', h', lc, ec⟩ := corners_ok hn sk
  have es := h.same h'
  have e1 : m2 (m2 (m2 (mC (.int 2)) (mAs (mCons (mVar 0) mNil) gLen) gAdd) (mAs (mCons (mAs (mCons (mVar 0) mNil) (ar 1 c_corners)) mNil) gLen) gSub) (mC (.int 2)) gDiv [some (skD n J)] [] = some (.int (p : Nat), [.lst ((sortT (Cs'.map cyI)).map TT)]) := by
    refine m2_ev (m2_ev (m2_ev mC_of (as_of (cons_of (mVar_of rfl) nil_of) gLen_sk) rfl) (as_of (cons_of (call_of (cons_of (mVar_of rfl) nil_of) rfl (ec [])) nil_of) (gLen_lst (n := 0) rfl)) rfl) mC_of ?_
    have l : ((sortT (Cs'.map cyI)).map TT).length = Cs.length := by rw [List.length_map, (sortT_perm _).length_eq, List.length_map, es]
    rw [l, gDiv_int (cDiv_of (by omega))]
    congr 2
    congr 1
    omega
  exact cV_of (nrs_cons (nr_sk _ _) rfl) (def_of (ret_of e1)) rfl
end Lw
namespace Lw
open PySem PySem.Spec L2 Ve
def unI (c : List Int) : Sd := ((c.getD 0 0).toNat, (c.getD 1 0).toNat)
theorem unI_pI (p : Sd) : unI (pI p) = p := by
  unfold unI pI
  refine Prod.ext ?_ ?_
  · show ((p.1 : Int)).toNat = p.1
    omega
  · show ((p.2 : Int)).toNat = p.2
    omega
def gLb (L : Sd → Sd) (c : List Int) : D := T (pI (L (unI c)))
abbrev kys (n : Nat) : List (List Int) := (sds n).map pI
theorem kys_nodup (n : Nat) : (kys n).Nodup := map_nodup' (sds_nodup n) fun a _ b _ e => pI_inj e
theorem putD_old {g g' : List Int → D} {v : D} : ∀ {cs : List (List Int)} {a : List Int}, cs.Nodup → a ∈ cs → (∀ c ∈ cs, c ≠ a → g' c = g c) → g' a = v → putD (Gd' g cs) (T a) v = Gd' g' cs
  | [], a, _, h, _, _ => by cases h
  | c :: cs, a, nd, h, h1, h2 => by
    show putD ((T c, g c) :: Gd' g cs) (T a) v = (T c, g' c) :: Gd' g' cs
    obtain ⟨n1, n2⟩ := List.nodup_cons.mp nd
    rw [putD]
    by_cases e : c = a
    · rw [if_pos (same_T.mpr e)]
      subst e
      rw [h2]
      congr 1
      exact Gd_congr fun d hd => (h1 d (List.mem_cons_of_mem _ hd) fun z => n1 (z ▸ hd)).symm
    · rw [if_neg (fun z => e (same_T.mp z)), h1 c List.mem_cons_self e]
      congr 1
      have ha : a ∈ cs := by
        rcases List.mem_cons.mp h with z | z
        · exact absurd z.symm e
        · exact z
      exact putD_old n2 ha (fun d hd => h1 d (List.mem_cons_of_mem _ hd)) h2
theorem gSet_old {hp : Hd} {n : Nat} {a : List Int} {g g' : List Int → D} {v : D} {cs : List (List Int)} (h : hp[n]? = some (.dic (Gd' g cs))) (nd : cs.Nodup) (ha : a ∈ cs) (hl : cs.length < sizeLine) (h1 : ∀ c ∈ cs, c ≠ a → g' c = g c) (h2 : g' a = v) : gSet (.ref n) (T a) v hp = some (hp.set n (.dic (Gd' g' cs))) := by
  unfold gSet
  dsimp only
  rw [h]
  dsimp only
  have hz : (Gd' g cs).length < sizeLine := by
    unfold Gd'
    rw [List.length_map]
    exact hl
  rw [dKind_Gd, decide_eq_true hz, Bool.and_self, if_pos rfl, putD_old nd ha h1 h2]
def B1_L_least_places : AS :=
    (sStore (mTup (mCons (mVar 2) (mCons (mVar 3) mNil))) (mVar 1) (mTup (mCons (mVar 2) (mCons (mVar 3) mNil))))
def F1_L_least_places : AS := (sForI (mR1 (mCons (mC (.int 4)) mNil)) (.nm 3) B1_L_least_places)
def B2_L_least_places : AS :=
    F1_L_least_places
def F2_L_least_places : AS := (sForI (mR1 (mCons (mAs (mCons (mVar 0) mNil) gLen) mNil)) (.nm 2) B2_L_least_places)
def B3_L_least_places : AS :=
    (sIf (mT (m2 (m2 (mVar 1) (mVar 9) gIx) (mVar 8) gEq)) (sStore (mVar 7) (mVar 1) (mVar 9)) sNext)
def F3_L_least_places : AS := (sForI (mIL (mList (mVar 1))) (.nm 9) B3_L_least_places)
@[simp] def B4_L_least_places_2 : AS :=
    F3_L_least_places
@[simp] def B4_L_least_places_1 : AS :=
    sSeq (sPar 7 8 (mCons (mAs (mCons (mVar 5) (mCons (mVar 6) mNil)) (gBest2 false)) (mCons (mAs (mCons (mVar 5) (mCons (mVar 6) mNil)) (gBest2 true)) mNil)))
    B4_L_least_places_2
def B4_L_least_places : AS :=
    sSeq (sPar 5 6 (mCons (m2 (mVar 1) (mTup (mCons (mVar 2) (mCons (mVar 3) mNil))) gIx) (mCons (m2 (mVar 1) (m2 (mVar 4) (m2 (m2 (mVar 3) (mC (.int 1)) gAdd) (mC (.int 4)) gMod) gIx) gIx) mNil)))
    B4_L_least_places_1
def F4_L_least_places : AS := (sForI (mR1 (mCons (mC (.int 4)) mNil)) (.nm 3) B4_L_least_places)
def B5_L_least_places : AS :=
    F4_L_least_places
def F5_L_least_places : AS := (sForI (mEnum (mVar 0)) (.tp ((.nm 2) :: ((.nm 4) :: []))) B5_L_least_places)
@[simp] def b_L_least_places_3 : AS :=
    (sRet (mVar 1))
@[simp] def b_L_least_places_2 : AS :=
    sSeq F5_L_least_places
    b_L_least_places_3
@[simp] def b_L_least_places_1 : AS :=
    sSeq F2_L_least_places
    b_L_least_places_2
def b_L_least_places : AS :=
    sSeq (sSet 1 mDict0)
    b_L_least_places_1
def m_L_least_places : List D → Hd → Option (D × Hd) := mDef 10 b_L_least_places
def c_L_least_places := cN m_L_least_places
theorem con_L_least_places : Cl c_L_least_places m_L_least_places := cl_cN _
section
variable {n : Nat} {J : Nat → Nat → Sd}
abbrev LP (n : Nat) (J : Nat → Nat → Sd) (v2 v3 v4 v5 v6 v7 v8 v9 : Option D) : Ls := [some (skD n J), some (.ref 0), v2, v3, v4, v5, v6, v7, v8, v9]
theorem mk2 {v2 v3 : Nat} {w0 w1 w4 w5 w6 w7 w8 w9 : Option D} {hp : Hd} : mTup (mCons (mVar 2) (mCons (mVar 3) mNil)) [w0, w1, some (.int (v2 : Nat)), some (.int (v3 : Nat)), w4, w5, w6, w7, w8, w9] hp = some (T (pI (v2, v3)), hp) :=
  tup_of (cons_of (mVar_of rfl) (cons_of (mVar_of rfl) nil_of)) (by show 2 ≤ 1000; decide)
theorem least_begun (hn : n ≤ 92) : ∃ v2 v3, F2_L_least_places (LP n J none none none none none none none none) [.dic []] = some (.nx, LP n J v2 v3 none none none none none none, [.dic (Gd' (gLb id) (kys n))]) := by
  obtain ⟨ls', hp', e, v2, v3, rfl, rfl⟩ := sForI_pre (fi := mR1 (mCons (mAs (mCons (mVar 0) mNil) gLen) mNil)) (t := .nm 2) (b := B2_L_least_places) (gd := []) (items := List.range n) (ls := LP n J none none none none none none none none) (hp := [.dic []]) (hp1 := [.dic []]) (fun f : Nat => D.int (f : Nat))
    (fun d ls H => ∃ v2 v3, ls = LP n J v2 v3 none none none none none none ∧ H = [.dic (Gd' (gLb id) (kys d.length))])
    (mR1_nat (j := n) (cons_of (as_of (cons_of (mVar_of rfl) nil_of) gLen_sk) nil_of) (by omega)) (fun _ _ _ _ => rfl) ⟨none, none, rfl, rfl⟩ (by
      rintro d f r ls H ed ⟨v2, v3, rfl, rfl⟩
      obtain ⟨rfl, hf⟩ := range_at ed
      obtain ⟨ls', H', e, v3', rfl, rfl⟩ := sForI_pre (fi := mR1 (mCons (mC (.int 4)) mNil)) (t := .nm 3) (b := B1_L_least_places) (gd := []) (items := List.range 4) (ls := LP n J (some (.int (d.length : Nat))) v3 none none none none none none) (hp := [.dic (Gd' (gLb id) (kys d.length))]) (hp1 := [.dic (Gd' (gLb id) (kys d.length))]) (fun i : Nat => D.int (i : Nat))
        (fun q ls H => ∃ v3, ls = LP n J (some (.int (d.length : Nat))) v3 none none none none none none ∧ H = [.dic (Gd' (gLb id) (kys d.length ++ (List.range q.length).map fun i => pI (d.length, i)))])
        (mR1_nat (j := 4) rfl (by decide)) (fun _ _ _ _ => rfl) ⟨v3, rfl, by rw [List.length_nil, List.range_zero, List.map_nil, List.append_nil]⟩ (by
          rintro q i r ls H ed ⟨v3, rfl, rfl⟩
          obtain ⟨rfl, hi⟩ := range_at ed
          have nin : pI (d.length, q.length) ∉ kys d.length ++ (List.range q.length).map fun i => pI (d.length, i) := fun z => by
            rcases List.mem_append.mp z with z | z
            · obtain ⟨p, hp, e⟩ := List.mem_map.mp z
              have := (mem_sds.mp (pI_inj e ▸ hp)).1
              exact absurd this (Nat.lt_irrefl _)
            · obtain ⟨j, hj, e⟩ := List.mem_map.mp z
              have := congrArg Prod.snd (pI_inj e)
              have hj := List.mem_range.mp hj
              exact absurd hj (by show ¬ j < q.length; have : j = q.length := this; omega)
          have ll : (kys d.length ++ (List.range q.length).map fun i => pI (d.length, i)).length < sizeLine := by
            rw [List.length_append, List.length_map, sds_length, List.length_map, List.length_range, sizeLine_eq]
            omega
          have gs := gSet_Gd (hp := [.dic (Gd' (gLb id) (kys d.length ++ (List.range q.length).map fun i => pI (d.length, i)))]) (n := 0) (a := pI (d.length, q.length)) (g := gLb id) rfl nin ll
          have eg : gLb id (pI (d.length, q.length)) = T (pI (d.length, q.length)) := by
            unfold gLb
            rw [unI_pI]
            rfl
          rw [eg] at gs
          refine ⟨_, _, _, asg_nm, .inl (sStore_of mk2 (mVar_of rfl) mk2 gs), _, rfl, ?_⟩
          rw [List.length_append, List.length_singleton, List.range_succ, List.map_append, ← List.append_assoc]
          rfl)
      refine ⟨_, _, _, asg_nm, .inl e, _, _, rfl, ?_⟩
      rw [List.length_append, List.length_singleton]
      unfold kys
      rw [sds_succ, List.map_append, List.map_map, List.length_range]
      rfl)
  rw [List.length_range] at e
  exact ⟨v2, v3, e⟩
def merg (lo hi x : Sd) : Sd := if x = hi then lo else x
theorem merge_ok (hn : n ≤ 92) {L : Sd → Sd} (lo hi : Sd) (v2 v3 v4 v5 v6 v9 : Option D) : ∃ v9', F3_L_least_places (LP n J v2 v3 v4 v5 v6 (some (T (pI lo))) (some (T (pI hi))) v9) [.dic (Gd' (gLb L) (kys n))] = some (.nx, LP n J v2 v3 v4 v5 v6 (some (T (pI lo))) (some (T (pI hi))) v9', [.dic (Gd' (gLb fun p => merg lo hi (L p)) (kys n))]) := by
  have el : mList (mVar 1) (LP n J v2 v3 v4 v5 v6 (some (T (pI lo))) (some (T (pI hi))) v9) [.dic (Gd' (gLb L) (kys n))] = some ((kys n).map T, [.dic (Gd' (gLb L) (kys n))]) := by
    refine mList_ev (mVar_of (d := .ref 0) rfl) ?_
    show some ((Gd' (gLb L) (kys n)).map (·.1), _) = _
    unfold Gd'
    rw [List.map_map]
    rfl
  have ll : (kys n).length < sizeLine := by
    rw [List.length_map, sds_length, sizeLine_eq]
    omega
  obtain ⟨ls', H', e, v9', g, rfl, rfl, hg⟩ := sForI_pre (fi := mIL (mList (mVar 1))) (t := .nm 9) (b := B3_L_least_places) (gd := []) (items := kys n) (ls := LP n J v2 v3 v4 v5 v6 (some (T (pI lo))) (some (T (pI hi))) v9) (hp := [.dic (Gd' (gLb L) (kys n))]) (hp1 := [.dic (Gd' (gLb L) (kys n))]) T
    (fun d ls H => ∃ v9 g, ls = LP n J v2 v3 v4 v5 v6 (some (T (pI lo))) (some (T (pI hi))) v9 ∧ H = [.dic (Gd' g (kys n))] ∧ ∀ c ∈ kys n, g c = if c ∈ d then gLb (fun p => merg lo hi (L p)) c else gLb L c)
    (mIL_ev el) (fun _ _ _ _ => rfl) ⟨v9, gLb L, rfl, rfl, fun c _ => by rw [if_neg (by simp)]⟩ (by
      rintro d c r ls H ed ⟨v9, g, rfl, rfl, hg⟩
      have hc : c ∈ kys n := by rw [ed]; exact List.mem_append_right _ List.mem_cons_self
      have nd : c ∉ d := fun z => by
        have := kys_nodup n
        rw [ed] at this
        exact (List.nodup_append.mp this).2.2 c z c List.mem_cons_self rfl
      have gc := hg c hc
      rw [if_neg nd] at gc
      have e1 : m2 (mVar 1) (mVar 9) gIx (LP n J v2 v3 v4 v5 v6 (some (T (pI lo))) (some (T (pI hi))) (some (T c))) [.dic (Gd' g (kys n))] = some (T (pI (L (unI c))), [.dic (Gd' g (kys n))]) := by
        refine m2_ev (mVar_of (d := .ref 0) rfl) (mVar_of (d := T c) rfl) ?_
        rw [gIx_Gd (n := 0) (g := g) (cs := kys n) rfl hc, gc]
        rfl
      have t := mT_of (m2_ev (g := gEq) e1 (mVar_of (i := 8) (d := T (pI hi)) rfl) (gEq_T _ _))
      by_cases h : L (unI c) = hi
      · rw [h, beq_self_eq_true] at t
        let g' : List Int → D := fun x => if x = c then T (pI lo) else g x
        have gs := gSet_old (hp := [.dic (Gd' g (kys n))]) (n := 0) (a := c) (g := g) (g' := g') (v := T (pI lo)) rfl (kys_nodup n) hc ll (fun x _ hx => if_neg hx) (if_pos rfl)
        refine ⟨_, _, _, asg_nm, .inl (sIf_t t (sStore_of (mVar_of rfl) (mVar_of rfl) (mVar_of rfl) gs)), _, g', rfl, rfl, fun x hx => ?_⟩
        show (if x = c then T (pI lo) else g x) = _
        by_cases hxc : x = c
        · rw [if_pos hxc, if_pos (by rw [hxc]; simp)]
          show T (pI lo) = T (pI (merg lo hi (L (unI x))))
          rw [hxc]
          unfold merg
          rw [if_pos h]
        · rw [if_neg hxc, hg x hx]
          by_cases hxd : x ∈ d
          · rw [if_pos hxd, if_pos (List.mem_append_left _ hxd)]
          · rw [if_neg hxd, if_neg (by simp [hxd, hxc])]
      · rw [show (pI (L (unI c)) == pI hi) = false by rw [beq_eq_false_iff_ne]; exact fun z => h (pI_inj z)] at t
        refine ⟨_, _, _, asg_nm, .inl (sIf_f t rfl), _, g, rfl, rfl, fun x hx => ?_⟩
        rw [hg x hx]
        by_cases hxd : x ∈ d
        · rw [if_pos hxd, if_pos (List.mem_append_left _ hxd)]
        · by_cases hxc : x = c
          · rw [if_neg hxd, if_pos (by rw [hxc]; simp)]
            show T (pI (L (unI x))) = T (pI (merg lo hi (L (unI x))))
            rw [hxc]
            unfold merg
            rw [if_neg h]
          · rw [if_neg hxd, if_neg (by simp [hxd, hxc])])
  refine ⟨v9', ?_⟩
  have eg : Gd' g (kys n) = Gd' (gLb fun p => merg lo hi (L p)) (kys n) := Gd_congr fun c hc => by rw [hg c hc, if_pos hc]
  rw [eg] at e
  exact e
structure Lbl (n : Nat) (J : Nat → Nat → Sd) (L : Sd → Sd) (d : List Sd) : Prop where
  ok : ∀ p, okP n p → okP n (L p)
  sm : ∀ p, okP n p → Smc n J p (L p)
  eq : ∀ p ∈ d, L p = L (nxc J p)
theorem Lbl.step (sk : Skin n J) {L : Sd → Sd} {d : List Sd} (h : Lbl n J L d) {p lo hi : Sd} (hp : okP n p) (e : (lo = L p ∧ hi = L (nxc J p)) ∨ (lo = L (nxc J p) ∧ hi = L p)) : Lbl n J (fun q => merg lo hi (L q)) (d ++ [p]) := by
  have hq := nxc_ok sk hp
  have s0 : Smc n J p (nxc J p) := fun Q c => c p hp
  have s1 : Smc n J (L p) (L (nxc J p)) := (h.sm p hp).symm.trans (s0.trans (h.sm _ hq))
  have sl : Smc n J hi lo := by
    rcases e with ⟨e1, e2⟩ | ⟨e1, e2⟩
    · rw [e1, e2]; exact s1.symm
    · rw [e1, e2]; exact s1
  have ol : okP n lo := by
    rcases e with ⟨e1, e2⟩ | ⟨e1, e2⟩
    · rw [e1]; exact h.ok p hp
    · rw [e1]; exact h.ok _ hq
  refine ⟨fun q hq => ?_, fun q hq => ?_, fun q hq => ?_⟩
  · unfold merg
    by_cases c : L q = hi
    · rw [if_pos c]; exact ol
    · rw [if_neg c]; exact h.ok q hq
  · unfold merg
    by_cases c : L q = hi
    · rw [if_pos c]
      exact (c ▸ h.sm q hq).trans sl
    · rw [if_neg c]; exact h.sm q hq
  · rcases List.mem_append.mp hq with z | z
    · show merg lo hi (L q) = merg lo hi (L (nxc J q))
      rw [h.eq q z]
    · rw [List.mem_singleton.mp z]
      show merg lo hi (L p) = merg lo hi (L (nxc J p))
      unfold merg
      rcases e with ⟨e1, e2⟩ | ⟨e1, e2⟩
      · rw [← e1, ← e2, if_pos rfl]
        by_cases c : lo = hi
        · rw [if_pos c]
        · rw [if_neg c]
      · rw [← e1, ← e2, if_pos rfl]
        by_cases c : lo = hi
        · rw [if_pos c]
        · rw [if_neg c]
theorem place_ok (hn : n ≤ 92) (sk : Skin n J) {L : Sd → Sd} {d : List Sd} (h : Lbl n J L d) {f i : Nat} (hf : f < n) (hi : i < 4) (v5 v6 v7 v8 v9 : Option D) : ∃ L' v5' v6' v7' v8' v9', Lbl n J L' (d ++ [(f, i)]) ∧
    B4_L_least_places (LP n J (some (.int (f : Nat))) (some (.int (i : Nat))) (some (TT (rowI J f))) v5 v6 v7 v8 v9) [.dic (Gd' (gLb L) (kys n))] = some (.nx, LP n J (some (.int (f : Nat))) (some (.int (i : Nat))) (some (TT (rowI J f))) v5' v6' v7' v8' v9', [.dic (Gd' (gLb L') (kys n))]) := by
  have oq : okP n (nxc J (f, i)) := nxc_ok sk ⟨hf, hi⟩
  have mem : ∀ p, okP n p → pI p ∈ kys n := fun p hp => List.mem_map_of_mem (mem_sds.mpr hp)
  have e1 : m2 (mVar 1) (mTup (mCons (mVar 2) (mCons (mVar 3) mNil))) gIx (LP n J (some (.int (f : Nat))) (some (.int (i : Nat))) (some (TT (rowI J f))) v5 v6 v7 v8 v9) [.dic (Gd' (gLb L) (kys n))] = some (T (pI (L (f, i))), [.dic (Gd' (gLb L) (kys n))]) := by
    refine m2_ev (mVar_of (d := .ref 0) rfl) mk2 ?_
    refine (gIx_Gd (hp := [.dic (Gd' (gLb L) (kys n))]) (n := 0) (a := pI (f, i)) (g := gLb L) (cs := kys n) rfl (mem _ ⟨hf, hi⟩)).trans ?_
    unfold gLb
    rw [unI_pI]
  have em : m2 (m2 (mVar 3) (mC (.int 1)) gAdd) (mC (.int 4)) gMod (LP n J (some (.int (f : Nat))) (some (.int (i : Nat))) (some (TT (rowI J f))) v5 v6 v7 v8 v9) [.dic (Gd' (gLb L) (kys n))] = some (.int (((i + 1) % 4 : Nat) : Int), [.dic (Gd' (gLb L) (kys n))]) := by
    refine m2_ev (m2_ev (mVar_of rfl) mC_of gAdd_int) mC_of ?_
    rw [gMod_int (by decide)]
    congr 3
  have e2 : m2 (mVar 1) (m2 (mVar 4) (m2 (m2 (mVar 3) (mC (.int 1)) gAdd) (mC (.int 4)) gMod) gIx) gIx (LP n J (some (.int (f : Nat))) (some (.int (i : Nat))) (some (TT (rowI J f))) v5 v6 v7 v8 v9) [.dic (Gd' (gLb L) (kys n))] = some (T (pI (L (nxc J (f, i)))), [.dic (Gd' (gLb L) (kys n))]) := by
    refine m2_ev (mVar_of (d := .ref 0) rfl) (m2_ev (mVar_of rfl) em (gIx_row (Nat.mod_lt _ (by decide)))) ?_
    refine (gIx_Gd (hp := [.dic (Gd' (gLb L) (kys n))]) (n := 0) (a := pI (nxc J (f, i))) (g := gLb L) (cs := kys n) rfl (mem _ oq)).trans ?_
    unfold gLb
    rw [unI_pI]
  have s1 := par_of (i := 5) (j := 6) (cons_of e1 (cons_of e2 nil_of))
  obtain ⟨lo, hg, elo, ehi, hor⟩ : ∃ lo hg : Sd, gBest2 false [T (pI (L (f, i))), T (pI (L (nxc J (f, i))))] [.dic (Gd' (gLb L) (kys n))] = some (T (pI lo), [.dic (Gd' (gLb L) (kys n))]) ∧ gBest2 true [T (pI (L (f, i))), T (pI (L (nxc J (f, i))))] [.dic (Gd' (gLb L) (kys n))] = some (T (pI hg), [.dic (Gd' (gLb L) (kys n))]) ∧ ((lo = L (f, i) ∧ hg = L (nxc J (f, i))) ∨ (lo = L (nxc J (f, i)) ∧ hg = L (f, i))) := by
    have g1 := gBest2_T (hp := [.dic (Gd' (gLb L) (kys n))]) false (pI (L (f, i))) (pI (L (nxc J (f, i))))
    have g2 := gBest2_T (hp := [.dic (Gd' (gLb L) (kys n))]) true (pI (L (f, i))) (pI (L (nxc J (f, i))))
    rw [if_neg (by decide : ¬ (false = true))] at g1
    rw [if_pos rfl] at g2
    by_cases c1 : pI (L (nxc J (f, i))) < pI (L (f, i))
    · have c2 : ¬ pI (L (f, i)) < pI (L (nxc J (f, i))) := fun z => absurd (List.lt_trans c1 z) (List.lt_irrefl _)
      rw [decide_eq_true c1, if_pos rfl] at g1
      rw [decide_eq_false c2, if_neg (by decide)] at g2
      exact ⟨_, _, g1, g2, .inr ⟨rfl, rfl⟩⟩
    · rw [decide_eq_false c1, if_neg (by decide)] at g1
      by_cases c2 : pI (L (f, i)) < pI (L (nxc J (f, i)))
      · rw [decide_eq_true c2, if_pos rfl] at g2
        exact ⟨_, _, g1, g2, .inl ⟨rfl, rfl⟩⟩
      · rw [decide_eq_false c2, if_neg (by decide)] at g2
        have eq : L (f, i) = L (nxc J (f, i)) := pI_inj (List.le_antisymm (by simpa using c1) (by simpa using c2))
        exact ⟨_, _, g1, g2, .inl ⟨rfl, eq⟩⟩
  have s2 := par_of (i := 7) (j := 8) (cons_of (as_of (ls := LP n J (some (.int (f : Nat))) (some (.int (i : Nat))) (some (TT (rowI J f))) (some (T (pI (L (f, i))))) (some (T (pI (L (nxc J (f, i)))))) v7 v8 v9) (cons_of (mVar_of (i := 5) rfl) (cons_of (mVar_of (i := 6) rfl) nil_of)) elo) (cons_of (as_of (cons_of (mVar_of (i := 5) rfl) (cons_of (mVar_of (i := 6) rfl) nil_of)) ehi) nil_of))
  obtain ⟨v9', e3⟩ := merge_ok (J := J) hn (L := L) lo hg (some (.int (f : Nat))) (some (.int (i : Nat))) (some (TT (rowI J f))) (some (T (pI (L (f, i))))) (some (T (pI (L (nxc J (f, i)))))) v9
  exact ⟨_, _, _, _, _, _, h.step sk ⟨hf, hi⟩ hor, sSeq_of s1 (sSeq_of s2 e3)⟩
theorem least_told (hn : n ≤ 92) (sk : Skin n J) : ∃ L, Lbl n J L (sds n) ∧ ∀ hp : Hd, c_L_least_places [skD n J] hp = some (.ref hp.length, hp ++ [.dic (Gd' (gLb L) (kys n))]) := by
  obtain ⟨v2, v3, e1⟩ := least_begun (J := J) hn
  obtain ⟨ls', H', e2, L, w2, w3, w4, w5, w6, w7, w8, w9, rfl, rfl, lb⟩ := sForI_pre (fi := mEnum (mVar 0)) (t := .tp ((.nm 2) :: ((.nm 4) :: []))) (b := B5_L_least_places) (gd := []) (items := List.range n) (ls := LP n J v2 v3 none none none none none none) (hp := [.dic (Gd' (gLb id) (kys n))]) (hp1 := [.dic (Gd' (gLb id) (kys n))]) (fun f : Nat => D.tup [.int (f : Nat), TT (rowI J f)])
    (fun d ls H => ∃ L w2 w3 w4 w5 w6 w7 w8 w9, ls = LP n J w2 w3 w4 w5 w6 w7 w8 w9 ∧ H = [.dic (Gd' (gLb L) (kys n))] ∧ Lbl n J L (sds d.length))
    (mEnum_sk (mVar_of rfl)) (fun _ _ _ _ => rfl) ⟨id, _, _, _, _, _, _, _, _, rfl, rfl, ⟨fun _ h => h, fun _ _ => .refl _, fun p hp => by cases hp⟩⟩ (by
      rintro d f r ls H ed ⟨L, w2, w3, w4, w5, w6, w7, w8, w9, rfl, rfl, lb⟩
      obtain ⟨rfl, hf⟩ := range_at ed
      obtain ⟨ls', H', e, L', w3', w5', w6', w7', w8', w9', rfl, rfl, lb'⟩ := sForI_pre (fi := mR1 (mCons (mC (.int 4)) mNil)) (t := .nm 3) (b := B4_L_least_places) (gd := []) (items := List.range 4) (ls := LP n J (some (.int (d.length : Nat))) w3 (some (TT (rowI J d.length))) w5 w6 w7 w8 w9) (hp := [.dic (Gd' (gLb L) (kys n))]) (hp1 := [.dic (Gd' (gLb L) (kys n))]) (fun i : Nat => D.int (i : Nat))
        (fun q ls H => ∃ L w3 w5 w6 w7 w8 w9, ls = LP n J (some (.int (d.length : Nat))) w3 (some (TT (rowI J d.length))) w5 w6 w7 w8 w9 ∧ H = [.dic (Gd' (gLb L) (kys n))] ∧ Lbl n J L (sds d.length ++ (List.range q.length).map fun i => (d.length, i)))
        (mR1_nat (j := 4) rfl (by decide)) (fun _ _ _ _ => rfl) ⟨L, _, _, _, _, _, _, rfl, rfl, by rw [List.length_nil, List.range_zero, List.map_nil, List.append_nil]; exact lb⟩ (by
          rintro q i r ls H ed ⟨L, w3, w5, w6, w7, w8, w9, rfl, rfl, lb⟩
          obtain ⟨rfl, hi⟩ := range_at ed
          obtain ⟨L', v5', v6', v7', v8', v9', lb', e⟩ := place_ok hn sk lb hf hi w5 w6 w7 w8 w9
          refine ⟨_, _, _, asg_nm, .inl e, L', _, _, _, _, _, _, rfl, rfl, ?_⟩
          rw [List.length_append, List.length_singleton, List.range_succ, List.map_append, ← List.append_assoc]
          exact lb')
      refine ⟨_, _, _, rfl, .inl e, L', _, _, _, _, _, _, _, _, rfl, rfl, ?_⟩
      rw [List.length_append, List.length_singleton, sds_succ]
      rw [List.length_range] at lb'
      exact lb')
  rw [List.length_range] at lb
  refine ⟨L, lb, fun hp => cN_of (k := 0) (nrs_cons (nr_sk _ _) rfl) (def_of (sSeq_of (sSet_of (i := 1) (fa := mDict0) rfl) (sSeq_of e1 (sSeq_of (show F5_L_least_places _ _ = _ from e2) (ret_of (mVar_of rfl)))))) rfl ?_⟩
  exact nrO_Gd (fun c => nr_T _) _
theorem labels_many {L : Sd → Sd} (lb : Lbl n J L (sds n)) {Cs : List (List Sd)} (h : Crs n J Cs) : (ddp ((kys n).map fun c => pI (L (unI c)))).length = Cs.length := by
  have con : ∀ p q, okP n p → Smc n J p q → L p = L q := fun p q hp s => ((s (fun z => L p = L z) fun z hz => by
    rw [lb.eq z (mem_sds.mpr hz)]).mp rfl)
  have hd : ∀ C ∈ Cs, C.headD (0, 0) ∈ C := fun C hC => by
    obtain ⟨p, r, e⟩ := List.exists_cons_of_ne_nil (h.cy C hC).ne
    rw [e]
    exact List.mem_cons_self
  have ok : ∀ C ∈ Cs, okP n (C.headD (0, 0)) := fun C hC => (h.cy C hC).ok _ (hd C hC)
  have nd : (Cs.map fun C => pI (L (C.headD (0, 0)))).Nodup := map_nodup' h.nd fun A hA B hB e => by
    have e := pI_inj e
    have s : Smc n J (A.headD (0, 0)) (B.headD (0, 0)) := (lb.sm _ (ok A hA)).trans (e ▸ (lb.sm _ (ok B hB)).symm)
    exact pw_eq h.dis A hA B hB _ ((h.cy A hA).come (hd A hA) s) (hd B hB)
  have := (perm_same (ddp_nodup ((kys n).map fun c => pI (L (unI c)))) nd fun c => by
    rw [ddp_mem]
    constructor
    · intro hc
      obtain ⟨x, hx, rfl⟩ := List.mem_map.mp hc
      obtain ⟨p, hp, rfl⟩ := List.mem_map.mp hx
      have hp := mem_sds.mp hp
      obtain ⟨C, hC, pC⟩ := h.cov p hp
      refine List.mem_map.mpr ⟨C, hC, ?_⟩
      rw [unI_pI]
      rw [con p _ hp ((h.cy C hC).one p pC _ (hd C hC))]
    · intro hc
      obtain ⟨C, hC, rfl⟩ := List.mem_map.mp hc
      refine List.mem_map.mpr ⟨pI (C.headD (0, 0)), List.mem_map_of_mem (mem_sds.mpr (ok C hC)), ?_⟩
      rw [unI_pI]).length_eq
  rw [this, List.length_map]
@[simp] def b_L_right_2 : AS :=
    (sRet (m2 (m2 (mVar 2) (mAs (mCons (mVar 0) mNil) gLen) gSub) (m2 (mC (.int 2)) (m2 (mC (.int 2)) (mVar 1) gMul) gSub) gEq))
@[simp] def b_L_right_1 : AS :=
    sSeq (sIf (mOr (mNot (mT (mIsi "int" (mVar 1)))) (mOr (mT (mIsi "bool" (mVar 1))) (mT (m2 (mVar 1) (mC (.int 0)) gLt)))) (sRet (mC (.bl false))) sNext)
    b_L_right_2
def b_L_right : AS :=
    sSeq (sSet 2 (mLenSetFL (mListV (mAs (mCons (mVar 0) mNil) (ar 1 c_L_least_places)))))
    b_L_right_1
def m_L_right : List D → Hd → Option (D × Hd) := mDef 3 b_L_right
abbrev c_L_right := m_L_right
theorem right_ok (hn : n ≤ 92) (sk : Skin n J) {Cs : List (List Sd)} (h : Crs n J Cs) (h62 : Cs.length < 63) {p : Nat} (e : 2 + n = Cs.length + 2 * p) (hp : Hd) : ∃ hp', m_L_right [skD n J, .int (p : Nat)] hp = some (.bl true, hp') := by
  obtain ⟨L, lb, el⟩ := least_told hn sk
  have many := labels_many lb h
  have ev : mListV (mAs (mCons (mVar 0) mNil) (ar 1 c_L_least_places)) [some (skD n J), some (.int (p : Nat)), none] hp = some (((kys n).map fun c => pI (L (unI c))).map T, hp ++ [.dic (Gd' (gLb L) (kys n))]) := by
    unfold mListV
    rw [call_of (k := 1) (g := c_L_least_places) (cons_of (mVar_of (i := 0) (d := skD n J) rfl) nil_of) rfl (el hp)]
    dsimp only
    unfold gLstV
    dsimp only
    rw [hget_new]
    dsimp only
    rw [if_pos (by unfold Gd'; rw [List.length_map, List.length_map, sds_length]; omega)]
    have e1 : (Gd' (gLb L) (kys n)).map (·.2) = ((kys n).map fun c => pI (L (unI c))).map T := by
      unfold Gd'
      rw [List.map_map (l := kys n), List.map_map (l := kys n)]
      rfl
    rw [e1]
  have s1 : sSet 2 (mLenSetFL (mListV (mAs (mCons (mVar 0) mNil) (ar 1 c_L_least_places)))) (stD 3 [skD n J, .int (p : Nat)]) hp = some (.nx, [some (skD n J), some (.int (p : Nat)), some (.int (Cs.length : Nat))], hp ++ [.dic (Gd' (gLb L) (kys n))]) := by
    rw [← many]
    exact sSet_of (lenSetFL_of ev (by rw [many]; exact h62))
  have t : mOr (mNot (mT (mIsi "int" (mVar 1)))) (mOr (mT (mIsi "bool" (mVar 1))) (mT (m2 (mVar 1) (mC (.int 0)) gLt))) [some (skD n J), some (.int (p : Nat)), some (.int (Cs.length : Nat))] (hp ++ [.dic (Gd' (gLb L) (kys n))]) = some (false, hp ++ [.dic (Gd' (gLb L) (kys n))]) := by
    refine or_f rfl (or_f rfl (mT_of (m2_ev (mVar_of rfl) mC_of ?_)))
    show some (D.bl (decide (((p : Nat) : Int) < 0)), _) = _
    rw [decide_eq_false (by omega)]
  refine ⟨hp ++ [.dic (Gd' (gLb L) (kys n))], def_of (sSeq_of s1 (sSeq_of (sIf_f t rfl) (ret_of (m2_ev (m2_ev (mVar_of rfl) (as_of (cons_of (mVar_of rfl) nil_of) gLen_sk) rfl) (m2_ev mC_of (m2_ev mC_of (mVar_of rfl) (gMul_int (cMul_of (by omega)))) rfl) ?_))))⟩
  show some (D.bl (((Cs.length : Nat) : Int) - (n : Nat) == 2 - 2 * ((p : Nat) : Int)), _) = _
  rw [show (((Cs.length : Nat) : Int) - (n : Nat) == 2 - 2 * ((p : Nat) : Int)) = true by rw [beq_iff_eq]; omega]
end
end Lw
namespace Lw
open PySem PySem.Spec L2 Ve
theorem rt_seq {f g : AS} {ls ls1 : Ls} {hp hp1 : Hd} {d : D} (e : f ls hp = some (.rt d, ls1, hp1)) : sSeq f g ls hp = some (.rt d, ls1, hp1) := by
  rw [sSeq_s, e]
def stB (bs FL : List (List Int)) : List (Nat × Nat) → List Nat → Bool
  | [], _ => true
  | (i, j) :: s, r => r.contains i && ((faN bs (FL.getD i [])).contains (FL.getD j []) && stB bs FL s (j :: r))
def cycB (p : Nat → Nat) (l : List Nat) : Bool := match l with
  | [] => false
  | a :: r => (a :: r).map p == r ++ [a]
theorem cycB_ok {p : Nat → Nat} {l : List Nat} (h : cycB p l = true) : Cyc p l := by
  cases l with
  | nil => cases h
  | cons a r => exact beq_iff_eq.mp h
def lastB (bs FL : List (List Int)) : Bool := bs.all fun m => (bs.any fun q => decide (m < q)) || FL.contains (m ++ [0])
structure KnP (bs FL : List (List Int)) (steps : List (Nat × Nat)) (C : List (List Nat)) : Prop where
  hF : FC bs bs = FL
  three : ∀ c ∈ bs, c.length = 3
  nd : bs.Nodup
  len : bs.length ≤ 30
  neb : bs ≠ []
  ne : FL ≠ []
  few : FL.length ≤ 92
  hash : (FL.map hshI).Nodup
  up : FL.Pairwise (· < ·)
  ok : stB bs FL steps [0] = true
  all : (0 :: steps.map (·.2)).Perm (List.range FL.length)
  cyc : (C.all fun l => cycB (nxN (skJ bs FL)) l) = true
  pm : C.flatten.Perm (List.range (4 * FL.length))
  mx : lastB bs FL = true
theorem stB_in {bs FL S : List (List Int)} (cl : ∀ a ∈ S, ∀ b ∈ faN bs a, b ∈ S) : ∀ (steps : List (Nat × Nat)) (r : List Nat), stB bs FL steps r = true → (∀ i ∈ r, FL.getD i [] ∈ S) → ∀ j ∈ steps.map (·.2), FL.getD j [] ∈ S
  | [], _, _, _, j, hj => by cases hj
  | (i, j0) :: s, r, h, hr, j, hj => by
    rw [stB, Bool.and_eq_true, Bool.and_eq_true] at h
    have hi := hr i (by simpa using h.1)
    have hj0 : FL.getD j0 [] ∈ S := cl _ hi _ (by simpa using h.2.1)
    rw [List.map_cons] at hj
    rcases List.mem_cons.mp hj with z | z
    · rw [z]; exact hj0
    · exact stB_in cl s (j0 :: r) h.2.2 (fun k hk => by
        rcases List.mem_cons.mp hk with y | y
        · rw [y]; exact hj0
        · exact hr k y) j z
theorem KnP.t3 {bs FL : List (List Int)} {steps : List (Nat × Nat)} {C : List (List Nat)} (k : KnP bs FL steps C) : Three bs := fun c hc => by
  have l := k.three c hc
  match c, l with
  | [x, y, z], _ => exact ⟨x, y, z, rfl⟩
theorem KnP.told {bs FL : List (List Int)} {steps : List (Nat × Nat)} {C : List (List Nat)} (k : KnP bs FL steps C) (hp : Hd) : ∃ (rs : List D), c_parts [.tup (bs.map T)] hp = some (.ref hp.length, hp ++ [.lst rs]) ∧ rs[0]? = some (.tup [.tup (FL.map T), skD FL.length (skJ bs FL)]) ∧ Skin FL.length (skJ bs FL) := by
  have h3 := k.t3
  obtain ⟨rs, e, f, cs, pt, g0, g⟩ := parts_okX h3 k.nd k.len (by rw [k.hF]; exact k.ne) (by rw [k.hF]; exact k.hash) hp
  have sub : ∀ a ∈ cs, a ∈ FL := fun a ha => by rw [← k.hF]; exact pt.sub a ha
  have f0 : FL.getD 0 [] ∈ cs := by
    rw [k.hF] at g0
    rw [List.getD_eq_getElem?_getD, g0]
    exact pt.first
  have all : ∀ a ∈ FL, a ∈ cs := fun a ha => by
    obtain ⟨i, hi, e⟩ := List.getElem_of_mem ha
    have ea : FL.getD i [] = a := by rw [List.getD_eq_getElem?_getD, List.getElem?_eq_getElem hi, e]; rfl
    have := k.all.mem_iff.mpr (List.mem_range.mpr hi)
    rcases List.mem_cons.mp this with z | z
    · rw [← ea, z]; exact f0
    · rw [← ea]
      exact stB_in pt.cl steps [0] k.ok (fun j hj => by rw [List.mem_singleton.mp hj]; exact f0) i z
  have eS : sortC cs = FL := sorted_one (sortC_lt pt.nd) k.up fun c => by
    rw [(sortC_perm cs).mem_iff]
    exact ⟨sub c, all c⟩
  have sk := skJ_skin h3 pt (sortC_perm cs)
  rw [eS] at g sk
  exact ⟨rs, e, g, sk⟩
theorem KnP.sys {bs FL : List (List Int)} {steps : List (Nat × Nat)} {C : List (List Nat)} (k : KnP bs FL steps C) : Sys (4 * FL.length) (nxN (skJ bs FL)) C := ⟨fun l hl => cycB_ok (List.all_eq_true.mp k.cyc l hl), k.pm⟩
def E1_outer : AE :=
    (mVar 5)
def C1_outer : AA :=
    (mLc (mIS (mVar 0)) (.nm 5) [5] tYesD E1_outer)
def B1_outer : AS :=
    (sIf (mT (m2 (m2 (mVar 1) (mTup (mCons (mC (.int 0)) mNil)) gAdd) (mVar 3) gIn)) (sRet (mVar 2)) sNext)
def F1_outer : AS := (sForI (mEnum (mAs (mCons (mVar 0) mNil) (ar 1 c_parts))) (.tp ((.nm 2) :: ((.tp ((.nm 3) :: ((.nm 4) :: []))) :: []))) B1_outer)
@[simp] def b_outer_2 : AS :=
    (sRet (mC .non))
@[simp] def b_outer_1 : AS :=
    sSeq F1_outer
    b_outer_2
def b_outer : AS :=
    sSeq (sSet 1 (mL C1_outer (gBestL true)))
    b_outer_1
def m_outer : List D → Hd → Option (D × Hd) := mDef 6 b_outer
def c_outer := cV m_outer
theorem con_outer : Cl c_outer m_outer := cl_cV _
theorem enum_ref9 {fa : AE} {ls : Ls} {hp hp1 : Hd} {q : Nat} {ds : List D} (e : fa ls hp = some (.ref q, hp1)) (h : hp1[q]? = some (.lst ds)) : mEnum fa ls hp = some (enumD ds, [(q, ds)], hp1) := by
  unfold mEnum
  rw [e]
  show (match seqOfL (.ref q) hp1 with
    | _ => _) = _
  first | rfl | (unfold seqOfL lstOf; simp only [h])
theorem KnP.outer {bs FL : List (List Int)} {steps : List (Nat × Nat)} {C : List (List Nat)} (k : KnP bs FL steps C) (hp : Hd) : c_outer [.tup (bs.map T)] hp = some (.int (0 : Nat), hp) := by
  obtain ⟨rs, e, g, _⟩ := k.told []
  obtain ⟨r0, rest, rfl⟩ : ∃ r0 rest, rs = r0 :: rest := by
    cases rs with
    | nil => cases g
    | cons a b => exact ⟨a, b, rfl⟩
  cases g
  obtain ⟨m, hm, hg, em⟩ := gBestL_TI true k.neb
  have inl : m ++ [0] ∈ FL := by
    have := List.all_eq_true.mp k.mx m hm
    rcases Bool.or_eq_true _ _ ▸ this with z | z
    · obtain ⟨q, hq, hlt⟩ := List.any_eq_true.mp z
      have := hg q hq
      rw [if_pos rfl] at this
      exact absurd (of_decide_eq_true hlt) this
    · simpa using z
  have el : C1_outer [some (.tup (bs.map T)), none, none, none, none, none] [] = some (bs.map T, []) := by
    have := mLc_typed (fi := mIS (mVar 0)) (t := .nm 5) (own := [5]) (tt := tYesD) (te := E1_outer) (ls := [some (.tup (bs.map T)), none, none, none, none, none]) (hp := []) (hp1 := []) (gd := []) T bs (fun _ => true) T (mIS_tup (mVar_of rfl)) (by rw [sizeLine_eq]; have := k.len; omega) rfl (fun c _ => ⟨_, asg_nm, rfl, fun _ => mVar_of rfl⟩)
    rw [List.filter_eq_self.mpr fun _ _ => rfl] at this
    exact this
  have s1 : sSet 1 (mL C1_outer (gBestL true)) [some (.tup (bs.map T)), none, none, none, none, none] [] = some (.nx, [some (.tup (bs.map T)), some (T m), none, none, none, none], []) := sSet_of ((mL_of el).trans (em []))
  obtain ⟨m1, m2', m3, rfl⟩ := k.t3 m hm
  have ei := enum_ref9 (call_of (k := 1) (g := c_parts) (ls := [some (.tup (bs.map T)), some (T [m1, m2', m3]), none, none, none, none]) (cons_of (mVar_of (i := 0) rfl) nil_of) rfl e) (hget_new (hp := []))
  have loop := sForI_may (t := .tp ((.nm 2) :: ((.tp ((.nm 3) :: ((.nm 4) :: []))) :: []))) (b := B1_outer) (fun d : D => d) (fun d ls H => d = [] ∧ ls = [some (.tup (bs.map T)), some (T [m1, m2', m3]), none, none, none, none] ∧ H = [] ++ [.lst (D.tup [.tup (FL.map T), skD FL.length (skJ bs FL)] :: rest)]) (fun v _ => v = .int (0 : Nat)) (by rw [List.map_id']; exact ei) (fun d ls H ⟨_, _, h⟩ => by rw [h]; exact gdOk1 rfl) ⟨rfl, rfl, rfl⟩ (by
    rintro d x r ls H ed ⟨rfl, rfl, rfl⟩
    have ex : x = .tup [.int (0 : Nat), .tup [.tup (FL.map T), skD FL.length (skJ bs FL)]] := by
      have := congrArg (·[0]?) ed
      exact (Option.some.inj this).symm
    rw [ex]
    have t : mT (m2 (m2 (mVar 1) (mTup (mCons (mC (.int 0)) mNil)) gAdd) (mVar 3) gIn) [some (.tup (bs.map T)), some (T [m1, m2', m3]), some (.int (0 : Nat)), some (.tup (FL.map T)), some (skD FL.length (skJ bs FL)), none] ([] ++ [.lst (D.tup [.tup (FL.map T), skD FL.length (skJ bs FL)] :: rest)]) = some (true, [] ++ [.lst (D.tup [.tup (FL.map T), skD FL.length (skJ bs FL)] :: rest)]) := by
      refine mT_of (m2_ev (m2_ev (mVar_of rfl) (tup_of (cons_of mC_of nil_of) (by show 1 ≤ 1000; decide)) (gAdd_T1 0 (by show 3 ≤ 10000; decide))) (mVar_of rfl) ?_)
      rw [gIn_tup, decide_eq_true inl]
    exact ⟨[some (.tup (bs.map T)), some (T [m1, m2', m3]), some (.int (0 : Nat)), some (.tup (FL.map T)), some (skD FL.length (skJ bs FL)), none], _, _, rfl, .inr ⟨_, sIf_t t (ret_of (mVar_of rfl)), rfl⟩⟩)
  rcases loop with ⟨ls', H', _, z, _⟩ | ⟨v, ls', H', el, rfl⟩
  · cases z
  · exact cV_of (nrs_tTs _) (def_of (sSeq_of s1 (rt_seq (show F1_outer _ _ = _ from el)))) rfl
def pltC (h : Nat) : List (List Int) := (List.range (2 * h + 1 + (if h = 0 then 1 else 0))).flatMap fun x : Nat => ((List.range 3).filter fun y => x % 2 == 0 || y != 1).map fun y : Nat => [(x : Int), (y : Int), 0]
def exC (e : Nat) : List (List Int) := if e = 0 then [] else [[0, 2 * ((e - 1 : Nat) : Int), 1]]
def E1_L_plate : AE :=
    (mTup (mCons (mVar 3) (mCons (mVar 4) (mCons (mC (.int 0)) mNil))))
def C1_L_plate : AA :=
    (mLc (mR1 (mCons (mC (.int 3)) mNil)) (.nm 4) [4] (mOr (mT (m2 (m2 (mVar 3) (mC (.int 2)) gMod) (mC (.int 0)) gEq)) (mT (m2 (mVar 4) (mC (.int 1)) gNe))) E1_L_plate)
def B1_L_plate : AS :=
    (sDrop (mExt (mVar 2) C1_L_plate))
def F1_L_plate : AS := (sForI (mR1 (mCons (m2 (m2 (m2 (mC (.int 2)) (mVar 1) gMul) (mC (.int 1)) gAdd) (mAs (mCons (m2 (mVar 1) (mC (.int 0)) gEq) mNil) gInt) gAdd) mNil)) (.nm 3) B1_L_plate)
@[simp] def b_L_plate_3 : AS :=
    (sRet (mL (mSorted (mVar 2)) gTup))
@[simp] def b_L_plate_2 : AS :=
    sSeq (sIf (mT (m2 (mAs (mCons (mVar 0) (mCons (mC (.int 2)) mNil)) (ar 2 c_L_take)) (mC (.int 0)) gEq)) (sDrop (mMet isL (mVar 2) (mCons (mTup (mCons (mC (.int 0)) (mCons (m2 (mC (.int 2)) (mAs (mCons (mVar 0) (mCons (mC (.int 2)) mNil)) (ar 2 c_L_take)) gMul) (mCons (mC (.int 1)) mNil)))) mNil) gAppend)) sNext)
    b_L_plate_3
@[simp] def b_L_plate_1 : AS :=
    sSeq F1_L_plate
    b_L_plate_2
def b_L_plate : AS :=
    sSeq (sSet 2 (mNew (mLst mNil)))
    b_L_plate_1
def m_L_plate : List D → Hd → Option (D × Hd) := mDef 5 b_L_plate
def c_L_plate := c1V m_L_plate
theorem con_L_plate : Cl c_L_plate m_L_plate := cl_c1V _
theorem plate_loop {h : Nat} (hh : h < 5) (o : O) : ∃ v3, F1_L_plate [some (.ref 0), some (.int (h : Nat)), some (.ref 1), none, none] [o, .lst []] = some (.nx, [some (.ref 0), some (.int (h : Nat)), some (.ref 1), v3, none], [o, .lst ((pltC h).map T)]) := by
  match h, hh with
  | 0, _ => exact ⟨some (.int 1), by kernel_rfl⟩
  | 1, _ => exact ⟨some (.int 2), by kernel_rfl⟩
  | 2, _ => exact ⟨some (.int 4), by kernel_rfl⟩
  | 3, _ => exact ⟨some (.int 6), by kernel_rfl⟩
  | 4, _ => exact ⟨some (.int 8), by kernel_rfl⟩
theorem plt_len : ((List.range 5).all fun h => decide ((pltC h).length ≤ 40)) = true := by decide +kernel
theorem pltC_3 {h : Nat} : ∀ c ∈ pltC h, c ≠ [] := fun c hc => by
  obtain ⟨x, _, hc⟩ := List.mem_flatMap.mp hc
  obtain ⟨y, _, rfl⟩ := List.mem_map.mp hc
  exact fun z => by cases z
theorem plate_run (N : Nat) (hN : N + 10 < 1000000) (o : O) (ho : Hand N o) {h : Nat} (hh : h < 5) : ∃ (e : Nat) (o' : O) (g : Hd), e < 3 ∧ m_L_plate [.ref 0, .int (h : Nat)] [o] = some (.tup ((sortC (pltC h ++ exC e)).map T), o' :: g) ∧ Hand (N + 2) o' := by
  have s1 : sSet 2 (mNew (mLst mNil)) (stD 5 [.ref 0, .int (h : Nat)]) [o] = some (.nx, [some (.ref 0), some (.int (h : Nat)), some (.ref 1), none, none], [o, .lst []]) := rfl
  obtain ⟨v3, s2⟩ := plate_loop hh o
  obtain ⟨w, o1, e1, w0, w2, h1⟩ := take_ok N (by omega) [o, .lst ((pltC h).map T)] 0 o rfl ho 2 (by decide) (by decide)
  have t3 : mT (m2 (mAs (mCons (mVar 0) (mCons (mC (.int 2)) mNil)) (ar 2 c_L_take)) (mC (.int 0)) gEq) [some (.ref 0), some (.int (h : Nat)), some (.ref 1), v3, none] [o, .lst ((pltC h).map T)] = some (w == 0, [o1, .lst ((pltC h).map T)]) := mT_of (m2_ev (call_of (cons_of (mVar_of rfl) (cons_of mC_of nil_of)) rfl e1) mC_of rfl)
  have fin : ∀ (o2 : O) (e : Nat), mL (mSorted (mVar 2)) gTup [some (.ref 0), some (.int (h : Nat)), some (.ref 1), v3, none] [o2, .lst ((pltC h ++ exC e).map T)] = some (.tup ((sortC (pltC h ++ exC e)).map T), [o2, .lst ((pltC h ++ exC e).map T)]) := fun o2 e => by
    refine (mL_of (ds := (sortC (pltC h ++ exC e)).map T) (mSorted_of (mVar_of rfl) (gSrtO_lst (n := 1) rfl fun c hc => ?_))).trans rfl
    rcases List.mem_append.mp hc with z | z
    · exact pltC_3 c z
    · unfold exC at z
      by_cases q : e = 0
      · rw [if_pos q] at z; cases z
      · rw [if_neg q] at z
        rw [List.mem_singleton.mp z]
        exact fun z => by cases z
  by_cases c0 : w = 0
  · rw [show (w == 0) = true by rw [c0]; rfl] at t3
    obtain ⟨w', o2, e2, w0', w2', h2⟩ := take_ok (N + 1) (by omega) [o1, .lst ((pltC h).map T)] 0 o1 rfl h1 2 (by decide) (by decide)
    have e3 : mTup (mCons (mC (.int 0)) (mCons (m2 (mC (.int 2)) (mAs (mCons (mVar 0) (mCons (mC (.int 2)) mNil)) (ar 2 c_L_take)) gMul) (mCons (mC (.int 1)) mNil))) [some (.ref 0), some (.int (h : Nat)), some (.ref 1), v3, none] [o1, .lst ((pltC h).map T)] = some (T [0, 2 * w', 1], [o2, .lst ((pltC h).map T)]) :=
      tup_of (cons_of mC_of (cons_of (m2_ev mC_of (call_of (cons_of (mVar_of rfl) (cons_of mC_of nil_of)) rfl e2) (gMul_int (cMul_of (.inl (by omega))))) (cons_of mC_of nil_of))) (by show 3 ≤ 1000; decide)
    have ee : (w'.toNat + 1) < 3 := by omega
    have ex : exC (w'.toNat + 1) = [[0, 2 * w', 1]] := by
      unfold exC
      rw [if_neg (by omega), show ((w'.toNat + 1 - 1 : Nat) : Int) = w' by omega]
    have hl : ((pltC h).map T).length ≤ 100000 := by
      rw [List.length_map]
      have := List.all_eq_true.mp plt_len h (List.mem_range.mpr hh)
      have := of_decide_eq_true this
      omega
    have ga := gAppend_of (hp := [o2, .lst ((pltC h).map T)]) (n := 1) (xs := (pltC h).map T) (d := T [0, 2 * w', 1]) rfl (by omega)
    have s4 := sDrop_of (met_of (ck := isL) (mVar_of (i := 2) (d := .ref 1) (ls := [some (.ref 0), some (.int (h : Nat)), some (.ref 1), v3, none]) (hp := [o1, .lst ((pltC h).map T)]) rfl) rfl (cons_of e3 nil_of) ga)
    have ea : (pltC h).map T ++ [T [0, 2 * w', 1]] = (pltC h ++ exC (w'.toNat + 1)).map T := by rw [ex, List.map_append]; rfl
    rw [ea] at s4
    exact ⟨w'.toNat + 1, o2, _, ee, def_of (sSeq_of s1 (sSeq_of s2 (sSeq_of (sIf_t t3 s4) (ret_of (fin o2 _))))), h2⟩
  · rw [show (w == 0) = false by rw [beq_eq_false_iff_ne]; exact c0] at t3
    have := fin o1 0
    rw [show exC 0 = [] from rfl, List.append_nil] at this
    exact ⟨0, o1, _, by decide, def_of (sSeq_of s1 (sSeq_of s2 (sSeq_of (sIf_f t3 rfl) (ret_of (by rw [show exC 0 = [] from rfl, List.append_nil]; exact this))))), h1.mono (by omega)⟩
theorem plate_ok (N : Nat) (hN : N + 10 < 1000000) (hp : Hd) (n : Nat) (o : O) (e : hp[n]? = some o) (ho : Hand N o) {h : Nat} (hh : h < 5) : ∃ (e : Nat) (o' : O), e < 3 ∧ c_L_plate [.ref n, .int (h : Nat)] hp = some (.tup ((sortC (pltC h ++ exC e)).map T), hp.set n o') ∧ Hand (N + 2) o' := by
  obtain ⟨e', o', g, he, em, h'⟩ := plate_run N hN o ho hh
  exact ⟨e', o', he, c1V_of e rfl ho.nr em (nr_tTs _) h'.nr, h'⟩
theorem sortC_is {l bs : List (List Int)} (h : l.Perm bs) (s : bs.Pairwise (· < ·)) : sortC l = bs := (sortC_eq_of_perm h).trans (sortC_self (s.imp fun h => List.le_of_lt h))
end Lw
namespace Lw
open PySem PySem.Spec L2 Ve
theorem kp_00 : KnP [[0, 0, 0], [0, 1, 0], [0, 2, 0], [1, 0, 0], [1, 2, 0]] [[0, 0, 0, 1], [0, 0, 0, 3], [0, 0, 0, 4], [0, 0, 0, 5], [0, 1, 0, 0], [0, 1, 0, 1], [0, 1, 0, 4], [0, 1, 0, 5], [0, 2, 0, 1], [0, 2, 0, 2], [0, 2, 0, 4], [0, 2, 0, 5], [1, 0, 0, 0], [1, 0, 0, 2], [1, 0, 0, 3], [1, 0, 0, 4], [1, 0, 0, 5], [1, 2, 0, 0], [1, 2, 0, 2], [1, 2, 0, 3], [1, 2, 0, 4], [1, 2, 0, 5]] [(0, 2), (0, 5), (0, 3), (0, 1), (2, 15), (2, 6), (5, 8), (5, 7), (3, 16), (1, 14), (15, 12), (15, 13), (6, 4), (6, 10), (8, 9), (8, 11), (4, 19), (10, 20), (9, 18), (11, 21), (19, 17)] [[0, 23, 26, 9], [1, 15, 30, 22], [2, 6, 14], [3, 10, 5], [4, 11, 62, 57], [7, 58, 66, 13], [8, 27, 17, 55, 61], [12, 67, 54, 18, 29], [16, 24, 43, 82, 77], [19, 78, 86, 45, 28], [20, 35, 42, 25], [21, 31, 46, 34], [32, 39, 41], [33, 47, 38], [36, 75, 81, 40], [37, 44, 87, 74], [48, 60, 52], [49, 56, 63], [50, 65, 59], [51, 53, 64], [68, 80, 72], [69, 76, 83], [70, 85, 79], [71, 73, 84]] := ⟨by decide +kernel, by decide +kernel, by decide +kernel, by decide +kernel, by decide +kernel, by decide +kernel, by decide +kernel, by decide +kernel, by decide +kernel, by decide +kernel, by decide +kernel, by decide +kernel, by decide +kernel, by decide +kernel⟩
theorem ks_00 : ∃ FL steps C, KnP (sortC (pltC 0 ++ exC 0)) FL steps C ∧ 2 + FL.length = C.length + 2 * 0 ∧ (0 ≤ 2 → C.length < 63) := by
  rw [sortC_is (l := pltC 0 ++ exC 0) (bs := [[0, 0, 0], [0, 1, 0], [0, 2, 0], [1, 0, 0], [1, 2, 0]]) (by decide +kernel) (by decide +kernel)]
  exact ⟨_, _, _, kp_00, by decide, by decide⟩
end Lw
namespace Lw
open PySem PySem.Spec L2 Ve
theorem kp_01 : KnP [[0, 0, 0], [0, 0, 1], [0, 1, 0], [0, 2, 0], [1, 0, 0], [1, 2, 0]] [[0, 0, 0, 1], [0, 0, 0, 3], [0, 0, 0, 5], [0, 0, 1, 0], [0, 0, 1, 1], [0, 0, 1, 2], [0, 0, 1, 3], [0, 0, 1, 4], [0, 1, 0, 0], [0, 1, 0, 1], [0, 1, 0, 4], [0, 1, 0, 5], [0, 2, 0, 1], [0, 2, 0, 2], [0, 2, 0, 4], [0, 2, 0, 5], [1, 0, 0, 0], [1, 0, 0, 2], [1, 0, 0, 3], [1, 0, 0, 4], [1, 0, 0, 5], [1, 2, 0, 0], [1, 2, 0, 2], [1, 2, 0, 3], [1, 2, 0, 4], [1, 2, 0, 5]] [(0, 4), (0, 9), (0, 2), (0, 1), (4, 7), (4, 5), (4, 6), (9, 10), (9, 12), (9, 11), (2, 20), (1, 18), (7, 3), (10, 8), (10, 14), (12, 13), (12, 15), (20, 17), (20, 16), (18, 19), (8, 23), (14, 24), (13, 22), (15, 25), (23, 21)] [[0, 39, 42, 22, 17], [1, 11, 46, 38], [2, 6, 10], [3, 18, 26, 5], [4, 27, 14, 78, 73], [7, 74, 82, 9], [8, 83, 70, 34, 45], [12, 28, 20], [13, 24, 31], [15, 21, 43, 33, 71, 77], [16, 23, 29], [19, 30, 25], [32, 40, 59, 98, 93], [35, 94, 102, 61, 44], [36, 51, 58, 41], [37, 47, 62, 50], [48, 55, 57], [49, 63, 54], [52, 91, 97, 56], [53, 60, 103, 90], [64, 76, 68], [65, 72, 79], [66, 81, 75], [67, 69, 80], [84, 96, 88], [85, 92, 99], [86, 101, 95], [87, 89, 100]] := ⟨by decide +kernel, by decide +kernel, by decide +kernel, by decide +kernel, by decide +kernel, by decide +kernel, by decide +kernel, by decide +kernel, by decide +kernel, by decide +kernel, by decide +kernel, by decide +kernel, by decide +kernel, by decide +kernel⟩
theorem ks_01 : ∃ FL steps C, KnP (sortC (pltC 0 ++ exC 1)) FL steps C ∧ 2 + FL.length = C.length + 2 * 0 ∧ (0 ≤ 2 → C.length < 63) := by
  rw [sortC_is (l := pltC 0 ++ exC 1) (bs := [[0, 0, 0], [0, 0, 1], [0, 1, 0], [0, 2, 0], [1, 0, 0], [1, 2, 0]]) (by decide +kernel) (by decide +kernel)]
  exact ⟨_, _, _, kp_01, by decide, by decide⟩
end Lw
namespace Lw
open PySem PySem.Spec L2 Ve
theorem kp_02 : KnP [[0, 0, 0], [0, 1, 0], [0, 2, 0], [0, 2, 1], [1, 0, 0], [1, 2, 0]] [[0, 0, 0, 1], [0, 0, 0, 3], [0, 0, 0, 4], [0, 0, 0, 5], [0, 1, 0, 0], [0, 1, 0, 1], [0, 1, 0, 4], [0, 1, 0, 5], [0, 2, 0, 1], [0, 2, 0, 2], [0, 2, 0, 5], [0, 2, 1, 0], [0, 2, 1, 1], [0, 2, 1, 2], [0, 2, 1, 3], [0, 2, 1, 4], [1, 0, 0, 0], [1, 0, 0, 2], [1, 0, 0, 3], [1, 0, 0, 4], [1, 0, 0, 5], [1, 2, 0, 0], [1, 2, 0, 2], [1, 2, 0, 3], [1, 2, 0, 4], [1, 2, 0, 5]] [(0, 2), (0, 5), (0, 3), (0, 1), (2, 19), (2, 6), (5, 8), (5, 7), (3, 20), (1, 18), (19, 16), (19, 17), (6, 4), (6, 14), (8, 12), (8, 9), (8, 10), (4, 23), (14, 11), (14, 15), (12, 13), (9, 22), (10, 25), (23, 21), (23, 24)] [[0, 23, 26, 9], [1, 15, 30, 22], [2, 6, 14], [3, 10, 5], [4, 11, 78, 73], [7, 74, 82, 13], [8, 27, 17, 71, 77], [12, 83, 70, 18, 29], [16, 24, 59, 46, 98, 93], [19, 94, 102, 41, 28], [20, 35, 50, 58, 25], [21, 31, 42, 34], [32, 39, 54, 49], [33, 43, 38], [36, 91, 97, 47, 53], [37, 40, 103, 90], [44, 60, 52], [45, 56, 63], [48, 55, 61], [51, 62, 57], [64, 76, 68], [65, 72, 79], [66, 81, 75], [67, 69, 80], [84, 96, 88], [85, 92, 99], [86, 101, 95], [87, 89, 100]] := ⟨by decide +kernel, by decide +kernel, by decide +kernel, by decide +kernel, by decide +kernel, by decide +kernel, by decide +kernel, by decide +kernel, by decide +kernel, by decide +kernel, by decide +kernel, by decide +kernel, by decide +kernel, by decide +kernel⟩
theorem ks_02 : ∃ FL steps C, KnP (sortC (pltC 0 ++ exC 2)) FL steps C ∧ 2 + FL.length = C.length + 2 * 0 ∧ (0 ≤ 2 → C.length < 63) := by
  rw [sortC_is (l := pltC 0 ++ exC 2) (bs := [[0, 0, 0], [0, 1, 0], [0, 2, 0], [0, 2, 1], [1, 0, 0], [1, 2, 0]]) (by decide +kernel) (by decide +kernel)]
  exact ⟨_, _, _, kp_02, by decide, by decide⟩
end Lw
namespace Lw
open PySem PySem.Spec L2 Ve
theorem kp_10 : KnP [[0, 0, 0], [0, 1, 0], [0, 2, 0], [1, 0, 0], [1, 2, 0], [2, 0, 0], [2, 1, 0], [2, 2, 0]] [[0, 0, 0, 1], [0, 0, 0, 3], [0, 0, 0, 4], [0, 0, 0, 5], [0, 1, 0, 0], [0, 1, 0, 1], [0, 1, 0, 4], [0, 1, 0, 5], [0, 2, 0, 1], [0, 2, 0, 2], [0, 2, 0, 4], [0, 2, 0, 5], [1, 0, 0, 2], [1, 0, 0, 3], [1, 0, 0, 4], [1, 0, 0, 5], [1, 2, 0, 2], [1, 2, 0, 3], [1, 2, 0, 4], [1, 2, 0, 5], [2, 0, 0, 0], [2, 0, 0, 3], [2, 0, 0, 4], [2, 0, 0, 5], [2, 1, 0, 0], [2, 1, 0, 1], [2, 1, 0, 4], [2, 1, 0, 5], [2, 2, 0, 0], [2, 2, 0, 2], [2, 2, 0, 4], [2, 2, 0, 5]] [(0, 2), (0, 5), (0, 3), (0, 1), (2, 14), (2, 6), (5, 8), (5, 7), (3, 15), (1, 13), (14, 22), (14, 12), (6, 4), (6, 10), (8, 9), (8, 11), (15, 23), (13, 21), (22, 20), (22, 26), (12, 25), (4, 17), (10, 18), (9, 16), (11, 19), (23, 27), (20, 24), (26, 30), (16, 29), (19, 31), (24, 28)] [[0, 23, 26, 9], [1, 15, 30, 22], [2, 6, 14], [3, 10, 5], [4, 11, 58, 53], [7, 54, 62, 13], [8, 27, 17, 51, 57], [12, 63, 50, 18, 29], [16, 24, 43, 74, 69], [19, 70, 78, 45, 28], [20, 35, 42, 25], [21, 31, 46, 34], [32, 39, 41], [33, 47, 38], [36, 67, 73, 40], [37, 44, 79, 66], [48, 103, 106, 89, 56], [49, 60, 95, 110, 102], [52, 59, 90, 85], [55, 86, 94, 61], [64, 119, 121, 72], [65, 76, 127, 118], [68, 75, 122, 105, 100], [71, 101, 111, 126, 77], [80, 88, 107, 97], [81, 84, 91], [82, 93, 87], [83, 98, 109, 92], [96, 104, 123, 113], [99, 114, 125, 108], [112, 120, 116], [115, 117, 124]] := ⟨by decide +kernel, by decide +kernel, by decide +kernel, by decide +kernel, by decide +kernel, by decide +kernel, by decide +kernel, by decide +kernel, by decide +kernel, by decide +kernel, by decide +kernel, by decide +kernel, by decide +kernel, by decide +kernel⟩
theorem ks_10 : ∃ FL steps C, KnP (sortC (pltC 1 ++ exC 0)) FL steps C ∧ 2 + FL.length = C.length + 2 * 1 ∧ (1 ≤ 2 → C.length < 63) := by
  rw [sortC_is (l := pltC 1 ++ exC 0) (bs := [[0, 0, 0], [0, 1, 0], [0, 2, 0], [1, 0, 0], [1, 2, 0], [2, 0, 0], [2, 1, 0], [2, 2, 0]]) (by decide +kernel) (by decide +kernel)]
  exact ⟨_, _, _, kp_10, by decide, by decide⟩
end Lw
namespace Lw
open PySem PySem.Spec L2 Ve
theorem kp_11 : KnP [[0, 0, 0], [0, 0, 1], [0, 1, 0], [0, 2, 0], [1, 0, 0], [1, 2, 0], [2, 0, 0], [2, 1, 0], [2, 2, 0]] [[0, 0, 0, 1], [0, 0, 0, 3], [0, 0, 0, 5], [0, 0, 1, 0], [0, 0, 1, 1], [0, 0, 1, 2], [0, 0, 1, 3], [0, 0, 1, 4], [0, 1, 0, 0], [0, 1, 0, 1], [0, 1, 0, 4], [0, 1, 0, 5], [0, 2, 0, 1], [0, 2, 0, 2], [0, 2, 0, 4], [0, 2, 0, 5], [1, 0, 0, 2], [1, 0, 0, 3], [1, 0, 0, 4], [1, 0, 0, 5], [1, 2, 0, 2], [1, 2, 0, 3], [1, 2, 0, 4], [1, 2, 0, 5], [2, 0, 0, 0], [2, 0, 0, 3], [2, 0, 0, 4], [2, 0, 0, 5], [2, 1, 0, 0], [2, 1, 0, 1], [2, 1, 0, 4], [2, 1, 0, 5], [2, 2, 0, 0], [2, 2, 0, 2], [2, 2, 0, 4], [2, 2, 0, 5]] [(0, 4), (0, 9), (0, 2), (0, 1), (4, 7), (4, 5), (4, 6), (9, 10), (9, 12), (9, 11), (2, 19), (1, 17), (7, 3), (10, 8), (10, 14), (12, 13), (12, 15), (19, 16), (19, 27), (17, 25), (17, 18), (8, 21), (14, 22), (13, 20), (15, 23), (16, 29), (27, 31), (27, 24), (25, 26), (22, 34), (20, 33), (23, 35), (29, 30), (31, 28), (34, 32)] [[0, 39, 42, 22, 17], [1, 11, 46, 38], [2, 6, 10], [3, 18, 26, 5], [4, 27, 14, 74, 69], [7, 70, 78, 9], [8, 79, 66, 34, 45], [12, 28, 20], [13, 24, 31], [15, 21, 43, 33, 67, 73], [16, 23, 29], [19, 30, 25], [32, 40, 59, 90, 85], [35, 86, 94, 61, 44], [36, 51, 58, 41], [37, 47, 62, 50], [48, 55, 57], [49, 63, 54], [52, 83, 89, 56], [53, 60, 95, 82], [64, 119, 122, 105, 72], [65, 76, 111, 126, 118], [68, 75, 106, 101], [71, 102, 110, 77], [80, 135, 137, 88], [81, 92, 143, 134], [84, 91, 138, 121, 116], [87, 117, 127, 142, 93], [96, 104, 123, 113], [97, 100, 107], [98, 109, 103], [99, 114, 125, 108], [112, 120, 139, 129], [115, 130, 141, 124], [128, 136, 132], [131, 133, 140]] := ⟨by decide +kernel, by decide +kernel, by decide +kernel, by decide +kernel, by decide +kernel, by decide +kernel, by decide +kernel, by decide +kernel, by decide +kernel, by decide +kernel, by decide +kernel, by decide +kernel, by decide +kernel, by decide +kernel⟩
theorem ks_11 : ∃ FL steps C, KnP (sortC (pltC 1 ++ exC 1)) FL steps C ∧ 2 + FL.length = C.length + 2 * 1 ∧ (1 ≤ 2 → C.length < 63) := by
  rw [sortC_is (l := pltC 1 ++ exC 1) (bs := [[0, 0, 0], [0, 0, 1], [0, 1, 0], [0, 2, 0], [1, 0, 0], [1, 2, 0], [2, 0, 0], [2, 1, 0], [2, 2, 0]]) (by decide +kernel) (by decide +kernel)]
  exact ⟨_, _, _, kp_11, by decide, by decide⟩
end Lw
namespace Lw
open PySem PySem.Spec L2 Ve
theorem kp_12 : KnP [[0, 0, 0], [0, 1, 0], [0, 2, 0], [0, 2, 1], [1, 0, 0], [1, 2, 0], [2, 0, 0], [2, 1, 0], [2, 2, 0]] [[0, 0, 0, 1], [0, 0, 0, 3], [0, 0, 0, 4], [0, 0, 0, 5], [0, 1, 0, 0], [0, 1, 0, 1], [0, 1, 0, 4], [0, 1, 0, 5], [0, 2, 0, 1], [0, 2, 0, 2], [0, 2, 0, 5], [0, 2, 1, 0], [0, 2, 1, 1], [0, 2, 1, 2], [0, 2, 1, 3], [0, 2, 1, 4], [1, 0, 0, 2], [1, 0, 0, 3], [1, 0, 0, 4], [1, 0, 0, 5], [1, 2, 0, 2], [1, 2, 0, 3], [1, 2, 0, 4], [1, 2, 0, 5], [2, 0, 0, 0], [2, 0, 0, 3], [2, 0, 0, 4], [2, 0, 0, 5], [2, 1, 0, 0], [2, 1, 0, 1], [2, 1, 0, 4], [2, 1, 0, 5], [2, 2, 0, 0], [2, 2, 0, 2], [2, 2, 0, 4], [2, 2, 0, 5]] [(0, 2), (0, 5), (0, 3), (0, 1), (2, 18), (2, 6), (5, 8), (5, 7), (3, 19), (1, 17), (18, 26), (18, 16), (6, 4), (6, 14), (8, 12), (8, 9), (8, 10), (19, 27), (17, 25), (26, 24), (26, 30), (16, 29), (4, 21), (14, 11), (14, 15), (12, 13), (9, 20), (10, 23), (27, 31), (24, 28), (30, 34), (21, 22), (20, 33), (23, 35), (28, 32)] [[0, 23, 26, 9], [1, 15, 30, 22], [2, 6, 14], [3, 10, 5], [4, 11, 74, 69], [7, 70, 78, 13], [8, 27, 17, 67, 73], [12, 79, 66, 18, 29], [16, 24, 59, 46, 90, 85], [19, 86, 94, 41, 28], [20, 35, 50, 58, 25], [21, 31, 42, 34], [32, 39, 54, 49], [33, 43, 38], [36, 83, 89, 47, 53], [37, 40, 95, 82], [44, 60, 52], [45, 56, 63], [48, 55, 61], [51, 62, 57], [64, 119, 122, 105, 72], [65, 76, 111, 126, 118], [68, 75, 106, 101], [71, 102, 110, 77], [80, 135, 137, 88], [81, 92, 143, 134], [84, 91, 138, 121, 116], [87, 117, 127, 142, 93], [96, 104, 123, 113], [97, 100, 107], [98, 109, 103], [99, 114, 125, 108], [112, 120, 139, 129], [115, 130, 141, 124], [128, 136, 132], [131, 133, 140]] := ⟨by decide +kernel, by decide +kernel, by decide +kernel, by decide +kernel, by decide +kernel, by decide +kernel, by decide +kernel, by decide +kernel, by decide +kernel, by decide +kernel, by decide +kernel, by decide +kernel, by decide +kernel, by decide +kernel⟩
theorem ks_12 : ∃ FL steps C, KnP (sortC (pltC 1 ++ exC 2)) FL steps C ∧ 2 + FL.length = C.length + 2 * 1 ∧ (1 ≤ 2 → C.length < 63) := by
  rw [sortC_is (l := pltC 1 ++ exC 2) (bs := [[0, 0, 0], [0, 1, 0], [0, 2, 0], [0, 2, 1], [1, 0, 0], [1, 2, 0], [2, 0, 0], [2, 1, 0], [2, 2, 0]]) (by decide +kernel) (by decide +kernel)]
  exact ⟨_, _, _, kp_12, by decide, by decide⟩
end Lw
namespace Lw
open PySem PySem.Spec L2 Ve
theorem kp_20 : KnP [[0, 0, 0], [0, 1, 0], [0, 2, 0], [1, 0, 0], [1, 2, 0], [2, 0, 0], [2, 1, 0], [2, 2, 0], [3, 0, 0], [3, 2, 0], [4, 0, 0], [4, 1, 0], [4, 2, 0]] [[0, 0, 0, 1], [0, 0, 0, 3], [0, 0, 0, 4], [0, 0, 0, 5], [0, 1, 0, 0], [0, 1, 0, 1], [0, 1, 0, 4], [0, 1, 0, 5], [0, 2, 0, 1], [0, 2, 0, 2], [0, 2, 0, 4], [0, 2, 0, 5], [1, 0, 0, 2], [1, 0, 0, 3], [1, 0, 0, 4], [1, 0, 0, 5], [1, 2, 0, 2], [1, 2, 0, 3], [1, 2, 0, 4], [1, 2, 0, 5], [2, 0, 0, 3], [2, 0, 0, 4], [2, 0, 0, 5], [2, 1, 0, 0], [2, 1, 0, 1], [2, 1, 0, 4], [2, 1, 0, 5], [2, 2, 0, 2], [2, 2, 0, 4], [2, 2, 0, 5], [3, 0, 0, 2], [3, 0, 0, 3], [3, 0, 0, 4], [3, 0, 0, 5], [3, 2, 0, 2], [3, 2, 0, 3], [3, 2, 0, 4], [3, 2, 0, 5], [4, 0, 0, 0], [4, 0, 0, 3], [4, 0, 0, 4], [4, 0, 0, 5], [4, 1, 0, 0], [4, 1, 0, 1], [4, 1, 0, 4], [4, 1, 0, 5], [4, 2, 0, 0], [4, 2, 0, 2], [4, 2, 0, 4], [4, 2, 0, 5]] [(0, 2), (0, 5), (0, 3), (0, 1), (2, 14), (2, 6), (5, 8), (5, 7), (3, 15), (1, 13), (14, 21), (14, 12), (6, 4), (6, 10), (8, 9), (8, 11), (15, 22), (13, 20), (21, 32), (21, 25), (12, 24), (4, 17), (10, 18), (9, 16), (11, 19), (22, 26), (22, 33), (20, 31), (32, 40), (32, 30), (25, 23), (25, 28), (16, 27), (19, 29), (33, 41), (31, 39), (40, 38), (40, 44), (30, 43), (23, 35), (28, 36), (27, 34), (29, 37), (41, 45), (38, 42), (44, 48), (34, 47), (37, 49), (42, 46)] [[0, 23, 26, 9], [1, 15, 30, 22], [2, 6, 14], [3, 10, 5], [4, 11, 58, 53], [7, 54, 62, 13], [8, 27, 17, 51, 57], [12, 63, 50, 18, 29], [16, 24, 43, 74, 69], [19, 70, 78, 45, 28], [20, 35, 42, 25], [21, 31, 46, 34], [32, 39, 41], [33, 47, 38], [36, 67, 73, 40], [37, 44, 79, 66], [48, 99, 102, 85, 56], [49, 60, 91, 106, 98], [52, 59, 86, 81], [55, 82, 90, 61], [64, 111, 113, 72], [65, 76, 119, 110], [68, 75, 114, 101, 96], [71, 97, 107, 118, 77], [80, 87, 130, 125], [83, 126, 134, 89], [84, 103, 93, 123, 129], [88, 135, 122, 94, 105], [92, 100, 115, 146, 141], [95, 142, 150, 117, 104], [108, 139, 145, 112], [109, 116, 151, 138], [120, 175, 178, 161, 128], [121, 132, 167, 182, 174], [124, 131, 162, 157], [127, 158, 166, 133], [136, 191, 193, 144], [137, 148, 199, 190], [140, 147, 194, 177, 172], [143, 173, 183, 198, 149], [152, 160, 179, 169], [153, 156, 163], [154, 165, 159], [155, 170, 181, 164], [168, 176, 195, 185], [171, 186, 197, 180], [184, 192, 188], [187, 189, 196]] := ⟨by decide +kernel, by decide +kernel, by decide +kernel, by decide +kernel, by decide +kernel, by decide +kernel, by decide +kernel, by decide +kernel, by decide +kernel, by decide +kernel, by decide +kernel, by decide +kernel, by decide +kernel, by decide +kernel⟩
theorem ks_20 : ∃ FL steps C, KnP (sortC (pltC 2 ++ exC 0)) FL steps C ∧ 2 + FL.length = C.length + 2 * 2 ∧ (2 ≤ 2 → C.length < 63) := by
  rw [sortC_is (l := pltC 2 ++ exC 0) (bs := [[0, 0, 0], [0, 1, 0], [0, 2, 0], [1, 0, 0], [1, 2, 0], [2, 0, 0], [2, 1, 0], [2, 2, 0], [3, 0, 0], [3, 2, 0], [4, 0, 0], [4, 1, 0], [4, 2, 0]]) (by decide +kernel) (by decide +kernel)]
  exact ⟨_, _, _, kp_20, by decide, by decide⟩
end Lw
namespace Lw
open PySem PySem.Spec L2 Ve
theorem kp_21 : KnP [[0, 0, 0], [0, 0, 1], [0, 1, 0], [0, 2, 0], [1, 0, 0], [1, 2, 0], [2, 0, 0], [2, 1, 0], [2, 2, 0], [3, 0, 0], [3, 2, 0], [4, 0, 0], [4, 1, 0], [4, 2, 0]] [[0, 0, 0, 1], [0, 0, 0, 3], [0, 0, 0, 5], [0, 0, 1, 0], [0, 0, 1, 1], [0, 0, 1, 2], [0, 0, 1, 3], [0, 0, 1, 4], [0, 1, 0, 0], [0, 1, 0, 1], [0, 1, 0, 4], [0, 1, 0, 5], [0, 2, 0, 1], [0, 2, 0, 2], [0, 2, 0, 4], [0, 2, 0, 5], [1, 0, 0, 2], [1, 0, 0, 3], [1, 0, 0, 4], [1, 0, 0, 5], [1, 2, 0, 2], [1, 2, 0, 3], [1, 2, 0, 4], [1, 2, 0, 5], [2, 0, 0, 3], [2, 0, 0, 4], [2, 0, 0, 5], [2, 1, 0, 0], [2, 1, 0, 1], [2, 1, 0, 4], [2, 1, 0, 5], [2, 2, 0, 2], [2, 2, 0, 4], [2, 2, 0, 5], [3, 0, 0, 2], [3, 0, 0, 3], [3, 0, 0, 4], [3, 0, 0, 5], [3, 2, 0, 2], [3, 2, 0, 3], [3, 2, 0, 4], [3, 2, 0, 5], [4, 0, 0, 0], [4, 0, 0, 3], [4, 0, 0, 4], [4, 0, 0, 5], [4, 1, 0, 0], [4, 1, 0, 1], [4, 1, 0, 4], [4, 1, 0, 5], [4, 2, 0, 0], [4, 2, 0, 2], [4, 2, 0, 4], [4, 2, 0, 5]] [(0, 4), (0, 9), (0, 2), (0, 1), (4, 7), (4, 5), (4, 6), (9, 10), (9, 12), (9, 11), (2, 19), (1, 17), (7, 3), (10, 8), (10, 14), (12, 13), (12, 15), (19, 16), (19, 26), (17, 24), (17, 18), (8, 21), (14, 22), (13, 20), (15, 23), (16, 28), (26, 30), (26, 37), (24, 35), (24, 25), (22, 32), (20, 31), (23, 33), (28, 29), (30, 27), (37, 34), (37, 45), (35, 43), (35, 36), (32, 40), (31, 38), (33, 41), (27, 39), (34, 47), (45, 49), (45, 42), (43, 44), (40, 52), (38, 51), (41, 53), (47, 48), (49, 46), (52, 50)] [[0, 39, 42, 22, 17], [1, 11, 46, 38], [2, 6, 10], [3, 18, 26, 5], [4, 27, 14, 74, 69], [7, 70, 78, 9], [8, 79, 66, 34, 45], [12, 28, 20], [13, 24, 31], [15, 21, 43, 33, 67, 73], [16, 23, 29], [19, 30, 25], [32, 40, 59, 90, 85], [35, 86, 94, 61, 44], [36, 51, 58, 41], [37, 47, 62, 50], [48, 55, 57], [49, 63, 54], [52, 83, 89, 56], [53, 60, 95, 82], [64, 115, 118, 101, 72], [65, 76, 107, 122, 114], [68, 75, 102, 97], [71, 98, 106, 77], [80, 127, 129, 88], [81, 92, 135, 126], [84, 91, 130, 117, 112], [87, 113, 123, 134, 93], [96, 103, 146, 141], [99, 142, 150, 105], [100, 119, 109, 139, 145], [104, 151, 138, 110, 121], [108, 116, 131, 162, 157], [111, 158, 166, 133, 120], [124, 155, 161, 128], [125, 132, 167, 154], [136, 191, 194, 177, 144], [137, 148, 183, 198, 190], [140, 147, 178, 173], [143, 174, 182, 149], [152, 207, 209, 160], [153, 164, 215, 206], [156, 163, 210, 193, 188], [159, 189, 199, 214, 165], [168, 176, 195, 185], [169, 172, 179], [170, 181, 175], [171, 186, 197, 180], [184, 192, 211, 201], [187, 202, 213, 196], [200, 208, 204], [203, 205, 212]] := ⟨by decide +kernel, by decide +kernel, by decide +kernel, by decide +kernel, by decide +kernel, by decide +kernel, by decide +kernel, by decide +kernel, by decide +kernel, by decide +kernel, by decide +kernel, by decide +kernel, by decide +kernel, by decide +kernel⟩
theorem ks_21 : ∃ FL steps C, KnP (sortC (pltC 2 ++ exC 1)) FL steps C ∧ 2 + FL.length = C.length + 2 * 2 ∧ (2 ≤ 2 → C.length < 63) := by
  rw [sortC_is (l := pltC 2 ++ exC 1) (bs := [[0, 0, 0], [0, 0, 1], [0, 1, 0], [0, 2, 0], [1, 0, 0], [1, 2, 0], [2, 0, 0], [2, 1, 0], [2, 2, 0], [3, 0, 0], [3, 2, 0], [4, 0, 0], [4, 1, 0], [4, 2, 0]]) (by decide +kernel) (by decide +kernel)]
  exact ⟨_, _, _, kp_21, by decide, by decide⟩
end Lw
namespace Lw
open PySem PySem.Spec L2 Ve
theorem kp_22 : KnP [[0, 0, 0], [0, 1, 0], [0, 2, 0], [0, 2, 1], [1, 0, 0], [1, 2, 0], [2, 0, 0], [2, 1, 0], [2, 2, 0], [3, 0, 0], [3, 2, 0], [4, 0, 0], [4, 1, 0], [4, 2, 0]] [[0, 0, 0, 1], [0, 0, 0, 3], [0, 0, 0, 4], [0, 0, 0, 5], [0, 1, 0, 0], [0, 1, 0, 1], [0, 1, 0, 4], [0, 1, 0, 5], [0, 2, 0, 1], [0, 2, 0, 2], [0, 2, 0, 5], [0, 2, 1, 0], [0, 2, 1, 1], [0, 2, 1, 2], [0, 2, 1, 3], [0, 2, 1, 4], [1, 0, 0, 2], [1, 0, 0, 3], [1, 0, 0, 4], [1, 0, 0, 5], [1, 2, 0, 2], [1, 2, 0, 3], [1, 2, 0, 4], [1, 2, 0, 5], [2, 0, 0, 3], [2, 0, 0, 4], [2, 0, 0, 5], [2, 1, 0, 0], [2, 1, 0, 1], [2, 1, 0, 4], [2, 1, 0, 5], [2, 2, 0, 2], [2, 2, 0, 4], [2, 2, 0, 5], [3, 0, 0, 2], [3, 0, 0, 3], [3, 0, 0, 4], [3, 0, 0, 5], [3, 2, 0, 2], [3, 2, 0, 3], [3, 2, 0, 4], [3, 2, 0, 5], [4, 0, 0, 0], [4, 0, 0, 3], [4, 0, 0, 4], [4, 0, 0, 5], [4, 1, 0, 0], [4, 1, 0, 1], [4, 1, 0, 4], [4, 1, 0, 5], [4, 2, 0, 0], [4, 2, 0, 2], [4, 2, 0, 4], [4, 2, 0, 5]] [(0, 2), (0, 5), (0, 3), (0, 1), (2, 18), (2, 6), (5, 8), (5, 7), (3, 19), (1, 17), (18, 25), (18, 16), (6, 4), (6, 14), (8, 12), (8, 9), (8, 10), (19, 26), (17, 24), (25, 36), (25, 29), (16, 28), (4, 21), (14, 11), (14, 15), (12, 13), (9, 20), (10, 23), (26, 30), (26, 37), (24, 35), (36, 44), (36, 34), (29, 27), (29, 32), (21, 22), (20, 31), (23, 33), (37, 45), (35, 43), (44, 42), (44, 48), (34, 47), (27, 39), (32, 40), (31, 38), (33, 41), (45, 49), (42, 46), (48, 52), (38, 51), (41, 53), (46, 50)] [[0, 23, 26, 9], [1, 15, 30, 22], [2, 6, 14], [3, 10, 5], [4, 11, 74, 69], [7, 70, 78, 13], [8, 27, 17, 67, 73], [12, 79, 66, 18, 29], [16, 24, 59, 46, 90, 85], [19, 86, 94, 41, 28], [20, 35, 50, 58, 25], [21, 31, 42, 34], [32, 39, 54, 49], [33, 43, 38], [36, 83, 89, 47, 53], [37, 40, 95, 82], [44, 60, 52], [45, 56, 63], [48, 55, 61], [51, 62, 57], [64, 115, 118, 101, 72], [65, 76, 107, 122, 114], [68, 75, 102, 97], [71, 98, 106, 77], [80, 127, 129, 88], [81, 92, 135, 126], [84, 91, 130, 117, 112], [87, 113, 123, 134, 93], [96, 103, 146, 141], [99, 142, 150, 105], [100, 119, 109, 139, 145], [104, 151, 138, 110, 121], [108, 116, 131, 162, 157], [111, 158, 166, 133, 120], [124, 155, 161, 128], [125, 132, 167, 154], [136, 191, 194, 177, 144], [137, 148, 183, 198, 190], [140, 147, 178, 173], [143, 174, 182, 149], [152, 207, 209, 160], [153, 164, 215, 206], [156, 163, 210, 193, 188], [159, 189, 199, 214, 165], [168, 176, 195, 185], [169, 172, 179], [170, 181, 175], [171, 186, 197, 180], [184, 192, 211, 201], [187, 202, 213, 196], [200, 208, 204], [203, 205, 212]] := ⟨by decide +kernel, by decide +kernel, by decide +kernel, by decide +kernel, by decide +kernel, by decide +kernel, by decide +kernel, by decide +kernel, by decide +kernel, by decide +kernel, by decide +kernel, by decide +kernel, by decide +kernel, by decide +kernel⟩
theorem ks_22 : ∃ FL steps C, KnP (sortC (pltC 2 ++ exC 2)) FL steps C ∧ 2 + FL.length = C.length + 2 * 2 ∧ (2 ≤ 2 → C.length < 63) := by
  rw [sortC_is (l := pltC 2 ++ exC 2) (bs := [[0, 0, 0], [0, 1, 0], [0, 2, 0], [0, 2, 1], [1, 0, 0], [1, 2, 0], [2, 0, 0], [2, 1, 0], [2, 2, 0], [3, 0, 0], [3, 2, 0], [4, 0, 0], [4, 1, 0], [4, 2, 0]]) (by decide +kernel) (by decide +kernel)]
  exact ⟨_, _, _, kp_22, by decide, by decide⟩
end Lw
namespace Lw
open PySem PySem.Spec L2 Ve
theorem kp_30 : KnP [[0, 0, 0], [0, 1, 0], [0, 2, 0], [1, 0, 0], [1, 2, 0], [2, 0, 0], [2, 1, 0], [2, 2, 0], [3, 0, 0], [3, 2, 0], [4, 0, 0], [4, 1, 0], [4, 2, 0], [5, 0, 0], [5, 2, 0], [6, 0, 0], [6, 1, 0], [6, 2, 0]] [[0, 0, 0, 1], [0, 0, 0, 3], [0, 0, 0, 4], [0, 0, 0, 5], [0, 1, 0, 0], [0, 1, 0, 1], [0, 1, 0, 4], [0, 1, 0, 5], [0, 2, 0, 1], [0, 2, 0, 2], [0, 2, 0, 4], [0, 2, 0, 5], [1, 0, 0, 2], [1, 0, 0, 3], [1, 0, 0, 4], [1, 0, 0, 5], [1, 2, 0, 2], [1, 2, 0, 3], [1, 2, 0, 4], [1, 2, 0, 5], [2, 0, 0, 3], [2, 0, 0, 4], [2, 0, 0, 5], [2, 1, 0, 0], [2, 1, 0, 1], [2, 1, 0, 4], [2, 1, 0, 5], [2, 2, 0, 2], [2, 2, 0, 4], [2, 2, 0, 5], [3, 0, 0, 2], [3, 0, 0, 3], [3, 0, 0, 4], [3, 0, 0, 5], [3, 2, 0, 2], [3, 2, 0, 3], [3, 2, 0, 4], [3, 2, 0, 5], [4, 0, 0, 3], [4, 0, 0, 4], [4, 0, 0, 5], [4, 1, 0, 0], [4, 1, 0, 1], [4, 1, 0, 4], [4, 1, 0, 5], [4, 2, 0, 2], [4, 2, 0, 4], [4, 2, 0, 5], [5, 0, 0, 2], [5, 0, 0, 3], [5, 0, 0, 4], [5, 0, 0, 5], [5, 2, 0, 2], [5, 2, 0, 3], [5, 2, 0, 4], [5, 2, 0, 5], [6, 0, 0, 0], [6, 0, 0, 3], [6, 0, 0, 4], [6, 0, 0, 5], [6, 1, 0, 0], [6, 1, 0, 1], [6, 1, 0, 4], [6, 1, 0, 5], [6, 2, 0, 0], [6, 2, 0, 2], [6, 2, 0, 4], [6, 2, 0, 5]] [(0, 2), (0, 5), (0, 3), (0, 1), (2, 14), (2, 6), (5, 8), (5, 7), (3, 15), (1, 13), (14, 21), (14, 12), (6, 4), (6, 10), (8, 9), (8, 11), (15, 22), (13, 20), (21, 32), (21, 25), (12, 24), (4, 17), (10, 18), (9, 16), (11, 19), (22, 26), (22, 33), (20, 31), (32, 39), (32, 30), (25, 23), (25, 28), (16, 27), (19, 29), (33, 40), (31, 38), (39, 50), (39, 43), (30, 42), (23, 35), (28, 36), (27, 34), (29, 37), (40, 44), (40, 51), (38, 49), (50, 58), (50, 48), (43, 41), (43, 46), (34, 45), (37, 47), (51, 59), (49, 57), (58, 56), (58, 62), (48, 61), (41, 53), (46, 54), (45, 52), (47, 55), (59, 63), (56, 60), (62, 66), (52, 65), (55, 67), (60, 64)] [[0, 23, 26, 9], [1, 15, 30, 22], [2, 6, 14], [3, 10, 5], [4, 11, 58, 53], [7, 54, 62, 13], [8, 27, 17, 51, 57], [12, 63, 50, 18, 29], [16, 24, 43, 74, 69], [19, 70, 78, 45, 28], [20, 35, 42, 25], [21, 31, 46, 34], [32, 39, 41], [33, 47, 38], [36, 67, 73, 40], [37, 44, 79, 66], [48, 99, 102, 85, 56], [49, 60, 91, 106, 98], [52, 59, 86, 81], [55, 82, 90, 61], [64, 111, 113, 72], [65, 76, 119, 110], [68, 75, 114, 101, 96], [71, 97, 107, 118, 77], [80, 87, 130, 125], [83, 126, 134, 89], [84, 103, 93, 123, 129], [88, 135, 122, 94, 105], [92, 100, 115, 146, 141], [95, 142, 150, 117, 104], [108, 139, 145, 112], [109, 116, 151, 138], [120, 171, 174, 157, 128], [121, 132, 163, 178, 170], [124, 131, 158, 153], [127, 154, 162, 133], [136, 183, 185, 144], [137, 148, 191, 182], [140, 147, 186, 173, 168], [143, 169, 179, 190, 149], [152, 159, 202, 197], [155, 198, 206, 161], [156, 175, 165, 195, 201], [160, 207, 194, 166, 177], [164, 172, 187, 218, 213], [167, 214, 222, 189, 176], [180, 211, 217, 184], [181, 188, 223, 210], [192, 247, 250, 233, 200], [193, 204, 239, 254, 246], [196, 203, 234, 229], [199, 230, 238, 205], [208, 263, 265, 216], [209, 220, 271, 262], [212, 219, 266, 249, 244], [215, 245, 255, 270, 221], [224, 232, 251, 241], [225, 228, 235], [226, 237, 231], [227, 242, 253, 236], [240, 248, 267, 257], [243, 258, 269, 252], [256, 264, 260], [259, 261, 268]] := ⟨by decide +kernel, by decide +kernel, by decide +kernel, by decide +kernel, by decide +kernel, by decide +kernel, by decide +kernel, by decide +kernel, by decide +kernel, by decide +kernel, by decide +kernel, by decide +kernel, by decide +kernel, by decide +kernel⟩
theorem ks_30 : ∃ FL steps C, KnP (sortC (pltC 3 ++ exC 0)) FL steps C ∧ 2 + FL.length = C.length + 2 * 3 ∧ (3 ≤ 2 → C.length < 63) := by
  rw [sortC_is (l := pltC 3 ++ exC 0) (bs := [[0, 0, 0], [0, 1, 0], [0, 2, 0], [1, 0, 0], [1, 2, 0], [2, 0, 0], [2, 1, 0], [2, 2, 0], [3, 0, 0], [3, 2, 0], [4, 0, 0], [4, 1, 0], [4, 2, 0], [5, 0, 0], [5, 2, 0], [6, 0, 0], [6, 1, 0], [6, 2, 0]]) (by decide +kernel) (by decide +kernel)]
  exact ⟨_, _, _, kp_30, by decide, by decide⟩
end Lw
namespace Lw
open PySem PySem.Spec L2 Ve
theorem kp_31 : KnP [[0, 0, 0], [0, 0, 1], [0, 1, 0], [0, 2, 0], [1, 0, 0], [1, 2, 0], [2, 0, 0], [2, 1, 0], [2, 2, 0], [3, 0, 0], [3, 2, 0], [4, 0, 0], [4, 1, 0], [4, 2, 0], [5, 0, 0], [5, 2, 0], [6, 0, 0], [6, 1, 0], [6, 2, 0]] [[0, 0, 0, 1], [0, 0, 0, 3], [0, 0, 0, 5], [0, 0, 1, 0], [0, 0, 1, 1], [0, 0, 1, 2], [0, 0, 1, 3], [0, 0, 1, 4], [0, 1, 0, 0], [0, 1, 0, 1], [0, 1, 0, 4], [0, 1, 0, 5], [0, 2, 0, 1], [0, 2, 0, 2], [0, 2, 0, 4], [0, 2, 0, 5], [1, 0, 0, 2], [1, 0, 0, 3], [1, 0, 0, 4], [1, 0, 0, 5], [1, 2, 0, 2], [1, 2, 0, 3], [1, 2, 0, 4], [1, 2, 0, 5], [2, 0, 0, 3], [2, 0, 0, 4], [2, 0, 0, 5], [2, 1, 0, 0], [2, 1, 0, 1], [2, 1, 0, 4], [2, 1, 0, 5], [2, 2, 0, 2], [2, 2, 0, 4], [2, 2, 0, 5], [3, 0, 0, 2], [3, 0, 0, 3], [3, 0, 0, 4], [3, 0, 0, 5], [3, 2, 0, 2], [3, 2, 0, 3], [3, 2, 0, 4], [3, 2, 0, 5], [4, 0, 0, 3], [4, 0, 0, 4], [4, 0, 0, 5], [4, 1, 0, 0], [4, 1, 0, 1], [4, 1, 0, 4], [4, 1, 0, 5], [4, 2, 0, 2], [4, 2, 0, 4], [4, 2, 0, 5], [5, 0, 0, 2], [5, 0, 0, 3], [5, 0, 0, 4], [5, 0, 0, 5], [5, 2, 0, 2], [5, 2, 0, 3], [5, 2, 0, 4], [5, 2, 0, 5], [6, 0, 0, 0], [6, 0, 0, 3], [6, 0, 0, 4], [6, 0, 0, 5], [6, 1, 0, 0], [6, 1, 0, 1], [6, 1, 0, 4], [6, 1, 0, 5], [6, 2, 0, 0], [6, 2, 0, 2], [6, 2, 0, 4], [6, 2, 0, 5]] [(0, 4), (0, 9), (0, 2), (0, 1), (4, 7), (4, 5), (4, 6), (9, 10), (9, 12), (9, 11), (2, 19), (1, 17), (7, 3), (10, 8), (10, 14), (12, 13), (12, 15), (19, 16), (19, 26), (17, 24), (17, 18), (8, 21), (14, 22), (13, 20), (15, 23), (16, 28), (26, 30), (26, 37), (24, 35), (24, 25), (22, 32), (20, 31), (23, 33), (28, 29), (30, 27), (37, 34), (37, 44), (35, 42), (35, 36), (32, 40), (31, 38), (33, 41), (27, 39), (34, 46), (44, 48), (44, 55), (42, 53), (42, 43), (40, 50), (38, 49), (41, 51), (46, 47), (48, 45), (55, 52), (55, 63), (53, 61), (53, 54), (50, 58), (49, 56), (51, 59), (45, 57), (52, 65), (63, 67), (63, 60), (61, 62), (58, 70), (56, 69), (59, 71), (65, 66), (67, 64), (70, 68)] [[0, 39, 42, 22, 17], [1, 11, 46, 38], [2, 6, 10], [3, 18, 26, 5], [4, 27, 14, 74, 69], [7, 70, 78, 9], [8, 79, 66, 34, 45], [12, 28, 20], [13, 24, 31], [15, 21, 43, 33, 67, 73], [16, 23, 29], [19, 30, 25], [32, 40, 59, 90, 85], [35, 86, 94, 61, 44], [36, 51, 58, 41], [37, 47, 62, 50], [48, 55, 57], [49, 63, 54], [52, 83, 89, 56], [53, 60, 95, 82], [64, 115, 118, 101, 72], [65, 76, 107, 122, 114], [68, 75, 102, 97], [71, 98, 106, 77], [80, 127, 129, 88], [81, 92, 135, 126], [84, 91, 130, 117, 112], [87, 113, 123, 134, 93], [96, 103, 146, 141], [99, 142, 150, 105], [100, 119, 109, 139, 145], [104, 151, 138, 110, 121], [108, 116, 131, 162, 157], [111, 158, 166, 133, 120], [124, 155, 161, 128], [125, 132, 167, 154], [136, 187, 190, 173, 144], [137, 148, 179, 194, 186], [140, 147, 174, 169], [143, 170, 178, 149], [152, 199, 201, 160], [153, 164, 207, 198], [156, 163, 202, 189, 184], [159, 185, 195, 206, 165], [168, 175, 218, 213], [171, 214, 222, 177], [172, 191, 181, 211, 217], [176, 223, 210, 182, 193], [180, 188, 203, 234, 229], [183, 230, 238, 205, 192], [196, 227, 233, 200], [197, 204, 239, 226], [208, 263, 266, 249, 216], [209, 220, 255, 270, 262], [212, 219, 250, 245], [215, 246, 254, 221], [224, 279, 281, 232], [225, 236, 287, 278], [228, 235, 282, 265, 260], [231, 261, 271, 286, 237], [240, 248, 267, 257], [241, 244, 251], [242, 253, 247], [243, 258, 269, 252], [256, 264, 283, 273], [259, 274, 285, 268], [272, 280, 276], [275, 277, 284]] := ⟨by decide +kernel, by decide +kernel, by decide +kernel, by decide +kernel, by decide +kernel, by decide +kernel, by decide +kernel, by decide +kernel, by decide +kernel, by decide +kernel, by decide +kernel, by decide +kernel, by decide +kernel, by decide +kernel⟩
theorem ks_31 : ∃ FL steps C, KnP (sortC (pltC 3 ++ exC 1)) FL steps C ∧ 2 + FL.length = C.length + 2 * 3 ∧ (3 ≤ 2 → C.length < 63) := by
  rw [sortC_is (l := pltC 3 ++ exC 1) (bs := [[0, 0, 0], [0, 0, 1], [0, 1, 0], [0, 2, 0], [1, 0, 0], [1, 2, 0], [2, 0, 0], [2, 1, 0], [2, 2, 0], [3, 0, 0], [3, 2, 0], [4, 0, 0], [4, 1, 0], [4, 2, 0], [5, 0, 0], [5, 2, 0], [6, 0, 0], [6, 1, 0], [6, 2, 0]]) (by decide +kernel) (by decide +kernel)]
  exact ⟨_, _, _, kp_31, by decide, by decide⟩
end Lw
namespace Lw
open PySem PySem.Spec L2 Ve
theorem kp_32 : KnP [[0, 0, 0], [0, 1, 0], [0, 2, 0], [0, 2, 1], [1, 0, 0], [1, 2, 0], [2, 0, 0], [2, 1, 0], [2, 2, 0], [3, 0, 0], [3, 2, 0], [4, 0, 0], [4, 1, 0], [4, 2, 0], [5, 0, 0], [5, 2, 0], [6, 0, 0], [6, 1, 0], [6, 2, 0]] [[0, 0, 0, 1], [0, 0, 0, 3], [0, 0, 0, 4], [0, 0, 0, 5], [0, 1, 0, 0], [0, 1, 0, 1], [0, 1, 0, 4], [0, 1, 0, 5], [0, 2, 0, 1], [0, 2, 0, 2], [0, 2, 0, 5], [0, 2, 1, 0], [0, 2, 1, 1], [0, 2, 1, 2], [0, 2, 1, 3], [0, 2, 1, 4], [1, 0, 0, 2], [1, 0, 0, 3], [1, 0, 0, 4], [1, 0, 0, 5], [1, 2, 0, 2], [1, 2, 0, 3], [1, 2, 0, 4], [1, 2, 0, 5], [2, 0, 0, 3], [2, 0, 0, 4], [2, 0, 0, 5], [2, 1, 0, 0], [2, 1, 0, 1], [2, 1, 0, 4], [2, 1, 0, 5], [2, 2, 0, 2], [2, 2, 0, 4], [2, 2, 0, 5], [3, 0, 0, 2], [3, 0, 0, 3], [3, 0, 0, 4], [3, 0, 0, 5], [3, 2, 0, 2], [3, 2, 0, 3], [3, 2, 0, 4], [3, 2, 0, 5], [4, 0, 0, 3], [4, 0, 0, 4], [4, 0, 0, 5], [4, 1, 0, 0], [4, 1, 0, 1], [4, 1, 0, 4], [4, 1, 0, 5], [4, 2, 0, 2], [4, 2, 0, 4], [4, 2, 0, 5], [5, 0, 0, 2], [5, 0, 0, 3], [5, 0, 0, 4], [5, 0, 0, 5], [5, 2, 0, 2], [5, 2, 0, 3], [5, 2, 0, 4], [5, 2, 0, 5], [6, 0, 0, 0], [6, 0, 0, 3], [6, 0, 0, 4], [6, 0, 0, 5], [6, 1, 0, 0], [6, 1, 0, 1], [6, 1, 0, 4], [6, 1, 0, 5], [6, 2, 0, 0], [6, 2, 0, 2], [6, 2, 0, 4], [6, 2, 0, 5]] [(0, 2), (0, 5), (0, 3), (0, 1), (2, 18), (2, 6), (5, 8), (5, 7), (3, 19), (1, 17), (18, 25), (18, 16), (6, 4), (6, 14), (8, 12), (8, 9), (8, 10), (19, 26), (17, 24), (25, 36), (25, 29), (16, 28), (4, 21), (14, 11), (14, 15), (12, 13), (9, 20), (10, 23), (26, 30), (26, 37), (24, 35), (36, 43), (36, 34), (29, 27), (29, 32), (21, 22), (20, 31), (23, 33), (37, 44), (35, 42), (43, 54), (43, 47), (34, 46), (27, 39), (32, 40), (31, 38), (33, 41), (44, 48), (44, 55), (42, 53), (54, 62), (54, 52), (47, 45), (47, 50), (38, 49), (41, 51), (55, 63), (53, 61), (62, 60), (62, 66), (52, 65), (45, 57), (50, 58), (49, 56), (51, 59), (63, 67), (60, 64), (66, 70), (56, 69), (59, 71), (64, 68)] [[0, 23, 26, 9], [1, 15, 30, 22], [2, 6, 14], [3, 10, 5], [4, 11, 74, 69], [7, 70, 78, 13], [8, 27, 17, 67, 73], [12, 79, 66, 18, 29], [16, 24, 59, 46, 90, 85], [19, 86, 94, 41, 28], [20, 35, 50, 58, 25], [21, 31, 42, 34], [32, 39, 54, 49], [33, 43, 38], [36, 83, 89, 47, 53], [37, 40, 95, 82], [44, 60, 52], [45, 56, 63], [48, 55, 61], [51, 62, 57], [64, 115, 118, 101, 72], [65, 76, 107, 122, 114], [68, 75, 102, 97], [71, 98, 106, 77], [80, 127, 129, 88], [81, 92, 135, 126], [84, 91, 130, 117, 112], [87, 113, 123, 134, 93], [96, 103, 146, 141], [99, 142, 150, 105], [100, 119, 109, 139, 145], [104, 151, 138, 110, 121], [108, 116, 131, 162, 157], [111, 158, 166, 133, 120], [124, 155, 161, 128], [125, 132, 167, 154], [136, 187, 190, 173, 144], [137, 148, 179, 194, 186], [140, 147, 174, 169], [143, 170, 178, 149], [152, 199, 201, 160], [153, 164, 207, 198], [156, 163, 202, 189, 184], [159, 185, 195, 206, 165], [168, 175, 218, 213], [171, 214, 222, 177], [172, 191, 181, 211, 217], [176, 223, 210, 182, 193], [180, 188, 203, 234, 229], [183, 230, 238, 205, 192], [196, 227, 233, 200], [197, 204, 239, 226], [208, 263, 266, 249, 216], [209, 220, 255, 270, 262], [212, 219, 250, 245], [215, 246, 254, 221], [224, 279, 281, 232], [225, 236, 287, 278], [228, 235, 282, 265, 260], [231, 261, 271, 286, 237], [240, 248, 267, 257], [241, 244, 251], [242, 253, 247], [243, 258, 269, 252], [256, 264, 283, 273], [259, 274, 285, 268], [272, 280, 276], [275, 277, 284]] := ⟨by decide +kernel, by decide +kernel, by decide +kernel, by decide +kernel, by decide +kernel, by decide +kernel, by decide +kernel, by decide +kernel, by decide +kernel, by decide +kernel, by decide +kernel, by decide +kernel, by decide +kernel, by decide +kernel⟩
theorem ks_32 : ∃ FL steps C, KnP (sortC (pltC 3 ++ exC 2)) FL steps C ∧ 2 + FL.length = C.length + 2 * 3 ∧ (3 ≤ 2 → C.length < 63) := by
  rw [sortC_is (l := pltC 3 ++ exC 2) (bs := [[0, 0, 0], [0, 1, 0], [0, 2, 0], [0, 2, 1], [1, 0, 0], [1, 2, 0], [2, 0, 0], [2, 1, 0], [2, 2, 0], [3, 0, 0], [3, 2, 0], [4, 0, 0], [4, 1, 0], [4, 2, 0], [5, 0, 0], [5, 2, 0], [6, 0, 0], [6, 1, 0], [6, 2, 0]]) (by decide +kernel) (by decide +kernel)]
  exact ⟨_, _, _, kp_32, by decide, by decide⟩
end Lw
namespace Lw
open PySem PySem.Spec L2 Ve
theorem kp_40 : KnP [[0, 0, 0], [0, 1, 0], [0, 2, 0], [1, 0, 0], [1, 2, 0], [2, 0, 0], [2, 1, 0], [2, 2, 0], [3, 0, 0], [3, 2, 0], [4, 0, 0], [4, 1, 0], [4, 2, 0], [5, 0, 0], [5, 2, 0], [6, 0, 0], [6, 1, 0], [6, 2, 0], [7, 0, 0], [7, 2, 0], [8, 0, 0], [8, 1, 0], [8, 2, 0]] [[0, 0, 0, 1], [0, 0, 0, 3], [0, 0, 0, 4], [0, 0, 0, 5], [0, 1, 0, 0], [0, 1, 0, 1], [0, 1, 0, 4], [0, 1, 0, 5], [0, 2, 0, 1], [0, 2, 0, 2], [0, 2, 0, 4], [0, 2, 0, 5], [1, 0, 0, 2], [1, 0, 0, 3], [1, 0, 0, 4], [1, 0, 0, 5], [1, 2, 0, 2], [1, 2, 0, 3], [1, 2, 0, 4], [1, 2, 0, 5], [2, 0, 0, 3], [2, 0, 0, 4], [2, 0, 0, 5], [2, 1, 0, 0], [2, 1, 0, 1], [2, 1, 0, 4], [2, 1, 0, 5], [2, 2, 0, 2], [2, 2, 0, 4], [2, 2, 0, 5], [3, 0, 0, 2], [3, 0, 0, 3], [3, 0, 0, 4], [3, 0, 0, 5], [3, 2, 0, 2], [3, 2, 0, 3], [3, 2, 0, 4], [3, 2, 0, 5], [4, 0, 0, 3], [4, 0, 0, 4], [4, 0, 0, 5], [4, 1, 0, 0], [4, 1, 0, 1], [4, 1, 0, 4], [4, 1, 0, 5], [4, 2, 0, 2], [4, 2, 0, 4], [4, 2, 0, 5], [5, 0, 0, 2], [5, 0, 0, 3], [5, 0, 0, 4], [5, 0, 0, 5], [5, 2, 0, 2], [5, 2, 0, 3], [5, 2, 0, 4], [5, 2, 0, 5], [6, 0, 0, 3], [6, 0, 0, 4], [6, 0, 0, 5], [6, 1, 0, 0], [6, 1, 0, 1], [6, 1, 0, 4], [6, 1, 0, 5], [6, 2, 0, 2], [6, 2, 0, 4], [6, 2, 0, 5], [7, 0, 0, 2], [7, 0, 0, 3], [7, 0, 0, 4], [7, 0, 0, 5], [7, 2, 0, 2], [7, 2, 0, 3], [7, 2, 0, 4], [7, 2, 0, 5], [8, 0, 0, 0], [8, 0, 0, 3], [8, 0, 0, 4], [8, 0, 0, 5], [8, 1, 0, 0], [8, 1, 0, 1], [8, 1, 0, 4], [8, 1, 0, 5], [8, 2, 0, 0], [8, 2, 0, 2], [8, 2, 0, 4], [8, 2, 0, 5]] [(0, 2), (0, 5), (0, 3), (0, 1), (2, 14), (2, 6), (5, 8), (5, 7), (3, 15), (1, 13), (14, 21), (14, 12), (6, 4), (6, 10), (8, 9), (8, 11), (15, 22), (13, 20), (21, 32), (21, 25), (12, 24), (4, 17), (10, 18), (9, 16), (11, 19), (22, 26), (22, 33), (20, 31), (32, 39), (32, 30), (25, 23), (25, 28), (16, 27), (19, 29), (33, 40), (31, 38), (39, 50), (39, 43), (30, 42), (23, 35), (28, 36), (27, 34), (29, 37), (40, 44), (40, 51), (38, 49), (50, 57), (50, 48), (43, 41), (43, 46), (34, 45), (37, 47), (51, 58), (49, 56), (57, 68), (57, 61), (48, 60), (41, 53), (46, 54), (45, 52), (47, 55), (58, 62), (58, 69), (56, 67), (68, 76), (68, 66), (61, 59), (61, 64), (52, 63), (55, 65), (69, 77), (67, 75), (76, 74), (76, 80), (66, 79), (59, 71), (64, 72), (63, 70), (65, 73), (77, 81), (74, 78), (80, 84), (70, 83), (73, 85), (78, 82)] [[0, 23, 26, 9], [1, 15, 30, 22], [2, 6, 14], [3, 10, 5], [4, 11, 58, 53], [7, 54, 62, 13], [8, 27, 17, 51, 57], [12, 63, 50, 18, 29], [16, 24, 43, 74, 69], [19, 70, 78, 45, 28], [20, 35, 42, 25], [21, 31, 46, 34], [32, 39, 41], [33, 47, 38], [36, 67, 73, 40], [37, 44, 79, 66], [48, 99, 102, 85, 56], [49, 60, 91, 106, 98], [52, 59, 86, 81], [55, 82, 90, 61], [64, 111, 113, 72], [65, 76, 119, 110], [68, 75, 114, 101, 96], [71, 97, 107, 118, 77], [80, 87, 130, 125], [83, 126, 134, 89], [84, 103, 93, 123, 129], [88, 135, 122, 94, 105], [92, 100, 115, 146, 141], [95, 142, 150, 117, 104], [108, 139, 145, 112], [109, 116, 151, 138], [120, 171, 174, 157, 128], [121, 132, 163, 178, 170], [124, 131, 158, 153], [127, 154, 162, 133], [136, 183, 185, 144], [137, 148, 191, 182], [140, 147, 186, 173, 168], [143, 169, 179, 190, 149], [152, 159, 202, 197], [155, 198, 206, 161], [156, 175, 165, 195, 201], [160, 207, 194, 166, 177], [164, 172, 187, 218, 213], [167, 214, 222, 189, 176], [180, 211, 217, 184], [181, 188, 223, 210], [192, 243, 246, 229, 200], [193, 204, 235, 250, 242], [196, 203, 230, 225], [199, 226, 234, 205], [208, 255, 257, 216], [209, 220, 263, 254], [212, 219, 258, 245, 240], [215, 241, 251, 262, 221], [224, 231, 274, 269], [227, 270, 278, 233], [228, 247, 237, 267, 273], [232, 279, 266, 238, 249], [236, 244, 259, 290, 285], [239, 286, 294, 261, 248], [252, 283, 289, 256], [253, 260, 295, 282], [264, 319, 322, 305, 272], [265, 276, 311, 326, 318], [268, 275, 306, 301], [271, 302, 310, 277], [280, 335, 337, 288], [281, 292, 343, 334], [284, 291, 338, 321, 316], [287, 317, 327, 342, 293], [296, 304, 323, 313], [297, 300, 307], [298, 309, 303], [299, 314, 325, 308], [312, 320, 339, 329], [315, 330, 341, 324], [328, 336, 332], [331, 333, 340]] := ⟨by decide +kernel, by decide +kernel, by decide +kernel, by decide +kernel, by decide +kernel, by decide +kernel, by decide +kernel, by decide +kernel, by decide +kernel, by decide +kernel, by decide +kernel, by decide +kernel, by decide +kernel, by decide +kernel⟩
theorem ks_40 : ∃ FL steps C, KnP (sortC (pltC 4 ++ exC 0)) FL steps C ∧ 2 + FL.length = C.length + 2 * 4 ∧ (4 ≤ 2 → C.length < 63) := by
  rw [sortC_is (l := pltC 4 ++ exC 0) (bs := [[0, 0, 0], [0, 1, 0], [0, 2, 0], [1, 0, 0], [1, 2, 0], [2, 0, 0], [2, 1, 0], [2, 2, 0], [3, 0, 0], [3, 2, 0], [4, 0, 0], [4, 1, 0], [4, 2, 0], [5, 0, 0], [5, 2, 0], [6, 0, 0], [6, 1, 0], [6, 2, 0], [7, 0, 0], [7, 2, 0], [8, 0, 0], [8, 1, 0], [8, 2, 0]]) (by decide +kernel) (by decide +kernel)]
  exact ⟨_, _, _, kp_40, by decide, by decide⟩
end Lw
namespace Lw
open PySem PySem.Spec L2 Ve
theorem kp_41 : KnP [[0, 0, 0], [0, 0, 1], [0, 1, 0], [0, 2, 0], [1, 0, 0], [1, 2, 0], [2, 0, 0], [2, 1, 0], [2, 2, 0], [3, 0, 0], [3, 2, 0], [4, 0, 0], [4, 1, 0], [4, 2, 0], [5, 0, 0], [5, 2, 0], [6, 0, 0], [6, 1, 0], [6, 2, 0], [7, 0, 0], [7, 2, 0], [8, 0, 0], [8, 1, 0], [8, 2, 0]] [[0, 0, 0, 1], [0, 0, 0, 3], [0, 0, 0, 5], [0, 0, 1, 0], [0, 0, 1, 1], [0, 0, 1, 2], [0, 0, 1, 3], [0, 0, 1, 4], [0, 1, 0, 0], [0, 1, 0, 1], [0, 1, 0, 4], [0, 1, 0, 5], [0, 2, 0, 1], [0, 2, 0, 2], [0, 2, 0, 4], [0, 2, 0, 5], [1, 0, 0, 2], [1, 0, 0, 3], [1, 0, 0, 4], [1, 0, 0, 5], [1, 2, 0, 2], [1, 2, 0, 3], [1, 2, 0, 4], [1, 2, 0, 5], [2, 0, 0, 3], [2, 0, 0, 4], [2, 0, 0, 5], [2, 1, 0, 0], [2, 1, 0, 1], [2, 1, 0, 4], [2, 1, 0, 5], [2, 2, 0, 2], [2, 2, 0, 4], [2, 2, 0, 5], [3, 0, 0, 2], [3, 0, 0, 3], [3, 0, 0, 4], [3, 0, 0, 5], [3, 2, 0, 2], [3, 2, 0, 3], [3, 2, 0, 4], [3, 2, 0, 5], [4, 0, 0, 3], [4, 0, 0, 4], [4, 0, 0, 5], [4, 1, 0, 0], [4, 1, 0, 1], [4, 1, 0, 4], [4, 1, 0, 5], [4, 2, 0, 2], [4, 2, 0, 4], [4, 2, 0, 5], [5, 0, 0, 2], [5, 0, 0, 3], [5, 0, 0, 4], [5, 0, 0, 5], [5, 2, 0, 2], [5, 2, 0, 3], [5, 2, 0, 4], [5, 2, 0, 5], [6, 0, 0, 3], [6, 0, 0, 4], [6, 0, 0, 5], [6, 1, 0, 0], [6, 1, 0, 1], [6, 1, 0, 4], [6, 1, 0, 5], [6, 2, 0, 2], [6, 2, 0, 4], [6, 2, 0, 5], [7, 0, 0, 2], [7, 0, 0, 3], [7, 0, 0, 4], [7, 0, 0, 5], [7, 2, 0, 2], [7, 2, 0, 3], [7, 2, 0, 4], [7, 2, 0, 5], [8, 0, 0, 0], [8, 0, 0, 3], [8, 0, 0, 4], [8, 0, 0, 5], [8, 1, 0, 0], [8, 1, 0, 1], [8, 1, 0, 4], [8, 1, 0, 5], [8, 2, 0, 0], [8, 2, 0, 2], [8, 2, 0, 4], [8, 2, 0, 5]] [(0, 4), (0, 9), (0, 2), (0, 1), (4, 7), (4, 5), (4, 6), (9, 10), (9, 12), (9, 11), (2, 19), (1, 17), (7, 3), (10, 8), (10, 14), (12, 13), (12, 15), (19, 16), (19, 26), (17, 24), (17, 18), (8, 21), (14, 22), (13, 20), (15, 23), (16, 28), (26, 30), (26, 37), (24, 35), (24, 25), (22, 32), (20, 31), (23, 33), (28, 29), (30, 27), (37, 34), (37, 44), (35, 42), (35, 36), (32, 40), (31, 38), (33, 41), (27, 39), (34, 46), (44, 48), (44, 55), (42, 53), (42, 43), (40, 50), (38, 49), (41, 51), (46, 47), (48, 45), (55, 52), (55, 62), (53, 60), (53, 54), (50, 58), (49, 56), (51, 59), (45, 57), (52, 64), (62, 66), (62, 73), (60, 71), (60, 61), (58, 68), (56, 67), (59, 69), (64, 65), (66, 63), (73, 70), (73, 81), (71, 79), (71, 72), (68, 76), (67, 74), (69, 77), (63, 75), (70, 83), (81, 85), (81, 78), (79, 80), (76, 88), (74, 87), (77, 89), (83, 84), (85, 82), (88, 86)] [[0, 39, 42, 22, 17], [1, 11, 46, 38], [2, 6, 10], [3, 18, 26, 5], [4, 27, 14, 74, 69], [7, 70, 78, 9], [8, 79, 66, 34, 45], [12, 28, 20], [13, 24, 31], [15, 21, 43, 33, 67, 73], [16, 23, 29], [19, 30, 25], [32, 40, 59, 90, 85], [35, 86, 94, 61, 44], [36, 51, 58, 41], [37, 47, 62, 50], [48, 55, 57], [49, 63, 54], [52, 83, 89, 56], [53, 60, 95, 82], [64, 115, 118, 101, 72], [65, 76, 107, 122, 114], [68, 75, 102, 97], [71, 98, 106, 77], [80, 127, 129, 88], [81, 92, 135, 126], [84, 91, 130, 117, 112], [87, 113, 123, 134, 93], [96, 103, 146, 141], [99, 142, 150, 105], [100, 119, 109, 139, 145], [104, 151, 138, 110, 121], [108, 116, 131, 162, 157], [111, 158, 166, 133, 120], [124, 155, 161, 128], [125, 132, 167, 154], [136, 187, 190, 173, 144], [137, 148, 179, 194, 186], [140, 147, 174, 169], [143, 170, 178, 149], [152, 199, 201, 160], [153, 164, 207, 198], [156, 163, 202, 189, 184], [159, 185, 195, 206, 165], [168, 175, 218, 213], [171, 214, 222, 177], [172, 191, 181, 211, 217], [176, 223, 210, 182, 193], [180, 188, 203, 234, 229], [183, 230, 238, 205, 192], [196, 227, 233, 200], [197, 204, 239, 226], [208, 259, 262, 245, 216], [209, 220, 251, 266, 258], [212, 219, 246, 241], [215, 242, 250, 221], [224, 271, 273, 232], [225, 236, 279, 270], [228, 235, 274, 261, 256], [231, 257, 267, 278, 237], [240, 247, 290, 285], [243, 286, 294, 249], [244, 263, 253, 283, 289], [248, 295, 282, 254, 265], [252, 260, 275, 306, 301], [255, 302, 310, 277, 264], [268, 299, 305, 272], [269, 276, 311, 298], [280, 335, 338, 321, 288], [281, 292, 327, 342, 334], [284, 291, 322, 317], [287, 318, 326, 293], [296, 351, 353, 304], [297, 308, 359, 350], [300, 307, 354, 337, 332], [303, 333, 343, 358, 309], [312, 320, 339, 329], [313, 316, 323], [314, 325, 319], [315, 330, 341, 324], [328, 336, 355, 345], [331, 346, 357, 340], [344, 352, 348], [347, 349, 356]] := ⟨by decide +kernel, by decide +kernel, by decide +kernel, by decide +kernel, by decide +kernel, by decide +kernel, by decide +kernel, by decide +kernel, by decide +kernel, by decide +kernel, by decide +kernel, by decide +kernel, by decide +kernel, by decide +kernel⟩
theorem ks_41 : ∃ FL steps C, KnP (sortC (pltC 4 ++ exC 1)) FL steps C ∧ 2 + FL.length = C.length + 2 * 4 ∧ (4 ≤ 2 → C.length < 63) := by
  rw [sortC_is (l := pltC 4 ++ exC 1) (bs := [[0, 0, 0], [0, 0, 1], [0, 1, 0], [0, 2, 0], [1, 0, 0], [1, 2, 0], [2, 0, 0], [2, 1, 0], [2, 2, 0], [3, 0, 0], [3, 2, 0], [4, 0, 0], [4, 1, 0], [4, 2, 0], [5, 0, 0], [5, 2, 0], [6, 0, 0], [6, 1, 0], [6, 2, 0], [7, 0, 0], [7, 2, 0], [8, 0, 0], [8, 1, 0], [8, 2, 0]]) (by decide +kernel) (by decide +kernel)]
  exact ⟨_, _, _, kp_41, by decide, by decide⟩
end Lw
namespace Lw
open PySem PySem.Spec L2 Ve
theorem kp_42 : KnP [[0, 0, 0], [0, 1, 0], [0, 2, 0], [0, 2, 1], [1, 0, 0], [1, 2, 0], [2, 0, 0], [2, 1, 0], [2, 2, 0], [3, 0, 0], [3, 2, 0], [4, 0, 0], [4, 1, 0], [4, 2, 0], [5, 0, 0], [5, 2, 0], [6, 0, 0], [6, 1, 0], [6, 2, 0], [7, 0, 0], [7, 2, 0], [8, 0, 0], [8, 1, 0], [8, 2, 0]] [[0, 0, 0, 1], [0, 0, 0, 3], [0, 0, 0, 4], [0, 0, 0, 5], [0, 1, 0, 0], [0, 1, 0, 1], [0, 1, 0, 4], [0, 1, 0, 5], [0, 2, 0, 1], [0, 2, 0, 2], [0, 2, 0, 5], [0, 2, 1, 0], [0, 2, 1, 1], [0, 2, 1, 2], [0, 2, 1, 3], [0, 2, 1, 4], [1, 0, 0, 2], [1, 0, 0, 3], [1, 0, 0, 4], [1, 0, 0, 5], [1, 2, 0, 2], [1, 2, 0, 3], [1, 2, 0, 4], [1, 2, 0, 5], [2, 0, 0, 3], [2, 0, 0, 4], [2, 0, 0, 5], [2, 1, 0, 0], [2, 1, 0, 1], [2, 1, 0, 4], [2, 1, 0, 5], [2, 2, 0, 2], [2, 2, 0, 4], [2, 2, 0, 5], [3, 0, 0, 2], [3, 0, 0, 3], [3, 0, 0, 4], [3, 0, 0, 5], [3, 2, 0, 2], [3, 2, 0, 3], [3, 2, 0, 4], [3, 2, 0, 5], [4, 0, 0, 3], [4, 0, 0, 4], [4, 0, 0, 5], [4, 1, 0, 0], [4, 1, 0, 1], [4, 1, 0, 4], [4, 1, 0, 5], [4, 2, 0, 2], [4, 2, 0, 4], [4, 2, 0, 5], [5, 0, 0, 2], [5, 0, 0, 3], [5, 0, 0, 4], [5, 0, 0, 5], [5, 2, 0, 2], [5, 2, 0, 3], [5, 2, 0, 4], [5, 2, 0, 5], [6, 0, 0, 3], [6, 0, 0, 4], [6, 0, 0, 5], [6, 1, 0, 0], [6, 1, 0, 1], [6, 1, 0, 4], [6, 1, 0, 5], [6, 2, 0, 2], [6, 2, 0, 4], [6, 2, 0, 5], [7, 0, 0, 2], [7, 0, 0, 3], [7, 0, 0, 4], [7, 0, 0, 5], [7, 2, 0, 2], [7, 2, 0, 3], [7, 2, 0, 4], [7, 2, 0, 5], [8, 0, 0, 0], [8, 0, 0, 3], [8, 0, 0, 4], [8, 0, 0, 5], [8, 1, 0, 0], [8, 1, 0, 1], [8, 1, 0, 4], [8, 1, 0, 5], [8, 2, 0, 0], [8, 2, 0, 2], [8, 2, 0, 4], [8, 2, 0, 5]] [(0, 2), (0, 5), (0, 3), (0, 1), (2, 18), (2, 6), (5, 8), (5, 7), (3, 19), (1, 17), (18, 25), (18, 16), (6, 4), (6, 14), (8, 12), (8, 9), (8, 10), (19, 26), (17, 24), (25, 36), (25, 29), (16, 28), (4, 21), (14, 11), (14, 15), (12, 13), (9, 20), (10, 23), (26, 30), (26, 37), (24, 35), (36, 43), (36, 34), (29, 27), (29, 32), (21, 22), (20, 31), (23, 33), (37, 44), (35, 42), (43, 54), (43, 47), (34, 46), (27, 39), (32, 40), (31, 38), (33, 41), (44, 48), (44, 55), (42, 53), (54, 61), (54, 52), (47, 45), (47, 50), (38, 49), (41, 51), (55, 62), (53, 60), (61, 72), (61, 65), (52, 64), (45, 57), (50, 58), (49, 56), (51, 59), (62, 66), (62, 73), (60, 71), (72, 80), (72, 70), (65, 63), (65, 68), (56, 67), (59, 69), (73, 81), (71, 79), (80, 78), (80, 84), (70, 83), (63, 75), (68, 76), (67, 74), (69, 77), (81, 85), (78, 82), (84, 88), (74, 87), (77, 89), (82, 86)] [[0, 23, 26, 9], [1, 15, 30, 22], [2, 6, 14], [3, 10, 5], [4, 11, 74, 69], [7, 70, 78, 13], [8, 27, 17, 67, 73], [12, 79, 66, 18, 29], [16, 24, 59, 46, 90, 85], [19, 86, 94, 41, 28], [20, 35, 50, 58, 25], [21, 31, 42, 34], [32, 39, 54, 49], [33, 43, 38], [36, 83, 89, 47, 53], [37, 40, 95, 82], [44, 60, 52], [45, 56, 63], [48, 55, 61], [51, 62, 57], [64, 115, 118, 101, 72], [65, 76, 107, 122, 114], [68, 75, 102, 97], [71, 98, 106, 77], [80, 127, 129, 88], [81, 92, 135, 126], [84, 91, 130, 117, 112], [87, 113, 123, 134, 93], [96, 103, 146, 141], [99, 142, 150, 105], [100, 119, 109, 139, 145], [104, 151, 138, 110, 121], [108, 116, 131, 162, 157], [111, 158, 166, 133, 120], [124, 155, 161, 128], [125, 132, 167, 154], [136, 187, 190, 173, 144], [137, 148, 179, 194, 186], [140, 147, 174, 169], [143, 170, 178, 149], [152, 199, 201, 160], [153, 164, 207, 198], [156, 163, 202, 189, 184], [159, 185, 195, 206, 165], [168, 175, 218, 213], [171, 214, 222, 177], [172, 191, 181, 211, 217], [176, 223, 210, 182, 193], [180, 188, 203, 234, 229], [183, 230, 238, 205, 192], [196, 227, 233, 200], [197, 204, 239, 226], [208, 259, 262, 245, 216], [209, 220, 251, 266, 258], [212, 219, 246, 241], [215, 242, 250, 221], [224, 271, 273, 232], [225, 236, 279, 270], [228, 235, 274, 261, 256], [231, 257, 267, 278, 237], [240, 247, 290, 285], [243, 286, 294, 249], [244, 263, 253, 283, 289], [248, 295, 282, 254, 265], [252, 260, 275, 306, 301], [255, 302, 310, 277, 264], [268, 299, 305, 272], [269, 276, 311, 298], [280, 335, 338, 321, 288], [281, 292, 327, 342, 334], [284, 291, 322, 317], [287, 318, 326, 293], [296, 351, 353, 304], [297, 308, 359, 350], [300, 307, 354, 337, 332], [303, 333, 343, 358, 309], [312, 320, 339, 329], [313, 316, 323], [314, 325, 319], [315, 330, 341, 324], [328, 336, 355, 345], [331, 346, 357, 340], [344, 352, 348], [347, 349, 356]] := ⟨by decide +kernel, by decide +kernel, by decide +kernel, by decide +kernel, by decide +kernel, by decide +kernel, by decide +kernel, by decide +kernel, by decide +kernel, by decide +kernel, by decide +kernel, by decide +kernel, by decide +kernel, by decide +kernel⟩
theorem ks_42 : ∃ FL steps C, KnP (sortC (pltC 4 ++ exC 2)) FL steps C ∧ 2 + FL.length = C.length + 2 * 4 ∧ (4 ≤ 2 → C.length < 63) := by
  rw [sortC_is (l := pltC 4 ++ exC 2) (bs := [[0, 0, 0], [0, 1, 0], [0, 2, 0], [0, 2, 1], [1, 0, 0], [1, 2, 0], [2, 0, 0], [2, 1, 0], [2, 2, 0], [3, 0, 0], [3, 2, 0], [4, 0, 0], [4, 1, 0], [4, 2, 0], [5, 0, 0], [5, 2, 0], [6, 0, 0], [6, 1, 0], [6, 2, 0], [7, 0, 0], [7, 2, 0], [8, 0, 0], [8, 1, 0], [8, 2, 0]]) (by decide +kernel) (by decide +kernel)]
  exact ⟨_, _, _, kp_42, by decide, by decide⟩
end Lw
namespace Lw
open PySem PySem.Spec L2 Ve
@[simp] def B1_law_2 : AS :=
    (sIf (mOr (mNot (mT (mAs (mCons (mVar 3) (mCons (mAs (mCons (mVar 3) mNil) (ar 1 c_passages)) mNil)) (ar 2 c_L_right)))) (mT (m2 (mAs (mCons (mVar 3) mNil) (ar 1 c_passages)) (mAs (mCons (mVar 3) mNil) (ar 1 c_passages)) gNe))) (sRet (mC (.bl false))) sNext)
@[simp] def B1_law_1 : AS :=
    sSeq (sSet 3 (mAs (mCons (mVar 2) (mCons (m2 (mNew (mLst (mCons (mC (.int 1)) (mCons (mC (.int 2)) (mCons (mC (.int 3)) (mCons (mC (.int 4)) (mCons (mC (.int 5)) (mCons (mC (.int 6)) (mCons (mC (.int 9)) (mCons (m2 (mC (.int 7)) (mAs (mCons (mVar 2) (mCons (mC (.int 6)) mNil)) (ar 2 c_L_take)) gAdd) mNil)))))))))) (mAs (mCons (mVar 2) (mCons (mC (.int 8)) mNil)) (ar 2 c_L_take)) gIx) mNil)) (ar 2 c_L_skin)))
    B1_law_2
def B1_law : AS :=
    sSeq (sSet 2 (mAs (mCons (mVar 0) (mCons (mVar 1) mNil)) (ar 2 c_L_hand)))
    B1_law_1
def F1_law : AS := (sForI (mR1 (mCons (mAs (mCons (mC (.int 2)) (mCons (mAs (mCons (mC (.int 6)) (mCons (mAs (mCons (mVar 0) mNil) gLen) mNil)) gMin2) mNil)) gMax2) mNil)) (.nm 1) B1_law)
@[simp] def b_law_5 : AS :=
    (sRet (mAndV (m2 (mAs (mCons (mVar 3) mNil) (ar 1 c_passages)) (mVar 4) gEq) (mOrV (m2 (mVar 4) (mC (.int 2)) gGt) (mAs (mCons (mVar 3) (mCons (mVar 4) mNil)) (ar 2 c_L_right)))))
@[simp] def b_law_4 : AS :=
    sSeq (sSet 3 (m2 (m2 (mAs (mCons (mVar 5) mNil) (ar 1 c_parts)) (mAs (mCons (mVar 5) mNil) (ar 1 c_outer)) gIx) (mC (.int 1)) gIx))
    b_law_5
@[simp] def b_law_3 : AS :=
    sSeq (sSet 5 (mAs (mCons (mVar 2) (mCons (mVar 4) mNil)) (ar 2 c_L_plate)))
    b_law_4
@[simp] def b_law_2 : AS :=
    sSeq (sSet 4 (mAs (mCons (mVar 2) (mCons (mC (.int 5)) mNil)) (ar 2 c_L_take)))
    b_law_3
@[simp] def b_law_1 : AS :=
    sSeq (sSet 2 (mAs (mCons (mVar 0) (mCons (mC (.int 0)) mNil)) (ar 2 c_L_hand)))
    b_law_2
def b_law : AS :=
    sSeq F1_law
    b_law_1
def m_law : List D → Hd → Option (D × Hd) := mDef 6 b_law
theorem known_all {h e : Nat} (hh : h < 5) (he : e < 3) : ∃ FL steps C, KnP (sortC (pltC h ++ exC e)) FL steps C ∧ 2 + FL.length = C.length + 2 * h ∧ (h ≤ 2 → C.length < 63) := by
  match h, e, hh, he with
  | 0, 0, _, _ => exact ks_00
  | 0, 1, _, _ => exact ks_01
  | 0, 2, _, _ => exact ks_02
  | 1, 0, _, _ => exact ks_10
  | 1, 1, _, _ => exact ks_11
  | 1, 2, _, _ => exact ks_12
  | 2, 0, _, _ => exact ks_20
  | 2, 1, _, _ => exact ks_21
  | 2, 2, _, _ => exact ks_22
  | 3, 0, _, _ => exact ks_30
  | 3, 1, _, _ => exact ks_31
  | 3, 2, _, _ => exact ks_32
  | 4, 0, _, _ => exact ks_40
  | 4, 1, _, _ => exact ks_41
  | 4, 2, _, _ => exact ks_42
theorem passes_ex {n : Nat} {J : Nat → Nat → Sd} (sk : Skin n J) : ∃ (Cs : List (List Sd)) (p : Nat), Crs n J Cs ∧ 2 + n = Cs.length + 2 * p ∧ Cs.length ≤ n + 2 := by
  obtain ⟨C, s, a, b⟩ := sys_ex sk
  refine ⟨_, (2 + n - C.length) / 2, s.crs sk, ?_, ?_⟩
  · rw [List.length_map]; omega
  · rw [List.length_map]; exact b
theorem seven {r : Int} (h : 0 ≤ r ∧ r < 6) : ∃ k : Nat, 7 + r = (k : Int) ∧ 7 ≤ k ∧ k ≤ 12 := ⟨(7 + r).toNat, by omega, by omega, by omega⟩
theorem skin_case (ns : List Int) {k : Nat} (hk : k < 100) {H : Hd} (v2 v3 v4 v5 : Option D) : ∃ w2 w3 H', B1_law [some (.scr ns), some (.int (k : Nat)), v2, v3, v4, v5] H = some (.nx, [some (.scr ns), some (.int (k : Nat)), w2, w3, v4, v5], H') := by
  obtain ⟨o, e1, ho⟩ := hand_ok ns k hk H
  have gn : (H ++ [o])[H.length]? = some o := hget_new
  have s1 : sSet 2 (mAs (mCons (mVar 0) (mCons (mVar 1) mNil)) (ar 2 c_L_hand)) [some (.scr ns), some (.int (k : Nat)), v2, v3, v4, v5] H = some (.nx, [some (.scr ns), some (.int (k : Nat)), some (.ref H.length), v3, v4, v5], H ++ [o]) := sSet_of (call_of (cons_of (mVar_of rfl) (cons_of (mVar_of rfl) nil_of)) rfl e1)
  generalize H ++ [o] = H1 at s1 gn
  generalize H.length = q at s1 gn
  obtain ⟨r, o1, e2, r0, r6, h1⟩ := take_ok 0 (by decide) H1 q o gn ho 6 (by decide) (by decide)
  have gn1 : (H1.set q o1)[q]? = some o1 := hset_same gn
  generalize H1.set q o1 = H2 at e2 gn1
  obtain ⟨m, em, m7, m12⟩ := seven ⟨r0, r6⟩
  have el : mNew (mLst (mCons (mC (.int 1)) (mCons (mC (.int 2)) (mCons (mC (.int 3)) (mCons (mC (.int 4)) (mCons (mC (.int 5)) (mCons (mC (.int 6)) (mCons (mC (.int 9)) (mCons (m2 (mC (.int 7)) (mAs (mCons (mVar 2) (mCons (mC (.int 6)) mNil)) (ar 2 c_L_take)) gAdd) mNil))))))))) [some (.scr ns), some (.int (k : Nat)), some (.ref q), v3, v4, v5] H1 = some (.ref H2.length, H2 ++ [.lst (([1, 2, 3, 4, 5, 6, 9, m] : List Nat).map fun x : Nat => D.int (x : Nat))]) := by
    have ea : m2 (mC (.int 7)) (mAs (mCons (mVar 2) (mCons (mC (.int 6)) mNil)) (ar 2 c_L_take)) gAdd [some (.scr ns), some (.int (k : Nat)), some (.ref q), v3, v4, v5] H1 = some (.int (m : Nat), H2) := by
      refine (m2_ev mC_of (call_of (k := 2) (g := c_L_take) (cons_of (mVar_of (i := 2) (d := .ref q) rfl) (cons_of mC_of nil_of)) rfl e2) gAdd_int).trans ?_
      rw [em]
    exact mNew_of (lst_of (cons_of mC_of (cons_of mC_of (cons_of mC_of (cons_of mC_of (cons_of mC_of (cons_of mC_of (cons_of mC_of (cons_of ea nil_of)))))))) (by show 8 ≤ 1000; decide))
  have gn2 := hget_old (l := [O.lst (([1, 2, 3, 4, 5, 6, 9, m] : List Nat).map fun x : Nat => D.int (x : Nat))]) gn1
  have gl2 : (H2 ++ [O.lst (([1, 2, 3, 4, 5, 6, 9, m] : List Nat).map fun x : Nat => D.int (x : Nat))])[H2.length]? = some (.lst (([1, 2, 3, 4, 5, 6, 9, m] : List Nat).map fun x : Nat => D.int (x : Nat))) := hget_new
  have qne : q ≠ H2.length := Nat.ne_of_lt (hlt gn1)
  generalize H2 ++ [O.lst (([1, 2, 3, 4, 5, 6, 9, m] : List Nat).map fun x : Nat => D.int (x : Nat))] = H3 at el gn2 gl2
  generalize H2.length = l at el gl2 qne
  obtain ⟨j, o2, e3, j0, j8, h2⟩ := take_ok 1 (by decide) H3 q o1 gn2 h1 8 (by decide) (by decide)
  have gn3 : (H3.set q o2)[q]? = some o2 := hset_same gn2
  have gl3 := hset_ne (o' := o2) qne gl2
  generalize H3.set q o2 = H4 at e3 gn3 gl3
  obtain ⟨n, n1, n12, en⟩ : ∃ n : Nat, 1 ≤ n ∧ n ≤ 12 ∧ gIx (.ref l) (.int j) H4 = some (.int (n : Nat), H4) := by
    have hj : j = ((j.toNat : Nat) : Int) := by omega
    have hlt : j.toNat < 8 := by omega
    rw [hj]
    generalize j.toNat = i at hlt
    match i, hlt with
    | 0, _ => exact ⟨1, by decide, by decide, gIx_refN gl3 rfl⟩
    | 1, _ => exact ⟨2, by decide, by decide, gIx_refN gl3 rfl⟩
    | 2, _ => exact ⟨3, by decide, by decide, gIx_refN gl3 rfl⟩
    | 3, _ => exact ⟨4, by decide, by decide, gIx_refN gl3 rfl⟩
    | 4, _ => exact ⟨5, by decide, by decide, gIx_refN gl3 rfl⟩
    | 5, _ => exact ⟨6, by decide, by decide, gIx_refN gl3 rfl⟩
    | 6, _ => exact ⟨9, by decide, by decide, gIx_refN gl3 rfl⟩
    | 7, _ => exact ⟨m, by omega, m12, gIx_refN gl3 rfl⟩
  obtain ⟨J, o3, e4, sk, h3⟩ := skin_ok 2 (by decide) H4 q o2 gn3 h2 n n1 (by omega)
  generalize H4.set q o3 = H5 at e4
  have s2 := sSet_of (i := 3) (call_of (k := 2) (g := c_L_skin) (ls := [some (.scr ns), some (.int (k : Nat)), some (.ref q), v3, v4, v5]) (cons_of (mVar_of (i := 2) (d := .ref q) rfl) (cons_of (m2_ev el (call_of (k := 2) (g := c_L_take) (cons_of (mVar_of (i := 2) (d := .ref q) rfl) (cons_of mC_of nil_of)) rfl e3) en) nil_of)) rfl e4)
  obtain ⟨Cs, p, cr, ep, lc⟩ := passes_ex sk
  have pk := fun hp => passages_ok (by omega) sk cr ep hp
  obtain ⟨H6, er⟩ := right_ok (by omega) sk cr (by omega) ep H5
  have t1 : mNot (mT (mAs (mCons (mVar 3) (mCons (mAs (mCons (mVar 3) mNil) (ar 1 c_passages)) mNil)) (ar 2 c_L_right))) [some (.scr ns), some (.int (k : Nat)), some (.ref q), some (skD n J), v4, v5] H5 = some (false, H6) := by
    have := mT_of (call_of (k := 2) (g := c_L_right) (ls := [some (.scr ns), some (.int (k : Nat)), some (.ref q), some (skD n J), v4, v5]) (cons_of (mVar_of (i := 3) rfl) (cons_of (call_of (k := 1) (g := c_passages) (cons_of (mVar_of (i := 3) rfl) nil_of) rfl (pk H5)) nil_of)) rfl er)
    exact not_of this
  have t2 : mT (m2 (mAs (mCons (mVar 3) mNil) (ar 1 c_passages)) (mAs (mCons (mVar 3) mNil) (ar 1 c_passages)) gNe) [some (.scr ns), some (.int (k : Nat)), some (.ref q), some (skD n J), v4, v5] H6 = some (false, H6) := by
    refine mT_of (m2_ev (call_of (cons_of (mVar_of rfl) nil_of) rfl (pk H6)) (call_of (cons_of (mVar_of rfl) nil_of) rfl (pk H6)) ?_)
    show some (D.bl (!(((p : Nat) : Int) == ((p : Nat) : Int))), H6) = _
    rw [beq_self_eq_true]
    rfl
  exact ⟨_, _, _, sSeq_of s1 (sSeq_of s2 (sIf_f (or_f t1 t2) rfl))⟩
theorem law_pure (ns : List Int) (h : ns.length ≤ 63) : ∃ hp', m_law [.scr ns] [] = some (.bl true, hp') := by
  obtain ⟨M, hM, eM⟩ := head_ok 2 6 (by decide) (by decide) (ls := [some (.scr ns), none, none, none, none, none]) (ns := ns) rfl []
  obtain ⟨ls', H, e, v1, v2, v3, rfl⟩ := sForI_pre (t := .nm 1) (b := B1_law) (fun i : Nat => D.int (i : Nat)) (fun _ ls hp => ∃ v1 v2 v3, ls = [some (.scr ns), v1, v2, v3, none, none]) eM (fun _ _ _ _ => rfl) ⟨_, _, _, rfl⟩ (by
    rintro dn k r ls hp ed ⟨v1, v2, v3, rfl⟩
    have hk : k < 100 := by
      have : k ∈ List.range M := by rw [ed]; simp
      have := List.mem_range.mp this
      omega
    obtain ⟨w2, w3, H', e⟩ := skin_case ns hk (H := hp) v2 v3 none none
    exact ⟨_, _, _, asg_nm, .inl e, _, _, _, rfl⟩)
  obtain ⟨o, e1, ho⟩ := hand_ok ns 0 (by decide) H
  have gn : (H ++ [o])[H.length]? = some o := hget_new
  have s1 : sSet 2 (mAs (mCons (mVar 0) (mCons (mC (.int 0)) mNil)) (ar 2 c_L_hand)) [some (.scr ns), v1, v2, v3, none, none] H = some (.nx, [some (.scr ns), v1, some (.ref H.length), v3, none, none], H ++ [o]) := sSet_of (call_of (cons_of (mVar_of rfl) (cons_of mC_of nil_of)) rfl e1)
  generalize H ++ [o] = H1 at s1 gn
  generalize H.length = q at s1 gn
  obtain ⟨r, o1, e2, r0, r5, h1⟩ := take_ok 0 (by decide) H1 q o gn ho 5 (by decide) (by decide)
  have gn1 : (H1.set q o1)[q]? = some o1 := hset_same gn
  generalize H1.set q o1 = H2 at e2 gn1
  obtain ⟨m, rfl⟩ : ∃ m : Nat, r = (m : Int) := ⟨r.toNat, by omega⟩
  have hm : m < 5 := by omega
  have s2 : sSet 4 (mAs (mCons (mVar 2) (mCons (mC (.int 5)) mNil)) (ar 2 c_L_take)) [some (.scr ns), v1, some (.ref q), v3, none, none] H1 = some (.nx, [some (.scr ns), v1, some (.ref q), v3, some (.int (m : Nat)), none], H2) := sSet_of (call_of (cons_of (mVar_of rfl) (cons_of mC_of nil_of)) rfl e2)
  obtain ⟨x, o2, hx, e3, _⟩ := plate_ok 1 (by decide) H2 q o1 gn1 h1 hm
  generalize H2.set q o2 = H3 at e3
  obtain ⟨FL, steps, C, kn, ek, k63⟩ := known_all hm hx
  generalize sortC (pltC m ++ exC x) = bs at e3 kn
  have s3 : sSet 5 (mAs (mCons (mVar 2) (mCons (mVar 4) mNil)) (ar 2 c_L_plate)) [some (.scr ns), v1, some (.ref q), v3, some (.int (m : Nat)), none] H2 = some (.nx, [some (.scr ns), v1, some (.ref q), v3, some (.int (m : Nat)), some (.tup (bs.map T))], H3) := sSet_of (call_of (cons_of (mVar_of rfl) (cons_of (mVar_of rfl) nil_of)) rfl e3)
  obtain ⟨rs, e4, g4, sk⟩ := kn.told H3
  have g0 : gIx (.ref H3.length) (.int (0 : Nat)) (H3 ++ [.lst rs]) = some (.tup [.tup (FL.map T), skD FL.length (skJ bs FL)], H3 ++ [.lst rs]) := gIx_refN hget_new g4
  have s4 : sSet 3 (m2 (m2 (mAs (mCons (mVar 5) mNil) (ar 1 c_parts)) (mAs (mCons (mVar 5) mNil) (ar 1 c_outer)) gIx) (mC (.int 1)) gIx) [some (.scr ns), v1, some (.ref q), v3, some (.int (m : Nat)), some (.tup (bs.map T))] H3 = some (.nx, [some (.scr ns), v1, some (.ref q), some (skD FL.length (skJ bs FL)), some (.int (m : Nat)), some (.tup (bs.map T))], H3 ++ [.lst rs]) :=
    sSet_of (m2_ev (m2_ev (call_of (cons_of (mVar_of rfl) nil_of) rfl e4) (call_of (cons_of (mVar_of rfl) nil_of) rfl (kn.outer _)) g0) mC_of (gIx_tupN (j := 1) rfl))
  generalize H3 ++ [.lst rs] = H4 at s4
  have cr := kn.sys.crs sk
  have lc : (C.map fun l => l.map plc).length = C.length := List.length_map ..
  have pk := fun hp => passages_ok kn.few sk cr (p := m) (by rw [lc]; exact ek) hp
  have e5 : m2 (mAs (mCons (mVar 3) mNil) (ar 1 c_passages)) (mVar 4) gEq [some (.scr ns), v1, some (.ref q), some (skD FL.length (skJ bs FL)), some (.int (m : Nat)), some (.tup (bs.map T))] H4 = some (.bl true, H4) := by
    refine m2_ev (call_of (cons_of (mVar_of rfl) nil_of) rfl (pk H4)) (mVar_of rfl) ?_
    show some (D.bl (((m : Nat) : Int) == ((m : Nat) : Int)), H4) = _
    rw [beq_self_eq_true]
  have e6 : m2 (mVar 4) (mC (.int 2)) gGt [some (.scr ns), v1, some (.ref q), some (skD FL.length (skJ bs FL)), some (.int (m : Nat)), some (.tup (bs.map T))] H4 = some (.bl (decide (((m : Nat) : Int) > 2)), H4) := m2_ev (mVar_of rfl) mC_of rfl
  have fin : ∃ H5, mOrV (m2 (mVar 4) (mC (.int 2)) gGt) (mAs (mCons (mVar 3) (mCons (mVar 4) mNil)) (ar 2 c_L_right)) [some (.scr ns), v1, some (.ref q), some (skD FL.length (skJ bs FL)), some (.int (m : Nat)), some (.tup (bs.map T))] H4 = some (.bl true, H5) := by
    rw [mOrV_s2, e6]
    by_cases c : m ≤ 2
    · rw [decide_eq_false (by omega)]
      obtain ⟨H5, er⟩ := right_ok kn.few sk cr (by rw [lc]; exact k63 c) (p := m) (by rw [lc]; exact ek) H4
      exact ⟨H5, show mAs (mCons (mVar 3) (mCons (mVar 4) mNil)) (ar 2 c_L_right) [some (.scr ns), v1, some (.ref q), some (skD FL.length (skJ bs FL)), some (.int (m : Nat)), some (.tup (bs.map T))] H4 = _ from call_of (k := 2) (g := c_L_right) (cons_of (mVar_of (i := 3) (d := skD FL.length (skJ bs FL)) rfl) (cons_of (mVar_of (i := 4) (d := .int (m : Nat)) rfl) nil_of)) rfl er⟩
    · rw [decide_eq_true (by omega)]
      exact ⟨H4, rfl⟩
  obtain ⟨H5, e7⟩ := fin
  refine ⟨H5, def_of (sSeq_of (show F1_law _ _ = _ from e) (sSeq_of s1 (sSeq_of s2 (sSeq_of s3 (sSeq_of s4 (ret_of ?_))))))⟩
  rw [mAndV_s2, e5]
  exact e7
end Lw
namespace Lw
open PySem PySem.Spec L2 Ve
def topS (i : Nat) : Stmt := PySem.Challenge.pw_flatbody_k19_passages.main.body.getD i (.Pass ⟨0, 0, 0, 0⟩)
abbrev s_next_corner : Stmt := topS 1
abbrev N_next_corner : List Str := ["skin", "corner", "face", "number"]
theorem sc_next_corner : FnScope N_next_corner ["skin", "corner"] (defScope s_next_corner) := ⟨rfl, rfl, rfl, by decide +kernel, rfl, by decide +kernel, by decide +kernel⟩
abbrev s_round_of : Stmt := topS 2
abbrev N_round_of : List Str := ["skin", "first", "found", "here"]
theorem sc_round_of : FnScope N_round_of ["skin", "first"] (defScope s_round_of) := ⟨rfl, rfl, rfl, by decide +kernel, rfl, by decide +kernel, by decide +kernel⟩
abbrev s_corners : Stmt := topS 3
abbrev N_corners : List Str := ["skin", "met", "found", "face", "number", "one", "place"]
theorem sc_corners : FnScope N_corners ["skin"] (defScope s_corners) := ⟨rfl, rfl, rfl, by decide +kernel, rfl, by decide +kernel, by decide +kernel⟩
abbrev s_passages : Stmt := topS 4
abbrev N_passages : List Str := ["skin"]
theorem sc_passages : FnScope N_passages ["skin"] (defScope s_passages) := ⟨rfl, rfl, rfl, by decide +kernel, rfl, by decide +kernel, by decide +kernel⟩
abbrev s_against : Stmt := topS 7
abbrev N_against : List Str := ["d"]
theorem sc_against : FnScope N_against ["d"] (defScope s_against) := ⟨rfl, rfl, rfl, by decide +kernel, rfl, by decide +kernel, by decide +kernel⟩
abbrev s_beside_cube : Stmt := topS 8
abbrev N_beside_cube : List Str := ["cube", "d", "axis"]
theorem sc_beside_cube : FnScope N_beside_cube ["cube", "d"] (defScope s_beside_cube) := ⟨rfl, rfl, rfl, by decide +kernel, rfl, by decide +kernel, by decide +kernel⟩
abbrev s_sides_of : Stmt := topS 9
abbrev N_sides_of : List Str := ["d", "one", "other"]
theorem sc_sides_of : FnScope N_sides_of ["d"] (defScope s_sides_of) := ⟨rfl, rfl, rfl, by decide +kernel, rfl, by decide +kernel, by decide +kernel⟩
abbrev s_side_to : Stmt := topS 10
abbrev N_side_to : List Str := ["d", "t"]
theorem sc_side_to : FnScope N_side_to ["d", "t"] (defScope s_side_to) := ⟨rfl, rfl, rfl, by decide +kernel, rfl, by decide +kernel, by decide +kernel⟩
abbrev s_known_of : Stmt := topS 13
abbrev N_known_of : List Str := ["body", "cube"]
theorem sc_known_of : FnScope N_known_of ["body"] (defScope s_known_of) := ⟨rfl, rfl, rfl, by decide +kernel, rfl, by decide +kernel, by decide +kernel⟩
abbrev s_faces : Stmt := topS 14
abbrev N_faces : List Str := ["body", "known", "found", "cube", "d"]
theorem sc_faces : FnScope N_faces ["body"] (defScope s_faces) := ⟨rfl, rfl, rfl, by decide +kernel, rfl, by decide +kernel, by decide +kernel⟩
abbrev s_beyond_in : Stmt := topS 15
abbrev N_beyond_in : List Str := ["known", "face", "side", "cube", "d", "t", "along", "across"]
theorem sc_beyond_in : FnScope N_beyond_in ["known", "face", "side"] (defScope s_beyond_in) := ⟨rfl, rfl, rfl, by decide +kernel, rfl, by decide +kernel, by decide +kernel⟩
abbrev s_part_with : Stmt := topS 18
abbrev N_part_with : List Str := ["known", "first", "met", "waiting", "here", "side", "other"]
theorem sc_part_with : FnScope N_part_with ["known", "first"] (defScope s_part_with) := ⟨rfl, rfl, rfl, by decide +kernel, rfl, by decide +kernel, by decide +kernel⟩
abbrev s_skin_of : Stmt := topS 19
abbrev N_skin_of : List Str := ["known", "some", "places", "rows", "face", "joined", "k", "side", "other", "crease"]
theorem sc_skin_of : FnScope N_skin_of ["known", "some"] (defScope s_skin_of) := ⟨rfl, rfl, rfl, by decide +kernel, rfl, by decide +kernel, by decide +kernel⟩
abbrev s_parts : Stmt := topS 20
abbrev N_parts : List Str := ["body", "known", "met", "found", "face", "some", "other"]
theorem sc_parts : FnScope N_parts ["body"] (defScope s_parts) := ⟨rfl, rfl, rfl, by decide +kernel, rfl, by decide +kernel, by decide +kernel⟩
abbrev s_outer : Stmt := topS 21
abbrev N_outer : List Str := ["body", "last", "number", "some", "skin", "cube"]
theorem sc_outer : FnScope N_outer ["body"] (defScope s_outer) := ⟨rfl, rfl, rfl, by decide +kernel, rfl, by decide +kernel, by decide +kernel⟩
abbrev s_L_hand : Stmt := topS 23
abbrev N_L_hand : List Str := ["_law_script", "_law_k", "_law_cell"]
theorem sc_L_hand : FnScope N_L_hand ["_law_script", "_law_k"] (defScope s_L_hand) := ⟨rfl, rfl, rfl, by decide +kernel, rfl, by decide +kernel, by decide +kernel⟩
abbrev s_L_take : Stmt := topS 24
abbrev N_L_take : List Str := ["_law_hand_here", "_law_many", "_law_digit", "_law_turn", "_law_mixed", "_law_more"]
theorem sc_L_take : FnScope N_L_take ["_law_hand_here", "_law_many"] (defScope s_L_take) := ⟨rfl, rfl, rfl, by decide +kernel, rfl, by decide +kernel, by decide +kernel⟩
abbrev s_L_pick : Stmt := topS 25
abbrev N_L_pick : List Str := ["_law_hand_here", "_law_some"]
theorem sc_L_pick : FnScope N_L_pick ["_law_hand_here", "_law_some"] (defScope s_L_pick) := ⟨rfl, rfl, rfl, by decide +kernel, rfl, by decide +kernel, by decide +kernel⟩
abbrev s_L_left : Stmt := topS 26
abbrev N_L_left : List Str := ["_law_rows", "_law_found", "_law_f", "_law_row", "_law_j"]
theorem sc_L_left : FnScope N_L_left ["_law_rows"] (defScope s_L_left) := ⟨rfl, rfl, rfl, by decide +kernel, rfl, by decide +kernel, by decide +kernel⟩
abbrev s_L_skin : Stmt := topS 27
abbrev N_L_skin : List Str := ["_law_hand_here", "_law_many", "_law_rows", "_law_f", "_law_g", "_law_j", "_law_i", "_law_left_here", "_law_row"]
theorem sc_L_skin : FnScope N_L_skin ["_law_hand_here", "_law_many"] (defScope s_L_skin) := ⟨rfl, rfl, rfl, by decide +kernel, rfl, by decide +kernel, by decide +kernel⟩
abbrev s_L_least_places : Stmt := topS 28
abbrev N_L_least_places : List Str := ["_law_skin_here", "_law_least", "_law_f", "_law_i", "_law_row", "_law_one", "_law_other", "_law_low", "_law_high", "_law_place"]
theorem sc_L_least_places : FnScope N_L_least_places ["_law_skin_here"] (defScope s_L_least_places) := ⟨rfl, rfl, rfl, by decide +kernel, rfl, by decide +kernel, by decide +kernel⟩
abbrev s_L_plate : Stmt := topS 29
abbrev N_L_plate : List Str := ["_law_hand_here", "_law_holes", "_law_cubes", "_law_x", "_law_y"]
theorem sc_L_plate : FnScope N_L_plate ["_law_hand_here", "_law_holes"] (defScope s_L_plate) := ⟨rfl, rfl, rfl, by decide +kernel, rfl, by decide +kernel, by decide +kernel⟩
abbrev s_L_right : Stmt := topS 30
abbrev N_L_right : List Str := ["_law_skin_here", "_law_found", "_law_many"]
theorem sc_L_right : FnScope N_L_right ["_law_skin_here", "_law_found"] (defScope s_L_right) := ⟨rfl, rfl, rfl, by decide +kernel, rfl, by decide +kernel, by decide +kernel⟩
abbrev s_law : Stmt := topS 31
abbrev N_law : List Str := ["_law_script", "_law_k", "_law_hand_here", "_law_skin_here", "_law_holes", "_law_body"]
theorem sc_law : FnScope N_law ["_law_script"] (defScope s_law) := ⟨rfl, rfl, rfl, by decide +kernel, rfl, by decide +kernel, by decide +kernel⟩
structure Bi (mg : Str → Option Value) : Prop where
  z_tuple : mg "tuple" = none
  z_len : mg "len" = none
  z_range : mg "range" = none
  z_dict : mg "dict" = none
  z_sorted : mg "sorted" = none
  z_enumerate : mg "enumerate" = none
  z_max : mg "max" = none
  z_int : mg "int" = none
  z_min : mg "min" = none
  z_list : mg "list" = none
  z_set : mg "set" = none
  z_isinstance : mg "isinstance" = none
  z_bool : mg "bool" = none
structure Ks (K : PySem.W.Frag) (mg : Str → Option Value) : Prop where
  g_FIRST_SIDES' : ∃ u v, mg "FIRST_SIDES" = some u ∧ RelV v u ∧ ∀ H μ, Rp K H μ k_FIRST_SIDES v
  g_DIRECTIONS' : ∃ u v, mg "DIRECTIONS" = some u ∧ RelV v u ∧ ∀ H μ, Rp K H μ k_DIRECTIONS v
  g_SIDES' : ∃ u v, mg "SIDES" = some u ∧ RelV v u ∧ ∀ H μ, Rp K H μ k_SIDES v
section
variable {K : PySem.W.Frag} {mg : Str → Option Value}
theorem Ks.g_FIRST_SIDES (C : Ks K mg) : mg "FIRST_SIDES" = some C.g_FIRST_SIDES'.choose := C.g_FIRST_SIDES'.choose_spec.choose_spec.1
theorem Ks.r_FIRST_SIDES (C : Ks K mg) : RelV C.g_FIRST_SIDES'.choose_spec.choose C.g_FIRST_SIDES'.choose := C.g_FIRST_SIDES'.choose_spec.choose_spec.2.1
theorem Ks.p_FIRST_SIDES (C : Ks K mg) : ∀ H μ, Rp K H μ k_FIRST_SIDES C.g_FIRST_SIDES'.choose_spec.choose := C.g_FIRST_SIDES'.choose_spec.choose_spec.2.2
theorem Ks.g_DIRECTIONS (C : Ks K mg) : mg "DIRECTIONS" = some C.g_DIRECTIONS'.choose := C.g_DIRECTIONS'.choose_spec.choose_spec.1
theorem Ks.r_DIRECTIONS (C : Ks K mg) : RelV C.g_DIRECTIONS'.choose_spec.choose C.g_DIRECTIONS'.choose := C.g_DIRECTIONS'.choose_spec.choose_spec.2.1
theorem Ks.p_DIRECTIONS (C : Ks K mg) : ∀ H μ, Rp K H μ k_DIRECTIONS C.g_DIRECTIONS'.choose_spec.choose := C.g_DIRECTIONS'.choose_spec.choose_spec.2.2
theorem Ks.g_SIDES (C : Ks K mg) : mg "SIDES" = some C.g_SIDES'.choose := C.g_SIDES'.choose_spec.choose_spec.1
theorem Ks.r_SIDES (C : Ks K mg) : RelV C.g_SIDES'.choose_spec.choose C.g_SIDES'.choose := C.g_SIDES'.choose_spec.choose_spec.2.1
theorem Ks.p_SIDES (C : Ks K mg) : ∀ H μ, Rp K H μ k_SIDES C.g_SIDES'.choose_spec.choose := C.g_SIDES'.choose_spec.choose_spec.2.2
end
section
variable {P : Program} {w : World} {K : PySem.W.Frag} {mg : Str → Option Value} {base : Heap}
set_option maxHeartbeats 0 in
theorem ok_next_corner (B : Bi mg) (C : Ks K mg) {f : Addr} {fd : FuncData} (F : Fun K "next_corner" "next_corner" s_next_corner f fd) (gm : mg "next_corner" = some (.ref f)) (hb : Binds K fd ["skin", "corner"] []) : Fn P w K mg base 1 "next_corner" 2 m_next_corner := by
  refine fn_mk (N := N_next_corner) (fb := b_next_corner) F sc_next_corner gm hb fun cdv A outer s H E hr => ?_
  have hu := hu_ofG hr
  exact (dss_cons (ds_asg (de_var 1) (dg_tup rfl (dgs_cons (dg_name (i := 2) sc_next_corner.nd rfl (by first | exact Or.inl rfl | exact Or.inr rfl)) (dgs_cons (dg_name (i := 3) sc_next_corner.nd rfl (by first | exact Or.inl rfl | exact Or.inr rfl)) dgs_nil))))
    (dss_one (ds_ret (de_ix hu (de_ix hu (de_var 0) (de_var 2)) (de_op o_mod (de_op o_add (de_var 3) de_int) de_int)))))
set_option maxHeartbeats 0 in
theorem ok_round_of (B : Bi mg) (C : Ks K mg) {f : Addr} {fd : FuncData} (F : Fun K "round_of" "round_of" s_round_of f fd) (gm : mg "round_of" = some (.ref f)) (hb : Binds K fd ["skin", "first"] []) (F_next_corner : Fn P w K mg base 1 "next_corner" 2 c_next_corner) : Fn P w K mg base 2 "round_of" 2 m_round_of := by
  refine fn_mk (N := N_round_of) (fb := b_round_of) F sc_round_of gm hb fun cdv A outer s H E hr => ?_
  have hu := hu_ofG hr
  exact (dss_cons (ds_set (i := 2) sc_round_of.nd rfl (by first | exact Or.inl rfl | exact Or.inr rfl) (de_new (le_lst (da_cons (de_var 1) da_nil))))
    (dss_cons (ds_set (i := 3) sc_round_of.nd rfl (by first | exact Or.inl rfl | exact Or.inr rfl) (de_callF (F_next_corner.mono (by decide)) hr (by rfl) (da_cons (de_var 0) (da_cons (de_var 1) da_nil))))
    (dss_cons (ds_while 1000000 PassesOwn.never (dt_cmp (o_ne hr.units) (de_var 3) (de_var 1) (nomark _)) (dss_cons (ds_expr (de_lm PySem.F.slot_list_append PySem.F.type_list_append t_append (de_var 2) (da_cons (de_var 3) da_nil)))
    (dss_one (ds_set (i := 3) sc_round_of.nd rfl (by first | exact Or.inl rfl | exact Or.inr rfl) (de_callF (F_next_corner.mono (by decide)) hr (by rfl) (da_cons (de_var 0) (da_cons (de_var 3) da_nil)))))))
    (dss_one (ds_ret (de_callTy c_tuple (by rfl) B.z_tuple bb_tuple (da_cons (de_var 2) da_nil)))))))
set_option maxHeartbeats 0 in
theorem ok_corners (B : Bi mg) (C : Ks K mg) {f : Addr} {fd : FuncData} (F : Fun K "corners" "corners" s_corners f fd) (gm : mg "corners" = some (.ref f)) (hb : Binds K fd ["skin"] []) (F_round_of : Fn P w K mg base 2 "round_of" 2 c_round_of) : Fn P w K mg base 3 "corners" 1 m_corners := by
  refine fn_mk (N := N_corners) (fb := b_corners) F sc_corners gm hb fun cdv A outer s H E hr => ?_
  have hu := hu_ofG hr
  exact (dss_cons (ds_set (i := 1) sc_corners.nd rfl (by first | exact Or.inl rfl | exact Or.inr rfl) de_dict0)
    (dss_cons (ds_set (i := 2) sc_corners.nd rfl (by first | exact Or.inl rfl | exact Or.inr rfl) (de_new (le_lst da_nil)))
    (dss_cons (ds_for (fi := (mR1 (mCons (mAs (mCons (mVar 0) mNil) gLen) mNil))) (t := (.nm 3)) (f := B2_corners) PassesOwn.never rfl (di_range1 (by rfl) B.z_range (da_cons (de_callB c_len (by rfl) B.z_len bb_len (da_cons (de_var 0) da_nil)) da_nil)) (dg_name (i := 3) sc_corners.nd rfl (by first | exact Or.inl rfl | exact Or.inr rfl)) (dss_one (ds_for (fi := (mR1 (mCons (mC (.int 4)) mNil))) (t := (.nm 4)) (f := B1_corners) PassesOwn.never rfl (di_range1 (by rfl) B.z_range (da_cons de_int da_nil)) (dg_name (i := 4) sc_corners.nd rfl (by first | exact Or.inl rfl | exact Or.inr rfl)) (dss_one (ds_if (dt_cmp (o_notIn hr.units65) (de_tup (da_cons (de_var 3) (da_cons (de_var 4) da_nil))) (de_var 1) rfl) (dss_cons (ds_set (i := 5) sc_corners.nd rfl (by first | exact Or.inl rfl | exact Or.inr rfl) (de_callF (F_round_of.mono (by decide)) hr (by rfl) (da_cons (de_var 0) (da_cons (de_tup (da_cons (de_var 3) (da_cons (de_var 4) da_nil))) da_nil))))
    (dss_cons (ds_expr (de_dm PySem.F.slot_dict_update PySem.F.type_dict_update (t_update hu) (de_var 1) (da_cons (de_callTyL (n_dict hr.units65 rfl) (by rfl) B.z_dict bb_dict (le_lc (own := [("place", 6)]) rfl sc_corners.nd (di_seq (de_var 5)) (blkOk_by (N := N_corners) (sc := defScope s_corners) (by decide +kernel)) (fun _ _ _ _ _ => (dg_name (i := 6) sc_corners.nd rfl (by first | exact Or.inl rfl | exact Or.inr rfl))) (fun _ _ _ _ _ => dts_nil) (fun _ _ _ _ _ => (de_tup (da_cons (de_var 6) (da_cons de_bl da_nil)))))) da_nil)))
    (dss_one (ds_expr (de_lm PySem.F.slot_list_append PySem.F.type_list_append t_append (de_var 2) (da_cons (de_var 5) da_nil)))))) dss_nil)))))
    (dss_one (ds_ret (de_new (le_sorted rfl hr.units (by rfl) B.z_sorted bb_sorted (de_var 2))))))))
set_option maxHeartbeats 0 in
theorem ok_passages (B : Bi mg) (C : Ks K mg) {f : Addr} {fd : FuncData} (F : Fun K "passages" "passages" s_passages f fd) (gm : mg "passages" = some (.ref f)) (hb : Binds K fd ["skin"] []) (F_corners : Fn P w K mg base 3 "corners" 1 c_corners) : Fn P w K mg base 4 "passages" 1 m_passages := by
  refine fn_mk (N := N_passages) (fb := b_passages) F sc_passages gm hb fun cdv A outer s H E hr => ?_
  have hu := hu_ofG hr
  exact (dss_one (ds_ret (de_op o_div (de_op o_sub (de_op o_add de_int (de_callB c_len (by rfl) B.z_len bb_len (da_cons (de_var 0) da_nil))) (de_callB c_len (by rfl) B.z_len bb_len (da_cons (de_callF (F_corners.mono (by decide)) hr (by rfl) (da_cons (de_var 0) da_nil)) da_nil))) de_int)))
set_option maxHeartbeats 0 in
theorem ok_against (B : Bi mg) (C : Ks K mg) {f : Addr} {fd : FuncData} (F : Fun K "against" "against" s_against f fd) (gm : mg "against" = some (.ref f)) (hb : Binds K fd ["d"] []) : Fn P w K mg base 1 "against" 1 m_against := by
  refine fn_mk (N := N_against) (fb := b_against) F sc_against gm hb fun cdv A outer s H E hr => ?_
  have hu := hu_ofG hr
  exact (dss_one (ds_ret (de_op o_sub (de_op o_add (de_var 0) de_int) (de_op o_mul de_int (de_op o_mod (de_var 0) de_int)))))
set_option maxHeartbeats 0 in
theorem ok_beside_cube (B : Bi mg) (C : Ks K mg) {f : Addr} {fd : FuncData} (F : Fun K "beside_cube" "beside_cube" s_beside_cube f fd) (gm : mg "beside_cube" = some (.ref f)) (hb : Binds K fd ["cube", "d"] []) : Fn P w K mg base 1 "beside_cube" 2 m_beside_cube := by
  refine fn_mk (N := N_beside_cube) (fb := b_beside_cube) F sc_beside_cube gm hb fun cdv A outer s H E hr => ?_
  have hu := hu_ofG hr
  exact (dss_cons (ds_set (i := 2) sc_beside_cube.nd rfl (by first | exact Or.inl rfl | exact Or.inr rfl) (de_op o_div (de_var 1) de_int))
    (dss_one (ds_ret (de_op o_add (de_op o_add (de_slice (de_var 0) dpo_none (dpo_some (de_var 2))) (de_tup (da_cons (de_op o_sub (de_op o_add (de_ix hu (de_var 0) (de_var 2)) de_int) (de_op o_mul de_int (de_op o_mod (de_var 1) de_int))) da_nil))) (de_slice (de_var 0) (dpo_some (de_op o_add (de_var 2) de_int)) dpo_none)))))
set_option maxHeartbeats 0 in
theorem ok_sides_of (B : Bi mg) (C : Ks K mg) {f : Addr} {fd : FuncData} (F : Fun K "sides_of" "sides_of" s_sides_of f fd) (gm : mg "sides_of" = some (.ref f)) (hb : Binds K fd ["d"] []) (F_against : Fn P w K mg base 1 "against" 1 c_against) : Fn P w K mg base 2 "sides_of" 1 m_sides_of := by
  refine fn_mk (N := N_sides_of) (fb := b_sides_of) F sc_sides_of gm hb fun cdv A outer s H E hr => ?_
  have hu := hu_ofG hr
  exact (dss_cons (ds_asg (de_ix hu (de_glob (by rfl) C.g_FIRST_SIDES C.r_FIRST_SIDES C.p_FIRST_SIDES) (de_var 0)) (dg_tup rfl (dgs_cons (dg_name (i := 1) sc_sides_of.nd rfl (by first | exact Or.inl rfl | exact Or.inr rfl)) (dgs_cons (dg_name (i := 2) sc_sides_of.nd rfl (by first | exact Or.inl rfl | exact Or.inr rfl)) dgs_nil))))
    (dss_one (ds_ret (de_tupW (da_cons (de_var 1) (da_cons (de_var 2) (da_cons (de_callF (F_against.mono (by decide)) hr (by rfl) (da_cons (de_var 1) da_nil)) (da_cons (de_callF (F_against.mono (by decide)) hr (by rfl) (da_cons (de_var 2) da_nil)) da_nil))))))))
set_option maxHeartbeats 0 in
theorem ok_side_to (B : Bi mg) (C : Ks K mg) {f : Addr} {fd : FuncData} (F : Fun K "side_to" "side_to" s_side_to f fd) (gm : mg "side_to" = some (.ref f)) (hb : Binds K fd ["d", "t"] []) (F_sides_of : Fn P w K mg base 2 "sides_of" 1 c_sides_of) : Fn P w K mg base 3 "side_to" 2 m_side_to := by
  refine fn_mk (N := N_side_to) (fb := b_side_to) F sc_side_to gm hb fun cdv A outer s H E hr => ?_
  have hu := hu_ofG hr
  exact (dss_one (ds_ret (de_wm PySem.F.slot_tuple_index PySem.F.type_tuple_index (t_tindex hr.units65) (de_callF (F_sides_of.mono (by decide)) hr (by rfl) (da_cons (de_var 0) da_nil)) (da_cons (de_var 1) da_nil))))
set_option maxHeartbeats 0 in
theorem ok_known_of (B : Bi mg) (C : Ks K mg) {f : Addr} {fd : FuncData} (F : Fun K "known_of" "known_of" s_known_of f fd) (gm : mg "known_of" = some (.ref f)) (hb : Binds K fd ["body"] []) : Fn P w K mg base 1 "known_of" 1 m_known_of := by
  refine fn_mk (N := N_known_of) (fb := b_known_of) F sc_known_of gm hb fun cdv A outer s H E hr => ?_
  have hu := hu_ofG hr
  exact (dss_one (ds_ret (de_callTyL (n_dict hr.units65 rfl) (by rfl) B.z_dict bb_dict (le_lc (own := [("cube", 1)]) rfl sc_known_of.nd (di_seq (de_var 0)) (blkOk_by (N := N_known_of) (sc := defScope s_known_of) (by decide +kernel)) (fun _ _ _ _ _ => (dg_name (i := 1) sc_known_of.nd rfl (by first | exact Or.inl rfl | exact Or.inr rfl))) (fun _ _ _ _ _ => dts_nil) (fun _ _ _ _ _ => (de_tup (da_cons (de_var 1) (da_cons de_bl da_nil))))))))
set_option maxHeartbeats 0 in
theorem ok_faces (B : Bi mg) (C : Ks K mg) {f : Addr} {fd : FuncData} (F : Fun K "faces" "faces" s_faces f fd) (gm : mg "faces" = some (.ref f)) (hb : Binds K fd ["body"] []) (F_beside_cube : Fn P w K mg base 1 "beside_cube" 2 c_beside_cube) (F_known_of : Fn P w K mg base 1 "known_of" 1 c_known_of) : Fn P w K mg base 2 "faces" 1 m_faces := by
  refine fn_mk (N := N_faces) (fb := b_faces) F sc_faces gm hb fun cdv A outer s H E hr => ?_
  have hu := hu_ofG hr
  exact (dss_cons (ds_set (i := 1) sc_faces.nd rfl (by first | exact Or.inl rfl | exact Or.inr rfl) (de_callF (F_known_of.mono (by decide)) hr (by rfl) (da_cons (de_var 0) da_nil)))
    (dss_cons (ds_set (i := 2) sc_faces.nd rfl (by first | exact Or.inl rfl | exact Or.inr rfl) (de_new (le_lst da_nil)))
    (dss_cons (ds_for PassesOwn.never rfl (di_seq (de_var 0)) (dg_name (i := 3) sc_faces.nd rfl (by first | exact Or.inl rfl | exact Or.inr rfl)) (dss_one (ds_expr (de_extend (de_var 2) (le_lc (own := [("d", 4)]) rfl sc_faces.nd (di_range1 (by rfl) B.z_range (da_cons (de_glob (by rfl) C.g_DIRECTIONS C.r_DIRECTIONS C.p_DIRECTIONS) da_nil)) (blkOk_by (N := N_faces) (sc := defScope s_faces) (by decide +kernel)) (fun _ _ _ _ _ => (dg_name (i := 4) sc_faces.nd rfl (by first | exact Or.inl rfl | exact Or.inr rfl))) (fun _ _ _ _ _ => (dts_one (dt_cmp (o_notIn hr.units65) (de_callF (F_beside_cube.mono (by decide)) hr (by rfl) (da_cons (de_var 3) (da_cons (de_var 4) da_nil))) (de_var 1) rfl))) (fun _ _ _ _ _ => (de_op o_add (de_var 3) (de_tup (da_cons (de_var 4) da_nil)))))))))
    (dss_one (ds_ret (de_var 2))))))
set_option maxHeartbeats 0 in
theorem ok_beyond_in (B : Bi mg) (C : Ks K mg) {f : Addr} {fd : FuncData} (F : Fun K "beyond_in" "beyond_in" s_beyond_in f fd) (gm : mg "beyond_in" = some (.ref f)) (hb : Binds K fd ["known", "face", "side"] []) (F_against : Fn P w K mg base 1 "against" 1 c_against) (F_beside_cube : Fn P w K mg base 1 "beside_cube" 2 c_beside_cube) (F_side_to : Fn P w K mg base 3 "side_to" 2 c_side_to) (F_sides_of : Fn P w K mg base 2 "sides_of" 1 c_sides_of) : Fn P w K mg base 4 "beyond_in" 3 m_beyond_in := by
  refine fn_mk (N := N_beyond_in) (fb := b_beyond_in) F sc_beyond_in gm hb fun cdv A outer s H E hr => ?_
  have hu := hu_ofG hr
  exact (dss_cons (ds_par (i := 3) (j := 4) rfl sc_beyond_in.nd rfl rfl (by decide) rfl rfl (da_cons (de_slice (de_var 1) dpo_none (dpo_some de_int)) (da_cons (de_ix hu (de_var 1) de_int) da_nil)) (by rfl))
    (dss_cons (ds_set (i := 5) sc_beyond_in.nd rfl (by first | exact Or.inl rfl | exact Or.inr rfl) (de_ix hu (de_callF (F_sides_of.mono (by decide)) hr (by rfl) (da_cons (de_var 4) da_nil)) (de_var 2)))
    (dss_cons (ds_set (i := 6) sc_beyond_in.nd rfl (by first | exact Or.inl rfl | exact Or.inr rfl) (de_callF (F_beside_cube.mono (by decide)) hr (by rfl) (da_cons (de_var 3) (da_cons (de_var 5) da_nil))))
    (dss_cons (ds_set (i := 7) sc_beyond_in.nd rfl (by first | exact Or.inl rfl | exact Or.inr rfl) (de_callF (F_beside_cube.mono (by decide)) hr (by rfl) (da_cons (de_var 6) (da_cons (de_var 4) da_nil))))
    (dss_cons (ds_if (dt_cmp (o_in hr.units65) (de_var 7) (de_var 0) rfl) (dss_one (ds_ret (de_tup (da_cons (de_op o_add (de_var 7) (de_tup (da_cons (de_callF (F_against.mono (by decide)) hr (by rfl) (da_cons (de_var 5) da_nil)) da_nil))) (da_cons (de_callF (F_side_to.mono (by decide)) hr (by rfl) (da_cons (de_callF (F_against.mono (by decide)) hr (by rfl) (da_cons (de_var 5) da_nil)) (da_cons (de_callF (F_against.mono (by decide)) hr (by rfl) (da_cons (de_var 4) da_nil)) da_nil))) (da_cons (de_un u_neg de_int) da_nil)))))) dss_nil)
    (dss_cons (ds_if (dt_cmp (o_in hr.units65) (de_var 6) (de_var 0) rfl) (dss_one (ds_ret (de_tup (da_cons (de_op o_add (de_var 6) (de_tup (da_cons (de_var 4) da_nil))) (da_cons (de_callF (F_side_to.mono (by decide)) hr (by rfl) (da_cons (de_var 4) (da_cons (de_callF (F_against.mono (by decide)) hr (by rfl) (da_cons (de_var 5) da_nil)) da_nil))) (da_cons de_int da_nil)))))) dss_nil)
    (dss_one (ds_ret (de_tup (da_cons (de_op o_add (de_var 3) (de_tup (da_cons (de_var 5) da_nil))) (da_cons (de_callF (F_side_to.mono (by decide)) hr (by rfl) (da_cons (de_var 5) (da_cons (de_var 4) da_nil))) (da_cons de_int da_nil))))))))))))
set_option maxHeartbeats 0 in
theorem ok_part_with (B : Bi mg) (C : Ks K mg) {f : Addr} {fd : FuncData} (F : Fun K "part_with" "part_with" s_part_with f fd) (gm : mg "part_with" = some (.ref f)) (hb : Binds K fd ["known", "first"] []) (F_beyond_in : Fn P w K mg base 4 "beyond_in" 3 c_beyond_in) : Fn P w K mg base 5 "part_with" 2 m_part_with := by
  refine fn_mk (N := N_part_with) (fb := b_part_with) F sc_part_with gm hb fun cdv A outer s H E hr => ?_
  have hu := hu_ofG hr
  exact (dss_cons (ds_set (i := 2) sc_part_with.nd rfl (by first | exact Or.inl rfl | exact Or.inr rfl) (de_dict hr.units (dp_cons (de_var 1) de_bl dp_nil)))
    (dss_cons (ds_set (i := 3) sc_part_with.nd rfl (by first | exact Or.inl rfl | exact Or.inr rfl) (de_new (le_lst (da_cons (de_var 1) da_nil))))
    (dss_cons (ds_while 1000000 PassesOwn.never (dt_cmp o_gt (de_callB c_len (by rfl) B.z_len bb_len (da_cons (de_var 3) da_nil)) de_int (nomark _)) (dss_cons (ds_set (i := 4) sc_part_with.nd rfl (by first | exact Or.inl rfl | exact Or.inr rfl) (de_lm0 PySem.F.slot_list_pop PySem.F.type_list_pop t_pop (de_var 3)))
    (dss_one (ds_for (fi := (mR1 (mCons (mC k_SIDES) mNil))) (t := (.nm 5)) (f := B1_part_with) PassesOwn.never rfl (di_range1 (by rfl) B.z_range (da_cons (de_glob (by rfl) C.g_SIDES C.r_SIDES C.p_SIDES) da_nil)) (dg_name (i := 5) sc_part_with.nd rfl (by first | exact Or.inl rfl | exact Or.inr rfl)) (dss_cons (ds_set (i := 6) sc_part_with.nd rfl (by first | exact Or.inl rfl | exact Or.inr rfl) (de_ix hu (de_callF (F_beyond_in.mono (by decide)) hr (by rfl) (da_cons (de_var 0) (da_cons (de_var 4) (da_cons (de_var 5) da_nil)))) de_int))
    (dss_one (ds_if (dt_cmp (o_notIn hr.units65) (de_var 6) (de_var 2) rfl) (dss_cons (ds_store hu de_bl (de_var 2) (de_var 6))
    (dss_one (ds_expr (de_lm PySem.F.slot_list_append PySem.F.type_list_append t_append (de_var 3) (da_cons (de_var 6) da_nil))))) dss_nil)))))))
    (dss_one (ds_ret (de_callTyL n_tuple (by rfl) B.z_tuple bb_tuple (le_sorted rfl hr.units (by rfl) B.z_sorted bb_sorted (de_var 2))))))))
set_option maxHeartbeats 0 in
theorem ok_skin_of (B : Bi mg) (C : Ks K mg) {f : Addr} {fd : FuncData} (F : Fun K "skin_of" "skin_of" s_skin_of f fd) (gm : mg "skin_of" = some (.ref f)) (hb : Binds K fd ["known", "some"] []) (F_beyond_in : Fn P w K mg base 4 "beyond_in" 3 c_beyond_in) : Fn P w K mg base 5 "skin_of" 2 m_skin_of := by
  refine fn_mk (N := N_skin_of) (fb := b_skin_of) F sc_skin_of gm hb fun cdv A outer s H E hr => ?_
  have hu := hu_ofG hr
  exact (dss_cons (ds_set (i := 2) sc_skin_of.nd rfl (by first | exact Or.inl rfl | exact Or.inr rfl) (de_callTyL (n_dict hr.units65 rfl) (by rfl) B.z_dict bb_dict (le_lc (own := [("k", 6), ("face", 4)]) rfl sc_skin_of.nd (di_enum (by rfl) B.z_enumerate (de_var 1)) (blkOk_by (N := N_skin_of) (sc := defScope s_skin_of) (by decide +kernel)) (fun _ _ _ _ _ => (dg_tup rfl (dgs_cons (dg_name (i := 6) sc_skin_of.nd rfl (by first | exact Or.inl rfl | exact Or.inr rfl)) (dgs_cons (dg_name (i := 4) sc_skin_of.nd rfl (by first | exact Or.inl rfl | exact Or.inr rfl)) dgs_nil)))) (fun _ _ _ _ _ => dts_nil) (fun _ _ _ _ _ => (de_tup (da_cons (de_var 4) (da_cons (de_var 6) da_nil)))))))
    (dss_cons (ds_set (i := 3) sc_skin_of.nd rfl (by first | exact Or.inl rfl | exact Or.inr rfl) (de_new (le_lst da_nil)))
    (dss_cons (ds_for PassesOwn.never rfl (di_seq (de_var 1)) (dg_name (i := 4) sc_skin_of.nd rfl (by first | exact Or.inl rfl | exact Or.inr rfl)) (dss_cons (ds_setLc (i := 5) (own := [("side", 7)]) rfl sc_skin_of.nd rfl rfl (sw_true rfl rfl rfl (by decide +kernel)) (di_range1 (by rfl) B.z_range (da_cons (de_glob (by rfl) C.g_SIDES C.r_SIDES C.p_SIDES) da_nil)) (blkOk_by (N := N_skin_of) (sc := defScope s_skin_of) (by decide +kernel)) (fun _ _ _ _ _ => (dg_name (i := 7) sc_skin_of.nd rfl (by first | exact Or.inl rfl | exact Or.inr rfl))) (fun _ _ _ _ _ => dts_nil) (fun _ _ _ _ _ => (de_callF (F_beyond_in.mono (by decide)) hr (by rfl) (da_cons (de_var 0) (da_cons (de_var 4) (da_cons (de_var 7) da_nil))))))
    (dss_one (ds_expr (de_lm PySem.F.slot_list_append PySem.F.type_list_append t_append (de_var 3) (da_cons (de_callTyL n_tuple (by rfl) B.z_tuple bb_tuple (le_lc (own := [("other", 8), ("side", 7), ("crease", 9)]) rfl sc_skin_of.nd (di_seq (de_var 5)) (blkOk_by (N := N_skin_of) (sc := defScope s_skin_of) (by decide +kernel)) (fun _ _ _ _ _ => (dg_tup rfl (dgs_cons (dg_name (i := 8) sc_skin_of.nd rfl (by first | exact Or.inl rfl | exact Or.inr rfl)) (dgs_cons (dg_name (i := 7) sc_skin_of.nd rfl (by first | exact Or.inl rfl | exact Or.inr rfl)) (dgs_cons (dg_name (i := 9) sc_skin_of.nd rfl (by first | exact Or.inl rfl | exact Or.inr rfl)) dgs_nil))))) (fun _ _ _ _ _ => dts_nil) (fun _ _ _ _ _ => (de_tup (da_cons (de_ix hu (de_var 2) (de_var 8)) (da_cons (de_var 7) da_nil)))))) da_nil))))))
    (dss_one (ds_ret (de_callTy c_tuple (by rfl) B.z_tuple bb_tuple (da_cons (de_var 3) da_nil)))))))
set_option maxHeartbeats 0 in
theorem ok_parts (B : Bi mg) (C : Ks K mg) {f : Addr} {fd : FuncData} (F : Fun K "parts" "parts" s_parts f fd) (gm : mg "parts" = some (.ref f)) (hb : Binds K fd ["body"] []) (F_faces : Fn P w K mg base 2 "faces" 1 c_faces) (F_known_of : Fn P w K mg base 1 "known_of" 1 c_known_of) (F_part_with : Fn P w K mg base 5 "part_with" 2 c_part_with) (F_skin_of : Fn P w K mg base 5 "skin_of" 2 c_skin_of) : Fn P w K mg base 6 "parts" 1 m_parts := by
  refine fn_mk (N := N_parts) (fb := b_parts) F sc_parts gm hb fun cdv A outer s H E hr => ?_
  have hu := hu_ofG hr
  exact (dss_cons (ds_set (i := 1) sc_parts.nd rfl (by first | exact Or.inl rfl | exact Or.inr rfl) (de_callF (F_known_of.mono (by decide)) hr (by rfl) (da_cons (de_var 0) da_nil)))
    (dss_cons (ds_set (i := 2) sc_parts.nd rfl (by first | exact Or.inl rfl | exact Or.inr rfl) de_dict0)
    (dss_cons (ds_set (i := 3) sc_parts.nd rfl (by first | exact Or.inl rfl | exact Or.inr rfl) (de_new (le_lst da_nil)))
    (dss_cons (ds_for (fi := (mIS (mAs (mCons (mVar 0) mNil) (ar 1 c_faces)))) (t := (.nm 4)) (f := B1_parts) PassesOwn.never rfl (di_seq (de_callF (F_faces.mono (by decide)) hr (by rfl) (da_cons (de_var 0) da_nil))) (dg_name (i := 4) sc_parts.nd rfl (by first | exact Or.inl rfl | exact Or.inr rfl)) (dss_one (ds_if (dt_cmp (o_notIn hr.units65) (de_var 4) (de_var 2) rfl) (dss_cons (ds_set (i := 5) sc_parts.nd rfl (by first | exact Or.inl rfl | exact Or.inr rfl) (de_callF (F_part_with.mono (by decide)) hr (by rfl) (da_cons (de_var 1) (da_cons (de_var 4) da_nil))))
    (dss_cons (ds_expr (de_dm PySem.F.slot_dict_update PySem.F.type_dict_update (t_update hu) (de_var 2) (da_cons (de_callTyL (n_dict hr.units65 rfl) (by rfl) B.z_dict bb_dict (le_lc (own := [("other", 6)]) rfl sc_parts.nd (di_seq (de_var 5)) (blkOk_by (N := N_parts) (sc := defScope s_parts) (by decide +kernel)) (fun _ _ _ _ _ => (dg_name (i := 6) sc_parts.nd rfl (by first | exact Or.inl rfl | exact Or.inr rfl))) (fun _ _ _ _ _ => dts_nil) (fun _ _ _ _ _ => (de_tup (da_cons (de_var 6) (da_cons de_bl da_nil)))))) da_nil)))
    (dss_one (ds_expr (de_lm PySem.F.slot_list_append PySem.F.type_list_append t_append (de_var 3) (da_cons (de_tup (da_cons (de_var 5) (da_cons (de_callF (F_skin_of.mono (by decide)) hr (by rfl) (da_cons (de_var 1) (da_cons (de_var 5) da_nil))) da_nil))) da_nil)))))) dss_nil)))
    (dss_one (ds_ret (de_var 3)))))))
set_option maxHeartbeats 0 in
theorem ok_outer (B : Bi mg) (C : Ks K mg) {f : Addr} {fd : FuncData} (F : Fun K "outer" "outer" s_outer f fd) (gm : mg "outer" = some (.ref f)) (hb : Binds K fd ["body"] []) (F_parts : Fn P w K mg base 6 "parts" 1 c_parts) : Fn P w K mg base 7 "outer" 1 m_outer := by
  refine fn_mk (N := N_outer) (fb := b_outer) F sc_outer gm hb fun cdv A outer s H E hr => ?_
  have hu := hu_ofG hr
  exact (dss_cons (ds_set (i := 1) sc_outer.nd rfl (by first | exact Or.inl rfl | exact Or.inr rfl) (de_callBL (n_best true rfl hr.units) (by rfl) B.z_max bb_max (le_lc (own := [("cube", 5)]) rfl sc_outer.nd (di_seq (de_var 0)) (blkOk_by (N := N_outer) (sc := defScope s_outer) (by decide +kernel)) (fun _ _ _ _ _ => (dg_name (i := 5) sc_outer.nd rfl (by first | exact Or.inl rfl | exact Or.inr rfl))) (fun _ _ _ _ _ => dts_nil) (fun _ _ _ _ _ => (de_var 5)))))
    (dss_cons (ds_for (fi := (mEnum (mAs (mCons (mVar 0) mNil) (ar 1 c_parts)))) (t := (.tp ((.nm 2) :: ((.tp ((.nm 3) :: ((.nm 4) :: []))) :: [])))) (f := B1_outer) PassesOwn.never rfl (di_enum (by rfl) B.z_enumerate (de_callF (F_parts.mono (by decide)) hr (by rfl) (da_cons (de_var 0) da_nil))) (dg_tup rfl (dgs_cons (dg_name (i := 2) sc_outer.nd rfl (by first | exact Or.inl rfl | exact Or.inr rfl)) (dgs_cons (dg_tup rfl (dgs_cons (dg_name (i := 3) sc_outer.nd rfl (by first | exact Or.inl rfl | exact Or.inr rfl)) (dgs_cons (dg_name (i := 4) sc_outer.nd rfl (by first | exact Or.inl rfl | exact Or.inr rfl)) dgs_nil))) dgs_nil))) (dss_one (ds_if (dt_cmp (o_in hr.units65) (de_op o_add (de_var 1) (de_tup (da_cons de_int da_nil))) (de_var 3) rfl) (dss_one (ds_ret (de_var 2))) dss_nil)))
    (dss_one (ds_ret de_non))))
set_option maxHeartbeats 0 in
theorem ok_L_hand (B : Bi mg) (C : Ks K mg) {f : Addr} {fd : FuncData} (F : Fun K "_law_hand" "_law_hand" s_L_hand f fd) (gm : mg "_law_hand" = some (.ref f)) (hb : Binds K fd ["_law_script", "_law_k"] []) : Fn P w K mg base 1 "_law_hand" 2 m_L_hand := by
  refine fn_mk (N := N_L_hand) (fb := b_L_hand) F sc_L_hand gm hb fun cdv A outer s H E hr => ?_
  have hu := hu_ofG hr
  exact (dss_cons (ds_set (i := 2) sc_L_hand.nd rfl (by first | exact Or.inl rfl | exact Or.inr rfl) de_int)
    (dss_cons (ds_if (dt_cmp (o_lt hr.units0) (de_var 1) (de_callB c_len (by rfl) B.z_len bb_len (da_cons (de_var 0) da_nil)) (nomark _)) (dss_one (ds_set (i := 2) sc_L_hand.nd rfl (by first | exact Or.inl rfl | exact Or.inr rfl) (de_ix hu (de_var 0) (de_var 1)))) dss_nil)
    (dss_one (ds_ret (de_new (le_lst (da_cons (de_op o_mul (de_var 2) (de_callTy c_int (by rfl) B.z_int bb_int (da_cons (de_cmp o_ge (de_var 2) (de_op o_pow de_int de_int) (nomark _)) da_nil))) (da_cons (de_op o_add (de_op o_add (de_op o_mod (de_var 2) de_int) (de_op o_mul de_int (de_var 1))) de_int) (da_cons de_int da_nil)))))))))
set_option maxHeartbeats 0 in
theorem ok_L_take (B : Bi mg) (C : Ks K mg) {f : Addr} {fd : FuncData} (F : Fun K "_law_take" "_law_take" s_L_take f fd) (gm : mg "_law_take" = some (.ref f)) (hb : Binds K fd ["_law_hand_here", "_law_many"] []) : Fn P w K mg base 1 "_law_take" 2 m_L_take := by
  refine fn_mk (N := N_L_take) (fb := b_L_take) F sc_L_take gm hb fun cdv A outer s H E hr => ?_
  have hu := hu_ofG hr
  exact (dss_cons (ds_if (dt_cmp o_gt (de_ix hu (de_var 0) de_int) de_int (nomark _)) (dss_cons (ds_set (i := 2) sc_L_take.nd rfl (by first | exact Or.inl rfl | exact Or.inr rfl) (de_op o_mod (de_ix hu (de_var 0) de_int) (de_var 1)))
    (dss_cons (ds_store hu (de_op o_div (de_ix hu (de_var 0) de_int) (de_var 1)) (de_var 0) de_int)
    (dss_one (ds_ret (de_var 2))))) dss_nil)
    (dss_cons (ds_store hu (de_op o_add (de_ix hu (de_var 0) de_int) de_int) (de_var 0) de_int)
    (dss_cons (ds_set (i := 3) sc_L_take.nd rfl (by first | exact Or.inl rfl | exact Or.inr rfl) (de_ix hu (de_var 0) de_int))
    (dss_cons (ds_set (i := 4) sc_L_take.nd rfl (by first | exact Or.inl rfl | exact Or.inr rfl) (de_op o_mod (de_op o_mul (de_ix hu (de_var 0) de_int) (de_op o_add (de_op o_add de_int (de_op o_mul (de_op o_mul de_int (de_var 3)) (de_var 3))) (de_op o_mul de_int (de_var 3)))) de_int))
    (dss_cons (ds_set (i := 5) sc_L_take.nd rfl (by first | exact Or.inl rfl | exact Or.inr rfl) (de_op o_add (de_op o_add (de_op o_mod (de_var 4) de_int) (de_op o_mul (de_var 3) de_int)) de_int))
    (dss_cons (ds_set (i := 4) sc_L_take.nd rfl (by first | exact Or.inl rfl | exact Or.inr rfl) (de_op o_mod (de_op o_mul (de_var 4) (de_var 5)) de_int))
    (dss_one (ds_ret (de_op o_mod (de_op o_add (de_op o_div (de_var 4) de_int) (de_op o_div (de_var 4) de_int)) (de_var 1))))))))))
set_option maxHeartbeats 0 in
theorem ok_L_pick (B : Bi mg) (C : Ks K mg) {f : Addr} {fd : FuncData} (F : Fun K "_law_pick" "_law_pick" s_L_pick f fd) (gm : mg "_law_pick" = some (.ref f)) (hb : Binds K fd ["_law_hand_here", "_law_some"] []) (F_L_take : Fn P w K mg base 1 "_law_take" 2 c_L_take) : Fn P w K mg base 2 "_law_pick" 2 m_L_pick := by
  refine fn_mk (N := N_L_pick) (fb := b_L_pick) F sc_L_pick gm hb fun cdv A outer s H E hr => ?_
  have hu := hu_ofG hr
  exact (dss_one (ds_ret (de_ix hu (de_var 1) (de_callF (F_L_take.mono (by decide)) hr (by rfl) (da_cons (de_var 0) (da_cons (de_callB c_len (by rfl) B.z_len bb_len (da_cons (de_var 1) da_nil)) da_nil))))))
set_option maxHeartbeats 0 in
theorem ok_L_left (B : Bi mg) (C : Ks K mg) {f : Addr} {fd : FuncData} (F : Fun K "_law_left" "_law_left" s_L_left f fd) (gm : mg "_law_left" = some (.ref f)) (hb : Binds K fd ["_law_rows"] []) : Fn P w K mg base 1 "_law_left" 1 m_L_left := by
  refine fn_mk (N := N_L_left) (fb := b_L_left) F sc_L_left gm hb fun cdv A outer s H E hr => ?_
  have hu := hu_ofG hr
  exact (dss_cons (ds_set (i := 1) sc_L_left.nd rfl (by first | exact Or.inl rfl | exact Or.inr rfl) (de_new (le_lst da_nil)))
    (dss_cons (ds_for (fi := (mEnum (mVar 0))) (t := (.tp ((.nm 2) :: ((.nm 3) :: [])))) (f := B1_L_left) PassesOwn.never rfl (di_enum (by rfl) B.z_enumerate (de_var 0)) (dg_tup rfl (dgs_cons (dg_name (i := 2) sc_L_left.nd rfl (by first | exact Or.inl rfl | exact Or.inr rfl)) (dgs_cons (dg_name (i := 3) sc_L_left.nd rfl (by first | exact Or.inl rfl | exact Or.inr rfl)) dgs_nil))) (dss_one (ds_expr (de_extend (de_var 1) (le_lc (own := [("_law_j", 4)]) rfl sc_L_left.nd (di_range1 (by rfl) B.z_range (da_cons de_int da_nil)) (blkOk_by (N := N_L_left) (sc := defScope s_L_left) (by decide +kernel)) (fun _ _ _ _ _ => (dg_name (i := 4) sc_L_left.nd rfl (by first | exact Or.inl rfl | exact Or.inr rfl))) (fun _ _ _ _ _ => (dts_one (dt_cmp o_is (de_ix hu (de_var 3) (de_var 4)) de_non (nomark _)))) (fun _ _ _ _ _ => (de_tup (da_cons (de_var 2) (da_cons (de_var 4) da_nil)))))))))
    (dss_one (ds_ret (de_var 1)))))
set_option maxHeartbeats 0 in
theorem ok_L_skin (B : Bi mg) (C : Ks K mg) {f : Addr} {fd : FuncData} (F : Fun K "_law_skin" "_law_skin" s_L_skin f fd) (gm : mg "_law_skin" = some (.ref f)) (hb : Binds K fd ["_law_hand_here", "_law_many"] []) (F_L_left : Fn P w K mg base 1 "_law_left" 1 c_L_left) (F_L_pick : Fn P w K mg base 2 "_law_pick" 2 c_L_pick) (F_L_take : Fn P w K mg base 1 "_law_take" 2 c_L_take) : Fn P w K mg base 3 "_law_skin" 2 m_L_skin := by
  refine fn_mk (N := N_L_skin) (fb := b_L_skin) F sc_L_skin gm hb fun cdv A outer s H E hr => ?_
  have hu := hu_ofG hr
  exact (dss_cons (ds_setLc (i := 2) (own := [("_law_f", 3)]) rfl sc_L_skin.nd rfl rfl (sw_true rfl rfl rfl (by decide +kernel)) (di_range1 (by rfl) B.z_range (da_cons (de_var 1) da_nil)) (blkOk_by (N := N_L_skin) (sc := defScope s_L_skin) (by decide +kernel)) (fun _ _ _ _ _ => (dg_name (i := 3) sc_L_skin.nd rfl (by first | exact Or.inl rfl | exact Or.inr rfl))) (fun _ _ _ _ _ => dts_nil) (fun _ _ _ _ _ => (de_new (le_rep (le_lst (da_cons de_non da_nil)) de_int))))
    (dss_cons (ds_for (fi := (mR2 (mCons (mC (.int 1)) (mCons (mVar 1) mNil)))) (t := (.nm 3)) (f := B1_L_skin) PassesOwn.never rfl (di_range2 (by rfl) B.z_range (da_cons de_int (da_cons (de_var 1) da_nil))) (dg_name (i := 3) sc_L_skin.nd rfl (by first | exact Or.inl rfl | exact Or.inr rfl)) (dss_cons (ds_asg (de_callF (F_L_pick.mono (by decide)) hr (by rfl) (da_cons (de_var 0) (da_cons (de_callF (F_L_left.mono (by decide)) hr (by rfl) (da_cons (de_slice (de_var 2) dpo_none (dpo_some (de_var 3))) da_nil)) da_nil))) (dg_tup rfl (dgs_cons (dg_name (i := 4) sc_L_skin.nd rfl (by first | exact Or.inl rfl | exact Or.inr rfl)) (dgs_cons (dg_name (i := 5) sc_L_skin.nd rfl (by first | exact Or.inl rfl | exact Or.inr rfl)) dgs_nil))))
    (dss_cons (ds_set (i := 6) sc_L_skin.nd rfl (by first | exact Or.inl rfl | exact Or.inr rfl) (de_callF (F_L_take.mono (by decide)) hr (by rfl) (da_cons (de_var 0) (da_cons de_int da_nil))))
    (dss_cons (ds_store hu (de_tup (da_cons (de_var 4) (da_cons (de_var 5) da_nil))) (de_ix hu (de_var 2) (de_var 3)) (de_var 6))
    (dss_one (ds_store hu (de_tup (da_cons (de_var 3) (da_cons (de_var 6) da_nil))) (de_ix hu (de_var 2) (de_var 4)) (de_var 5)))))))
    (dss_cons (ds_set (i := 7) sc_L_skin.nd rfl (by first | exact Or.inl rfl | exact Or.inr rfl) (de_callF (F_L_left.mono (by decide)) hr (by rfl) (da_cons (de_var 2) da_nil)))
    (dss_cons (ds_while 1000000 PassesOwn.never (dt_cmpL (o_neL hr.units) (de_var 7) (le_lst da_nil) (nomark _)) (dss_cons (ds_asg (de_lm PySem.F.slot_list_pop PySem.F.type_list_pop t_popAt (de_var 7) (da_cons de_int da_nil)) (dg_tup rfl (dgs_cons (dg_name (i := 3) sc_L_skin.nd rfl (by first | exact Or.inl rfl | exact Or.inr rfl)) (dgs_cons (dg_name (i := 6) sc_L_skin.nd rfl (by first | exact Or.inl rfl | exact Or.inr rfl)) dgs_nil))))
    (dss_cons (ds_asg (de_lm PySem.F.slot_list_pop PySem.F.type_list_pop t_popAt (de_var 7) (da_cons (de_callF (F_L_take.mono (by decide)) hr (by rfl) (da_cons (de_var 0) (da_cons (de_callB c_len (by rfl) B.z_len bb_len (da_cons (de_var 7) da_nil)) da_nil))) da_nil)) (dg_tup rfl (dgs_cons (dg_name (i := 4) sc_L_skin.nd rfl (by first | exact Or.inl rfl | exact Or.inr rfl)) (dgs_cons (dg_name (i := 5) sc_L_skin.nd rfl (by first | exact Or.inl rfl | exact Or.inr rfl)) dgs_nil))))
    (dss_cons (ds_store hu (de_tup (da_cons (de_var 4) (da_cons (de_var 5) da_nil))) (de_ix hu (de_var 2) (de_var 3)) (de_var 6))
    (dss_one (ds_store hu (de_tup (da_cons (de_var 3) (da_cons (de_var 6) da_nil))) (de_ix hu (de_var 2) (de_var 4)) (de_var 5)))))))
    (dss_one (ds_ret (de_callTyL n_tuple (by rfl) B.z_tuple bb_tuple (le_lc (own := [("_law_row", 8)]) rfl sc_L_skin.nd (di_seq (de_var 2)) (blkOk_by (N := N_L_skin) (sc := defScope s_L_skin) (by decide +kernel)) (fun _ _ _ _ _ => (dg_name (i := 8) sc_L_skin.nd rfl (by first | exact Or.inl rfl | exact Or.inr rfl))) (fun _ _ _ _ _ => dts_nil) (fun _ _ _ _ _ => (de_callTy c_tuple (by rfl) B.z_tuple bb_tuple (da_cons (de_var 8) da_nil)))))))))))
set_option maxHeartbeats 0 in
theorem ok_L_least_places (B : Bi mg) (C : Ks K mg) {f : Addr} {fd : FuncData} (F : Fun K "_law_least_places" "_law_least_places" s_L_least_places f fd) (gm : mg "_law_least_places" = some (.ref f)) (hb : Binds K fd ["_law_skin_here"] []) : Fn P w K mg base 1 "_law_least_places" 1 m_L_least_places := by
  refine fn_mk (N := N_L_least_places) (fb := b_L_least_places) F sc_L_least_places gm hb fun cdv A outer s H E hr => ?_
  have hu := hu_ofG hr
  exact (dss_cons (ds_set (i := 1) sc_L_least_places.nd rfl (by first | exact Or.inl rfl | exact Or.inr rfl) de_dict0)
    (dss_cons (ds_for (fi := (mR1 (mCons (mAs (mCons (mVar 0) mNil) gLen) mNil))) (t := (.nm 2)) (f := B2_L_least_places) PassesOwn.never rfl (di_range1 (by rfl) B.z_range (da_cons (de_callB c_len (by rfl) B.z_len bb_len (da_cons (de_var 0) da_nil)) da_nil)) (dg_name (i := 2) sc_L_least_places.nd rfl (by first | exact Or.inl rfl | exact Or.inr rfl)) (dss_one (ds_for (fi := (mR1 (mCons (mC (.int 4)) mNil))) (t := (.nm 3)) (f := B1_L_least_places) PassesOwn.never rfl (di_range1 (by rfl) B.z_range (da_cons de_int da_nil)) (dg_name (i := 3) sc_L_least_places.nd rfl (by first | exact Or.inl rfl | exact Or.inr rfl)) (dss_one (ds_store hu (de_tup (da_cons (de_var 2) (da_cons (de_var 3) da_nil))) (de_var 1) (de_tup (da_cons (de_var 2) (da_cons (de_var 3) da_nil))))))))
    (dss_cons (ds_for (fi := (mEnum (mVar 0))) (t := (.tp ((.nm 2) :: ((.nm 4) :: [])))) (f := B5_L_least_places) PassesOwn.never rfl (di_enum (by rfl) B.z_enumerate (de_var 0)) (dg_tup rfl (dgs_cons (dg_name (i := 2) sc_L_least_places.nd rfl (by first | exact Or.inl rfl | exact Or.inr rfl)) (dgs_cons (dg_name (i := 4) sc_L_least_places.nd rfl (by first | exact Or.inl rfl | exact Or.inr rfl)) dgs_nil))) (dss_one (ds_for (fi := (mR1 (mCons (mC (.int 4)) mNil))) (t := (.nm 3)) (f := B4_L_least_places) PassesOwn.never rfl (di_range1 (by rfl) B.z_range (da_cons de_int da_nil)) (dg_name (i := 3) sc_L_least_places.nd rfl (by first | exact Or.inl rfl | exact Or.inr rfl)) (dss_cons (ds_par (i := 5) (j := 6) rfl sc_L_least_places.nd rfl rfl (by decide) rfl rfl (da_cons (de_ix hu (de_var 1) (de_tup (da_cons (de_var 2) (da_cons (de_var 3) da_nil)))) (da_cons (de_ix hu (de_var 1) (de_ix hu (de_var 4) (de_op o_mod (de_op o_add (de_var 3) de_int) de_int))) da_nil)) (by rfl))
    (dss_cons (ds_par (i := 7) (j := 8) rfl sc_L_least_places.nd rfl rfl (by decide) rfl rfl (da_cons (de_callB (c_best2 false rfl hr.units) (by rfl) B.z_min bb_min (da_cons (de_var 5) (da_cons (de_var 6) da_nil))) (da_cons (de_callB (c_best2 true rfl hr.units) (by rfl) B.z_max bb_max (da_cons (de_var 5) (da_cons (de_var 6) da_nil))) da_nil)) (by rfl))
    (dss_one (ds_for (fi := (mIL (mList (mVar 1)))) (t := (.nm 9)) (f := B3_L_least_places) PassesOwn.never rfl (di_le (le_list rfl (by rfl) B.z_list bb_list (de_var 1))) (dg_name (i := 9) sc_L_least_places.nd rfl (by first | exact Or.inl rfl | exact Or.inr rfl)) (dss_one (ds_if (dt_cmp (o_eq hr.units) (de_ix hu (de_var 1) (de_var 9)) (de_var 8) (nomark _)) (dss_one (ds_store hu (de_var 7) (de_var 1) (de_var 9))) dss_nil)))))))))
    (dss_one (ds_ret (de_var 1))))))
set_option maxHeartbeats 0 in
theorem ok_L_plate (B : Bi mg) (C : Ks K mg) {f : Addr} {fd : FuncData} (F : Fun K "_law_plate" "_law_plate" s_L_plate f fd) (gm : mg "_law_plate" = some (.ref f)) (hb : Binds K fd ["_law_hand_here", "_law_holes"] []) (F_L_take : Fn P w K mg base 1 "_law_take" 2 c_L_take) : Fn P w K mg base 2 "_law_plate" 2 m_L_plate := by
  refine fn_mk (N := N_L_plate) (fb := b_L_plate) F sc_L_plate gm hb fun cdv A outer s H E hr => ?_
  have hu := hu_ofG hr
  exact (dss_cons (ds_set (i := 2) sc_L_plate.nd rfl (by first | exact Or.inl rfl | exact Or.inr rfl) (de_new (le_lst da_nil)))
    (dss_cons (ds_for (fi := (mR1 (mCons (m2 (m2 (m2 (mC (.int 2)) (mVar 1) gMul) (mC (.int 1)) gAdd) (mAs (mCons (m2 (mVar 1) (mC (.int 0)) gEq) mNil) gInt) gAdd) mNil))) (t := (.nm 3)) (f := B1_L_plate) PassesOwn.never rfl (di_range1 (by rfl) B.z_range (da_cons (de_op o_add (de_op o_add (de_op o_mul de_int (de_var 1)) de_int) (de_callTy c_int (by rfl) B.z_int bb_int (da_cons (de_cmp (o_eq hr.units) (de_var 1) de_int (nomark _)) da_nil))) da_nil)) (dg_name (i := 3) sc_L_plate.nd rfl (by first | exact Or.inl rfl | exact Or.inr rfl)) (dss_one (ds_expr (de_extend (de_var 2) (le_lc (own := [("_law_y", 4)]) rfl sc_L_plate.nd (di_range1 (by rfl) B.z_range (da_cons de_int da_nil)) (blkOk_by (N := N_L_plate) (sc := defScope s_L_plate) (by decide +kernel)) (fun _ _ _ _ _ => (dg_name (i := 4) sc_L_plate.nd rfl (by first | exact Or.inl rfl | exact Or.inr rfl))) (fun _ _ _ _ _ => (dts_one (dt_w (dw_or (dt_cmp (o_eq hr.units) (de_op o_mod (de_var 3) de_int) de_int (nomark _)) (dw_or1 (dt_cmp (o_ne hr.units) (de_var 4) de_int (nomark _))))))) (fun _ _ _ _ _ => (de_tup (da_cons (de_var 3) (da_cons (de_var 4) (da_cons de_int da_nil))))))))))
    (dss_cons (ds_if (dt_cmp (o_eq hr.units) (de_callF (F_L_take.mono (by decide)) hr (by rfl) (da_cons (de_var 0) (da_cons de_int da_nil))) de_int (nomark _)) (dss_one (ds_expr (de_lm PySem.F.slot_list_append PySem.F.type_list_append t_append (de_var 2) (da_cons (de_tup (da_cons de_int (da_cons (de_op o_mul de_int (de_callF (F_L_take.mono (by decide)) hr (by rfl) (da_cons (de_var 0) (da_cons de_int da_nil)))) (da_cons de_int da_nil)))) da_nil)))) dss_nil)
    (dss_one (ds_ret (de_callTyL n_tuple (by rfl) B.z_tuple bb_tuple (le_sorted rfl hr.units (by rfl) B.z_sorted bb_sorted (de_var 2))))))))
set_option maxHeartbeats 0 in
theorem ok_L_right (B : Bi mg) (C : Ks K mg) {f : Addr} {fd : FuncData} (F : Fun K "_law_right" "_law_right" s_L_right f fd) (gm : mg "_law_right" = some (.ref f)) (hb : Binds K fd ["_law_skin_here", "_law_found"] []) (F_L_least_places : Fn P w K mg base 1 "_law_least_places" 1 c_L_least_places) : Fn P w K mg base 2 "_law_right" 2 m_L_right := by
  refine fn_mk (N := N_L_right) (fb := b_L_right) F sc_L_right gm hb fun cdv A outer s H E hr => ?_
  have hu := hu_ofG hr
  exact (dss_cons (ds_set (i := 2) sc_L_right.nd rfl (by first | exact Or.inl rfl | exact Or.inr rfl) (de_lenSetFL rfl hr.units (by rfl) B.z_len (by rfl) B.z_set (le_listV rfl hr.units (by rfl) B.z_list (de_callF (F_L_least_places.mono (by decide)) hr (by rfl) (da_cons (de_var 0) da_nil)))))
    (dss_cons (ds_if (dt_w (dw_or (dt_not (dt_val (de_isi (T := "int") (by rfl) B.z_isinstance bb_isinstance (de_var 1) (by rfl) B.z_int bb_int))) (dw_or (dt_val (de_isi (T := "bool") (by rfl) B.z_isinstance bb_isinstance (de_var 1) (by rfl) B.z_bool bb_bool)) (dw_or1 (dt_cmp (o_lt hr.units0) (de_var 1) de_int (nomark _)))))) (dss_one (ds_ret de_bl)) dss_nil)
    (dss_one (ds_ret (de_cmp (o_eq hr.units) (de_op o_sub (de_var 2) (de_callB c_len (by rfl) B.z_len bb_len (da_cons (de_var 0) da_nil))) (de_op o_sub de_int (de_op o_mul de_int (de_var 1))) (nomark _))))))
end
set_option maxHeartbeats 0 in
theorem body_law {P : Program} {w : World} {K : PySem.W.Frag} {mg : Str → Option Value} {base : Heap} (B : Bi mg) (C : Ks K mg)  (F_L_hand : Fn P w K mg base 1 "_law_hand" 2 c_L_hand) (F_L_plate : Fn P w K mg base 2 "_law_plate" 2 c_L_plate) (F_L_right : Fn P w K mg base 2 "_law_right" 2 c_L_right) (F_L_skin : Fn P w K mg base 3 "_law_skin" 2 c_L_skin) (F_L_take : Fn P w K mg base 1 "_law_take" 2 c_L_take) (F_outer : Fn P w K mg base 7 "outer" 1 c_outer) (F_parts : Fn P w K mg base 6 "parts" 1 c_parts) (F_passages : Fn P w K mg base 4 "passages" 1 c_passages) {f : Addr} {cdv : Value} {A : Around} {outer : List Env} {s : Shared} {H : Hp} {E : XK}
    (hr : RoomG 7 (A.deeper (PyProof.Rows.envOfC "law" (defScope s_law) s.heap.objs.size f cdv))) : DSs (cxOf CX0 P w K mg base N_law "law" (defScope s_law) f cdv A outer s H E).nox (defBody s_law) b_law := by
  have hu := hu_ofG hr
  exact (dss_cons (ds_for (fi := (mR1 (mCons (mAs (mCons (mC (.int 2)) (mCons (mAs (mCons (mC (.int 6)) (mCons (mAs (mCons (mVar 0) mNil) gLen) mNil)) gMin2) mNil)) gMax2) mNil))) (t := (.nm 1)) (f := B1_law) PassesOwn.never rfl (di_range1 (by rfl) B.z_range (da_cons (de_callB (c_max2 rfl) (by rfl) B.z_max bb_max (da_cons de_int (da_cons (de_callB (c_min2 rfl) (by rfl) B.z_min bb_min (da_cons de_int (da_cons (de_callB c_len (by rfl) B.z_len bb_len (da_cons (de_var 0) da_nil)) da_nil))) da_nil))) da_nil)) (dg_name (i := 1) sc_law.nd rfl (by first | exact Or.inl rfl | exact Or.inr rfl)) (dss_cons (ds_set (i := 2) sc_law.nd rfl (by first | exact Or.inl rfl | exact Or.inr rfl) (de_callF (F_L_hand.mono (by decide)) hr (by rfl) (da_cons (de_var 0) (da_cons (de_var 1) da_nil))))
    (dss_cons (ds_set (i := 3) sc_law.nd rfl (by first | exact Or.inl rfl | exact Or.inr rfl) (de_callF (F_L_skin.mono (by decide)) hr (by rfl) (da_cons (de_var 2) (da_cons (de_ix hu (de_new (le_lst (da_cons de_int (da_cons de_int (da_cons de_int (da_cons de_int (da_cons de_int (da_cons de_int (da_cons de_int (da_cons (de_op o_add de_int (de_callF (F_L_take.mono (by decide)) hr (by rfl) (da_cons (de_var 2) (da_cons de_int da_nil)))) da_nil)))))))))) (de_callF (F_L_take.mono (by decide)) hr (by rfl) (da_cons (de_var 2) (da_cons de_int da_nil)))) da_nil))))
    (dss_one (ds_if (dt_w (dw_or (dt_not (dt_val (de_callF (F_L_right.mono (by decide)) hr (by rfl) (da_cons (de_var 3) (da_cons (de_callF (F_passages.mono (by decide)) hr (by rfl) (da_cons (de_var 3) da_nil)) da_nil))))) (dw_or1 (dt_cmp (o_ne hr.units) (de_callF (F_passages.mono (by decide)) hr (by rfl) (da_cons (de_var 3) da_nil)) (de_callF (F_passages.mono (by decide)) hr (by rfl) (da_cons (de_var 3) da_nil)) (nomark _))))) (dss_one (ds_ret de_bl)) dss_nil)))))
    (dss_cons (ds_set (i := 2) sc_law.nd rfl (by first | exact Or.inl rfl | exact Or.inr rfl) (de_callF (F_L_hand.mono (by decide)) hr (by rfl) (da_cons (de_var 0) (da_cons de_int da_nil))))
    (dss_cons (ds_set (i := 4) sc_law.nd rfl (by first | exact Or.inl rfl | exact Or.inr rfl) (de_callF (F_L_take.mono (by decide)) hr (by rfl) (da_cons (de_var 2) (da_cons de_int da_nil))))
    (dss_cons (ds_set (i := 5) sc_law.nd rfl (by first | exact Or.inl rfl | exact Or.inr rfl) (de_callF (F_L_plate.mono (by decide)) hr (by rfl) (da_cons (de_var 2) (da_cons (de_var 4) da_nil))))
    (dss_cons (ds_set (i := 3) sc_law.nd rfl (by first | exact Or.inl rfl | exact Or.inr rfl) (de_ix hu (de_ix hu (de_callF (F_parts.mono (by decide)) hr (by rfl) (da_cons (de_var 5) da_nil)) (de_callF (F_outer.mono (by decide)) hr (by rfl) (da_cons (de_var 5) da_nil))) de_int))
    (dss_one (ds_ret (de_and (de_cmp (o_eq hr.units) (de_callF (F_passages.mono (by decide)) hr (by rfl) (da_cons (de_var 3) da_nil)) (de_var 4) (nomark _)) (de_one (de_or (de_cmp o_gt (de_var 4) de_int (nomark _)) (de_one (de_callF (F_L_right.mono (by decide)) hr (by rfl) (da_cons (de_var 3) (da_cons (de_var 4) da_nil))))))))))))))
def spLaw (K : PySem.W.Frag) : Sp := fun vs H Q _ => ∃ (a : Addr) (ns : List Int), vs = [.ref a] ∧ ScAt K H a (ns.map V.int) ∧ ns.length ≤ 63 ∧ ∀ H', Q (.bl true) H'
theorem law_sp {P : Program} {w : World} {K : PySem.W.Frag} {mg : Str → Option Value} {base : Heap} {k : Nat} {f : Addr} {fd : FuncData} {ps : List Str} (F : FnG P w K mg base CX0 k f fd ps (spD K 1 m_law)) : FnG P w K mg base CX0 k f fd ps (spLaw K) := by
  refine F.imp fun vs H Q E ⟨a, ns, e, hS, hl, q⟩ => ?_
  subst e
  obtain ⟨hp', eq⟩ := law_pure ns hl
  exact ⟨[], [], [.scr ns], .bl true, hp', rfl, ⟨rfl, List.nodup_nil, fun n o a h _ => by simp at h, fun n x a h _ => by simp at h⟩, by rw [Rps]; exact ⟨_, _, rfl, by rw [Rp]; exact ⟨a, rfl, hS⟩, Rps.nil⟩, eq, fun v H' μ' _ _ r => by rw [r.blE]; exact q H'⟩
set_option maxHeartbeats 0 in
theorem all_mk {l : PySem.W.OpenLaw} {w : World} {K : PySem.W.Frag} {h : Heap} {mg : Str → Option Value} {fa : Addr} (X : K.In h) (G : h.Ns mainGlobals mg) (hfa : mg "law" = some (.ref fa))
    {f0 : Addr} {od0 an0 : Option Addr} {sl0 : Array (Option Value)} {oc0 kV0 dc0 pm0 cd0 ct0 : Value}
    (a0 : PySem.W.nsIn K mainGlobals "next_corner" = some (some (.ref f0))) (l0 : K.lookup f0 = some ⟨oc0, od0, .func (PySem.W.fnOf "next_corner" "next_corner" (defArgs s_next_corner) (defBody s_next_corner) (defScope s_next_corner) .none kV0 dc0 pm0 an0 cd0 ct0), sl0⟩) (c0 : PySem.W.codeIn K cd0 "next_corner" = true) (k0 : PySem.W.keepIn K (.ref f0) = true)
    {f1 : Addr} {od1 an1 : Option Addr} {sl1 : Array (Option Value)} {oc1 kV1 dc1 pm1 cd1 ct1 : Value}
    (a1 : PySem.W.nsIn K mainGlobals "round_of" = some (some (.ref f1))) (l1 : K.lookup f1 = some ⟨oc1, od1, .func (PySem.W.fnOf "round_of" "round_of" (defArgs s_round_of) (defBody s_round_of) (defScope s_round_of) .none kV1 dc1 pm1 an1 cd1 ct1), sl1⟩) (c1 : PySem.W.codeIn K cd1 "round_of" = true) (k1 : PySem.W.keepIn K (.ref f1) = true)
    {f2 : Addr} {od2 an2 : Option Addr} {sl2 : Array (Option Value)} {oc2 kV2 dc2 pm2 cd2 ct2 : Value}
    (a2 : PySem.W.nsIn K mainGlobals "corners" = some (some (.ref f2))) (l2 : K.lookup f2 = some ⟨oc2, od2, .func (PySem.W.fnOf "corners" "corners" (defArgs s_corners) (defBody s_corners) (defScope s_corners) .none kV2 dc2 pm2 an2 cd2 ct2), sl2⟩) (c2 : PySem.W.codeIn K cd2 "corners" = true) (k2 : PySem.W.keepIn K (.ref f2) = true)
    {f3 : Addr} {od3 an3 : Option Addr} {sl3 : Array (Option Value)} {oc3 kV3 dc3 pm3 cd3 ct3 : Value}
    (a3 : PySem.W.nsIn K mainGlobals "passages" = some (some (.ref f3))) (l3 : K.lookup f3 = some ⟨oc3, od3, .func (PySem.W.fnOf "passages" "passages" (defArgs s_passages) (defBody s_passages) (defScope s_passages) .none kV3 dc3 pm3 an3 cd3 ct3), sl3⟩) (c3 : PySem.W.codeIn K cd3 "passages" = true) (k3 : PySem.W.keepIn K (.ref f3) = true)
    {f4 : Addr} {od4 an4 : Option Addr} {sl4 : Array (Option Value)} {oc4 kV4 dc4 pm4 cd4 ct4 : Value}
    (a4 : PySem.W.nsIn K mainGlobals "against" = some (some (.ref f4))) (l4 : K.lookup f4 = some ⟨oc4, od4, .func (PySem.W.fnOf "against" "against" (defArgs s_against) (defBody s_against) (defScope s_against) .none kV4 dc4 pm4 an4 cd4 ct4), sl4⟩) (c4 : PySem.W.codeIn K cd4 "against" = true) (k4 : PySem.W.keepIn K (.ref f4) = true)
    {f5 : Addr} {od5 an5 : Option Addr} {sl5 : Array (Option Value)} {oc5 kV5 dc5 pm5 cd5 ct5 : Value}
    (a5 : PySem.W.nsIn K mainGlobals "beside_cube" = some (some (.ref f5))) (l5 : K.lookup f5 = some ⟨oc5, od5, .func (PySem.W.fnOf "beside_cube" "beside_cube" (defArgs s_beside_cube) (defBody s_beside_cube) (defScope s_beside_cube) .none kV5 dc5 pm5 an5 cd5 ct5), sl5⟩) (c5 : PySem.W.codeIn K cd5 "beside_cube" = true) (k5 : PySem.W.keepIn K (.ref f5) = true)
    {f6 : Addr} {od6 an6 : Option Addr} {sl6 : Array (Option Value)} {oc6 kV6 dc6 pm6 cd6 ct6 : Value}
    (a6 : PySem.W.nsIn K mainGlobals "sides_of" = some (some (.ref f6))) (l6 : K.lookup f6 = some ⟨oc6, od6, .func (PySem.W.fnOf "sides_of" "sides_of" (defArgs s_sides_of) (defBody s_sides_of) (defScope s_sides_of) .none kV6 dc6 pm6 an6 cd6 ct6), sl6⟩) (c6 : PySem.W.codeIn K cd6 "sides_of" = true) (k6 : PySem.W.keepIn K (.ref f6) = true)
    {f7 : Addr} {od7 an7 : Option Addr} {sl7 : Array (Option Value)} {oc7 kV7 dc7 pm7 cd7 ct7 : Value}
    (a7 : PySem.W.nsIn K mainGlobals "side_to" = some (some (.ref f7))) (l7 : K.lookup f7 = some ⟨oc7, od7, .func (PySem.W.fnOf "side_to" "side_to" (defArgs s_side_to) (defBody s_side_to) (defScope s_side_to) .none kV7 dc7 pm7 an7 cd7 ct7), sl7⟩) (c7 : PySem.W.codeIn K cd7 "side_to" = true) (k7 : PySem.W.keepIn K (.ref f7) = true)
    {f8 : Addr} {od8 an8 : Option Addr} {sl8 : Array (Option Value)} {oc8 kV8 dc8 pm8 cd8 ct8 : Value}
    (a8 : PySem.W.nsIn K mainGlobals "known_of" = some (some (.ref f8))) (l8 : K.lookup f8 = some ⟨oc8, od8, .func (PySem.W.fnOf "known_of" "known_of" (defArgs s_known_of) (defBody s_known_of) (defScope s_known_of) .none kV8 dc8 pm8 an8 cd8 ct8), sl8⟩) (c8 : PySem.W.codeIn K cd8 "known_of" = true) (k8 : PySem.W.keepIn K (.ref f8) = true)
    {f9 : Addr} {od9 an9 : Option Addr} {sl9 : Array (Option Value)} {oc9 kV9 dc9 pm9 cd9 ct9 : Value}
    (a9 : PySem.W.nsIn K mainGlobals "faces" = some (some (.ref f9))) (l9 : K.lookup f9 = some ⟨oc9, od9, .func (PySem.W.fnOf "faces" "faces" (defArgs s_faces) (defBody s_faces) (defScope s_faces) .none kV9 dc9 pm9 an9 cd9 ct9), sl9⟩) (c9 : PySem.W.codeIn K cd9 "faces" = true) (k9 : PySem.W.keepIn K (.ref f9) = true)
    {f10 : Addr} {od10 an10 : Option Addr} {sl10 : Array (Option Value)} {oc10 kV10 dc10 pm10 cd10 ct10 : Value}
    (a10 : PySem.W.nsIn K mainGlobals "beyond_in" = some (some (.ref f10))) (l10 : K.lookup f10 = some ⟨oc10, od10, .func (PySem.W.fnOf "beyond_in" "beyond_in" (defArgs s_beyond_in) (defBody s_beyond_in) (defScope s_beyond_in) .none kV10 dc10 pm10 an10 cd10 ct10), sl10⟩) (c10 : PySem.W.codeIn K cd10 "beyond_in" = true) (k10 : PySem.W.keepIn K (.ref f10) = true)
    {f11 : Addr} {od11 an11 : Option Addr} {sl11 : Array (Option Value)} {oc11 kV11 dc11 pm11 cd11 ct11 : Value}
    (a11 : PySem.W.nsIn K mainGlobals "part_with" = some (some (.ref f11))) (l11 : K.lookup f11 = some ⟨oc11, od11, .func (PySem.W.fnOf "part_with" "part_with" (defArgs s_part_with) (defBody s_part_with) (defScope s_part_with) .none kV11 dc11 pm11 an11 cd11 ct11), sl11⟩) (c11 : PySem.W.codeIn K cd11 "part_with" = true) (k11 : PySem.W.keepIn K (.ref f11) = true)
    {f12 : Addr} {od12 an12 : Option Addr} {sl12 : Array (Option Value)} {oc12 kV12 dc12 pm12 cd12 ct12 : Value}
    (a12 : PySem.W.nsIn K mainGlobals "skin_of" = some (some (.ref f12))) (l12 : K.lookup f12 = some ⟨oc12, od12, .func (PySem.W.fnOf "skin_of" "skin_of" (defArgs s_skin_of) (defBody s_skin_of) (defScope s_skin_of) .none kV12 dc12 pm12 an12 cd12 ct12), sl12⟩) (c12 : PySem.W.codeIn K cd12 "skin_of" = true) (k12 : PySem.W.keepIn K (.ref f12) = true)
    {f13 : Addr} {od13 an13 : Option Addr} {sl13 : Array (Option Value)} {oc13 kV13 dc13 pm13 cd13 ct13 : Value}
    (a13 : PySem.W.nsIn K mainGlobals "parts" = some (some (.ref f13))) (l13 : K.lookup f13 = some ⟨oc13, od13, .func (PySem.W.fnOf "parts" "parts" (defArgs s_parts) (defBody s_parts) (defScope s_parts) .none kV13 dc13 pm13 an13 cd13 ct13), sl13⟩) (c13 : PySem.W.codeIn K cd13 "parts" = true) (k13 : PySem.W.keepIn K (.ref f13) = true)
    {f14 : Addr} {od14 an14 : Option Addr} {sl14 : Array (Option Value)} {oc14 kV14 dc14 pm14 cd14 ct14 : Value}
    (a14 : PySem.W.nsIn K mainGlobals "outer" = some (some (.ref f14))) (l14 : K.lookup f14 = some ⟨oc14, od14, .func (PySem.W.fnOf "outer" "outer" (defArgs s_outer) (defBody s_outer) (defScope s_outer) .none kV14 dc14 pm14 an14 cd14 ct14), sl14⟩) (c14 : PySem.W.codeIn K cd14 "outer" = true) (k14 : PySem.W.keepIn K (.ref f14) = true)
    {f15 : Addr} {od15 an15 : Option Addr} {sl15 : Array (Option Value)} {oc15 kV15 dc15 pm15 cd15 ct15 : Value}
    (a15 : PySem.W.nsIn K mainGlobals "_law_hand" = some (some (.ref f15))) (l15 : K.lookup f15 = some ⟨oc15, od15, .func (PySem.W.fnOf "_law_hand" "_law_hand" (defArgs s_L_hand) (defBody s_L_hand) (defScope s_L_hand) .none kV15 dc15 pm15 an15 cd15 ct15), sl15⟩) (c15 : PySem.W.codeIn K cd15 "_law_hand" = true) (k15 : PySem.W.keepIn K (.ref f15) = true)
    {f16 : Addr} {od16 an16 : Option Addr} {sl16 : Array (Option Value)} {oc16 kV16 dc16 pm16 cd16 ct16 : Value}
    (a16 : PySem.W.nsIn K mainGlobals "_law_take" = some (some (.ref f16))) (l16 : K.lookup f16 = some ⟨oc16, od16, .func (PySem.W.fnOf "_law_take" "_law_take" (defArgs s_L_take) (defBody s_L_take) (defScope s_L_take) .none kV16 dc16 pm16 an16 cd16 ct16), sl16⟩) (c16 : PySem.W.codeIn K cd16 "_law_take" = true) (k16 : PySem.W.keepIn K (.ref f16) = true)
    {f17 : Addr} {od17 an17 : Option Addr} {sl17 : Array (Option Value)} {oc17 kV17 dc17 pm17 cd17 ct17 : Value}
    (a17 : PySem.W.nsIn K mainGlobals "_law_pick" = some (some (.ref f17))) (l17 : K.lookup f17 = some ⟨oc17, od17, .func (PySem.W.fnOf "_law_pick" "_law_pick" (defArgs s_L_pick) (defBody s_L_pick) (defScope s_L_pick) .none kV17 dc17 pm17 an17 cd17 ct17), sl17⟩) (c17 : PySem.W.codeIn K cd17 "_law_pick" = true) (k17 : PySem.W.keepIn K (.ref f17) = true)
    {f18 : Addr} {od18 an18 : Option Addr} {sl18 : Array (Option Value)} {oc18 kV18 dc18 pm18 cd18 ct18 : Value}
    (a18 : PySem.W.nsIn K mainGlobals "_law_left" = some (some (.ref f18))) (l18 : K.lookup f18 = some ⟨oc18, od18, .func (PySem.W.fnOf "_law_left" "_law_left" (defArgs s_L_left) (defBody s_L_left) (defScope s_L_left) .none kV18 dc18 pm18 an18 cd18 ct18), sl18⟩) (c18 : PySem.W.codeIn K cd18 "_law_left" = true) (k18 : PySem.W.keepIn K (.ref f18) = true)
    {f19 : Addr} {od19 an19 : Option Addr} {sl19 : Array (Option Value)} {oc19 kV19 dc19 pm19 cd19 ct19 : Value}
    (a19 : PySem.W.nsIn K mainGlobals "_law_skin" = some (some (.ref f19))) (l19 : K.lookup f19 = some ⟨oc19, od19, .func (PySem.W.fnOf "_law_skin" "_law_skin" (defArgs s_L_skin) (defBody s_L_skin) (defScope s_L_skin) .none kV19 dc19 pm19 an19 cd19 ct19), sl19⟩) (c19 : PySem.W.codeIn K cd19 "_law_skin" = true) (k19 : PySem.W.keepIn K (.ref f19) = true)
    {f20 : Addr} {od20 an20 : Option Addr} {sl20 : Array (Option Value)} {oc20 kV20 dc20 pm20 cd20 ct20 : Value}
    (a20 : PySem.W.nsIn K mainGlobals "_law_least_places" = some (some (.ref f20))) (l20 : K.lookup f20 = some ⟨oc20, od20, .func (PySem.W.fnOf "_law_least_places" "_law_least_places" (defArgs s_L_least_places) (defBody s_L_least_places) (defScope s_L_least_places) .none kV20 dc20 pm20 an20 cd20 ct20), sl20⟩) (c20 : PySem.W.codeIn K cd20 "_law_least_places" = true) (k20 : PySem.W.keepIn K (.ref f20) = true)
    {f21 : Addr} {od21 an21 : Option Addr} {sl21 : Array (Option Value)} {oc21 kV21 dc21 pm21 cd21 ct21 : Value}
    (a21 : PySem.W.nsIn K mainGlobals "_law_plate" = some (some (.ref f21))) (l21 : K.lookup f21 = some ⟨oc21, od21, .func (PySem.W.fnOf "_law_plate" "_law_plate" (defArgs s_L_plate) (defBody s_L_plate) (defScope s_L_plate) .none kV21 dc21 pm21 an21 cd21 ct21), sl21⟩) (c21 : PySem.W.codeIn K cd21 "_law_plate" = true) (k21 : PySem.W.keepIn K (.ref f21) = true)
    {f22 : Addr} {od22 an22 : Option Addr} {sl22 : Array (Option Value)} {oc22 kV22 dc22 pm22 cd22 ct22 : Value}
    (a22 : PySem.W.nsIn K mainGlobals "_law_right" = some (some (.ref f22))) (l22 : K.lookup f22 = some ⟨oc22, od22, .func (PySem.W.fnOf "_law_right" "_law_right" (defArgs s_L_right) (defBody s_L_right) (defScope s_L_right) .none kV22 dc22 pm22 an22 cd22 ct22), sl22⟩) (c22 : PySem.W.codeIn K cd22 "_law_right" = true) (k22 : PySem.W.keepIn K (.ref f22) = true)
    {f23 : Addr} {od23 an23 : Option Addr} {sl23 : Array (Option Value)} {oc23 kV23 dc23 pm23 cd23 ct23 : Value}
    (a23 : PySem.W.nsIn K mainGlobals "law" = some (some (.ref f23))) (l23 : K.lookup f23 = some ⟨oc23, od23, .func (PySem.W.fnOf "law" "law" (defArgs s_law) (defBody s_law) (defScope s_law) .none kV23 dc23 pm23 an23 cd23 ct23), sl23⟩) (c23 : PySem.W.codeIn K cd23 "law" = true) (k23 : PySem.W.keepIn K (.ref f23) = true)
    (z_tuple : PySem.W.nsIn K mainGlobals "tuple" = some none)
    (z_len : PySem.W.nsIn K mainGlobals "len" = some none)
    (z_range : PySem.W.nsIn K mainGlobals "range" = some none)
    (z_dict : PySem.W.nsIn K mainGlobals "dict" = some none)
    (z_sorted : PySem.W.nsIn K mainGlobals "sorted" = some none)
    (z_enumerate : PySem.W.nsIn K mainGlobals "enumerate" = some none)
    (z_max : PySem.W.nsIn K mainGlobals "max" = some none)
    (z_int : PySem.W.nsIn K mainGlobals "int" = some none)
    (z_min : PySem.W.nsIn K mainGlobals "min" = some none)
    (z_list : PySem.W.nsIn K mainGlobals "list" = some none)
    (z_set : PySem.W.nsIn K mainGlobals "set" = some none)
    (z_isinstance : PySem.W.nsIn K mainGlobals "isinstance" = some none)
    (z_bool : PySem.W.nsIn K mainGlobals "bool" = some none)
    {q0_FIRST_SIDES : Addr} {nn0_FIRST_SIDES : Nat} {ss0_FIRST_SIDES : Array (Option Value)}
    {q1_FIRST_SIDES : Addr} {nn1_FIRST_SIDES : Nat} {ss1_FIRST_SIDES : Array (Option Value)}
    {t1_0_FIRST_SIDES : Tok}
    {t1_1_FIRST_SIDES : Tok}
    (h1_FIRST_SIDES : K.lookup q1_FIRST_SIDES = some ⟨.type "tuple", none, .seq #[.int (2) t1_0_FIRST_SIDES, .int (4) t1_1_FIRST_SIDES] nn1_FIRST_SIDES, ss1_FIRST_SIDES⟩)
    {q2_FIRST_SIDES : Addr} {nn2_FIRST_SIDES : Nat} {ss2_FIRST_SIDES : Array (Option Value)}
    {t2_0_FIRST_SIDES : Tok}
    {t2_1_FIRST_SIDES : Tok}
    (h2_FIRST_SIDES : K.lookup q2_FIRST_SIDES = some ⟨.type "tuple", none, .seq #[.int (4) t2_0_FIRST_SIDES, .int (2) t2_1_FIRST_SIDES] nn2_FIRST_SIDES, ss2_FIRST_SIDES⟩)
    {q3_FIRST_SIDES : Addr} {nn3_FIRST_SIDES : Nat} {ss3_FIRST_SIDES : Array (Option Value)}
    {t3_0_FIRST_SIDES : Tok}
    {t3_1_FIRST_SIDES : Tok}
    (h3_FIRST_SIDES : K.lookup q3_FIRST_SIDES = some ⟨.type "tuple", none, .seq #[.int (4) t3_0_FIRST_SIDES, .int (0) t3_1_FIRST_SIDES] nn3_FIRST_SIDES, ss3_FIRST_SIDES⟩)
    {q4_FIRST_SIDES : Addr} {nn4_FIRST_SIDES : Nat} {ss4_FIRST_SIDES : Array (Option Value)}
    {t4_0_FIRST_SIDES : Tok}
    {t4_1_FIRST_SIDES : Tok}
    (h4_FIRST_SIDES : K.lookup q4_FIRST_SIDES = some ⟨.type "tuple", none, .seq #[.int (0) t4_0_FIRST_SIDES, .int (4) t4_1_FIRST_SIDES] nn4_FIRST_SIDES, ss4_FIRST_SIDES⟩)
    {q5_FIRST_SIDES : Addr} {nn5_FIRST_SIDES : Nat} {ss5_FIRST_SIDES : Array (Option Value)}
    {t5_0_FIRST_SIDES : Tok}
    {t5_1_FIRST_SIDES : Tok}
    (h5_FIRST_SIDES : K.lookup q5_FIRST_SIDES = some ⟨.type "tuple", none, .seq #[.int (0) t5_0_FIRST_SIDES, .int (2) t5_1_FIRST_SIDES] nn5_FIRST_SIDES, ss5_FIRST_SIDES⟩)
    {q6_FIRST_SIDES : Addr} {nn6_FIRST_SIDES : Nat} {ss6_FIRST_SIDES : Array (Option Value)}
    {t6_0_FIRST_SIDES : Tok}
    {t6_1_FIRST_SIDES : Tok}
    (h6_FIRST_SIDES : K.lookup q6_FIRST_SIDES = some ⟨.type "tuple", none, .seq #[.int (2) t6_0_FIRST_SIDES, .int (0) t6_1_FIRST_SIDES] nn6_FIRST_SIDES, ss6_FIRST_SIDES⟩)
    (h0_FIRST_SIDES : K.lookup q0_FIRST_SIDES = some ⟨.type "tuple", none, .seq #[.ref q1_FIRST_SIDES, .ref q2_FIRST_SIDES, .ref q3_FIRST_SIDES, .ref q4_FIRST_SIDES, .ref q5_FIRST_SIDES, .ref q6_FIRST_SIDES] nn0_FIRST_SIDES, ss0_FIRST_SIDES⟩)
    (g_FIRST_SIDES : PySem.W.nsIn K mainGlobals "FIRST_SIDES" = some (some (.ref q0_FIRST_SIDES)))
    {t_DIRECTIONS : Tok} (g_DIRECTIONS : PySem.W.nsIn K mainGlobals "DIRECTIONS" = some (some (.int 6 t_DIRECTIONS)))
    {t_SIDES : Tok} (g_SIDES : PySem.W.nsIn K mainGlobals "SIDES" = some (some (.int 4 t_SIDES))) :
    ∃ fd : FuncData, (∀ (s : Shared) (v : Value), BindsTo s fd ⟨[v], []⟩ [("_law_script", v)]) ∧ ∀ base : Heap, K.In base → base.Ns mainGlobals mg → FnG l.prog w K mg base CX0 8 fa fd ["_law_script"] (spLaw K) := by
  have e := hfa.symm.trans (PySem.W.mg_of X G a23)
  cases e
  have B : Bi mg := ⟨PySem.W.mg_none_of X G z_tuple, PySem.W.mg_none_of X G z_len, PySem.W.mg_none_of X G z_range, PySem.W.mg_none_of X G z_dict, PySem.W.mg_none_of X G z_sorted, PySem.W.mg_none_of X G z_enumerate, PySem.W.mg_none_of X G z_max, PySem.W.mg_none_of X G z_int, PySem.W.mg_none_of X G z_min, PySem.W.mg_none_of X G z_list, PySem.W.mg_none_of X G z_set, PySem.W.mg_none_of X G z_isinstance, PySem.W.mg_none_of X G z_bool⟩
  have C : Ks K mg := ⟨⟨_, .ref q0_FIRST_SIDES, PySem.W.mg_of X G g_FIRST_SIDES, rfl, fun _ _ => (Rp.wt h0_FIRST_SIDES (by show 6 ≤ sizeLine; decide) (Paired.cons (show RelV (.ref q1_FIRST_SIDES) (.ref q1_FIRST_SIDES) from rfl) (Paired.cons (show RelV (.ref q2_FIRST_SIDES) (.ref q2_FIRST_SIDES) from rfl) (Paired.cons (show RelV (.ref q3_FIRST_SIDES) (.ref q3_FIRST_SIDES) from rfl) (Paired.cons (show RelV (.ref q4_FIRST_SIDES) (.ref q4_FIRST_SIDES) from rfl) (Paired.cons (show RelV (.ref q5_FIRST_SIDES) (.ref q5_FIRST_SIDES) from rfl) (Paired.cons (show RelV (.ref q6_FIRST_SIDES) (.ref q6_FIRST_SIDES) from rfl) Paired.nil)))))) (Rps.mk (Rp.wt h1_FIRST_SIDES (by show 2 ≤ sizeLine; decide) (Paired.cons (show RelV (.int (2)) (.int (2) t1_0_FIRST_SIDES) from ⟨_, rfl⟩) (Paired.cons (show RelV (.int (4)) (.int (4) t1_1_FIRST_SIDES) from ⟨_, rfl⟩) Paired.nil)) (Rps.mk Rp.int (Rps.mk Rp.int Rps.nil))) (Rps.mk (Rp.wt h2_FIRST_SIDES (by show 2 ≤ sizeLine; decide) (Paired.cons (show RelV (.int (4)) (.int (4) t2_0_FIRST_SIDES) from ⟨_, rfl⟩) (Paired.cons (show RelV (.int (2)) (.int (2) t2_1_FIRST_SIDES) from ⟨_, rfl⟩) Paired.nil)) (Rps.mk Rp.int (Rps.mk Rp.int Rps.nil))) (Rps.mk (Rp.wt h3_FIRST_SIDES (by show 2 ≤ sizeLine; decide) (Paired.cons (show RelV (.int (4)) (.int (4) t3_0_FIRST_SIDES) from ⟨_, rfl⟩) (Paired.cons (show RelV (.int (0)) (.int (0) t3_1_FIRST_SIDES) from ⟨_, rfl⟩) Paired.nil)) (Rps.mk Rp.int (Rps.mk Rp.int Rps.nil))) (Rps.mk (Rp.wt h4_FIRST_SIDES (by show 2 ≤ sizeLine; decide) (Paired.cons (show RelV (.int (0)) (.int (0) t4_0_FIRST_SIDES) from ⟨_, rfl⟩) (Paired.cons (show RelV (.int (4)) (.int (4) t4_1_FIRST_SIDES) from ⟨_, rfl⟩) Paired.nil)) (Rps.mk Rp.int (Rps.mk Rp.int Rps.nil))) (Rps.mk (Rp.wt h5_FIRST_SIDES (by show 2 ≤ sizeLine; decide) (Paired.cons (show RelV (.int (0)) (.int (0) t5_0_FIRST_SIDES) from ⟨_, rfl⟩) (Paired.cons (show RelV (.int (2)) (.int (2) t5_1_FIRST_SIDES) from ⟨_, rfl⟩) Paired.nil)) (Rps.mk Rp.int (Rps.mk Rp.int Rps.nil))) (Rps.mk (Rp.wt h6_FIRST_SIDES (by show 2 ≤ sizeLine; decide) (Paired.cons (show RelV (.int (2)) (.int (2) t6_0_FIRST_SIDES) from ⟨_, rfl⟩) (Paired.cons (show RelV (.int (0)) (.int (0) t6_1_FIRST_SIDES) from ⟨_, rfl⟩) Paired.nil)) (Rps.mk Rp.int (Rps.mk Rp.int Rps.nil))) Rps.nil)))))))⟩, ⟨_, .int (6), PySem.W.mg_of X G g_DIRECTIONS, ⟨_, rfl⟩, fun _ _ => Rp.int⟩, ⟨_, .int (4), PySem.W.mg_of X G g_SIDES, ⟨_, rfl⟩, fun _ _ => Rp.int⟩⟩
  have F0 := fun_mk (st := s_next_corner) l0 c0 k0
  have b0 := F0.binds (ps := ["skin", "corner"]) fun _ _ _ _ _ _ us hl => match us, hl with | [_, _], _ => rfl
  have G_next_corner := fun (base : Heap) => (ok_next_corner (P := l.prog) (w := w) (base := base) B C F0 (PySem.W.mg_of X G a0) b0)
  have F1 := fun_mk (st := s_round_of) l1 c1 k1
  have b1 := F1.binds (ps := ["skin", "first"]) fun _ _ _ _ _ _ us hl => match us, hl with | [_, _], _ => rfl
  have G_round_of := fun (base : Heap) => (ok_round_of (P := l.prog) (w := w) (base := base) B C F1 (PySem.W.mg_of X G a1) b1 (G_next_corner base)).cl con_round_of
  have F2 := fun_mk (st := s_corners) l2 c2 k2
  have b2 := F2.binds (ps := ["skin"]) fun _ _ _ _ _ _ us hl => match us, hl with | [_], _ => rfl
  have G_corners := fun (base : Heap) => (ok_corners (P := l.prog) (w := w) (base := base) B C F2 (PySem.W.mg_of X G a2) b2 (G_round_of base)).cl con_corners
  have F3 := fun_mk (st := s_passages) l3 c3 k3
  have b3 := F3.binds (ps := ["skin"]) fun _ _ _ _ _ _ us hl => match us, hl with | [_], _ => rfl
  have G_passages := fun (base : Heap) => (ok_passages (P := l.prog) (w := w) (base := base) B C F3 (PySem.W.mg_of X G a3) b3 (G_corners base)).cl con_passages
  have F4 := fun_mk (st := s_against) l4 c4 k4
  have b4 := F4.binds (ps := ["d"]) fun _ _ _ _ _ _ us hl => match us, hl with | [_], _ => rfl
  have G_against := fun (base : Heap) => (ok_against (P := l.prog) (w := w) (base := base) B C F4 (PySem.W.mg_of X G a4) b4)
  have F5 := fun_mk (st := s_beside_cube) l5 c5 k5
  have b5 := F5.binds (ps := ["cube", "d"]) fun _ _ _ _ _ _ us hl => match us, hl with | [_, _], _ => rfl
  have G_beside_cube := fun (base : Heap) => (ok_beside_cube (P := l.prog) (w := w) (base := base) B C F5 (PySem.W.mg_of X G a5) b5).cl con_beside_cube
  have F6 := fun_mk (st := s_sides_of) l6 c6 k6
  have b6 := F6.binds (ps := ["d"]) fun _ _ _ _ _ _ us hl => match us, hl with | [_], _ => rfl
  have G_sides_of := fun (base : Heap) => (ok_sides_of (P := l.prog) (w := w) (base := base) B C F6 (PySem.W.mg_of X G a6) b6 (G_against base))
  have F7 := fun_mk (st := s_side_to) l7 c7 k7
  have b7 := F7.binds (ps := ["d", "t"]) fun _ _ _ _ _ _ us hl => match us, hl with | [_, _], _ => rfl
  have G_side_to := fun (base : Heap) => (ok_side_to (P := l.prog) (w := w) (base := base) B C F7 (PySem.W.mg_of X G a7) b7 (G_sides_of base))
  have F8 := fun_mk (st := s_known_of) l8 c8 k8
  have b8 := F8.binds (ps := ["body"]) fun _ _ _ _ _ _ us hl => match us, hl with | [_], _ => rfl
  have G_known_of := fun (base : Heap) => (ok_known_of (P := l.prog) (w := w) (base := base) B C F8 (PySem.W.mg_of X G a8) b8).cl con_known_of
  have F9 := fun_mk (st := s_faces) l9 c9 k9
  have b9 := F9.binds (ps := ["body"]) fun _ _ _ _ _ _ us hl => match us, hl with | [_], _ => rfl
  have G_faces := fun (base : Heap) => (ok_faces (P := l.prog) (w := w) (base := base) B C F9 (PySem.W.mg_of X G a9) b9 (G_beside_cube base) (G_known_of base)).cl con_faces
  have F10 := fun_mk (st := s_beyond_in) l10 c10 k10
  have b10 := F10.binds (ps := ["known", "face", "side"]) fun _ _ _ _ _ _ us hl => match us, hl with | [_, _, _], _ => rfl
  have G_beyond_in := fun (base : Heap) => (ok_beyond_in (P := l.prog) (w := w) (base := base) B C F10 (PySem.W.mg_of X G a10) b10 (G_against base) (G_beside_cube base) (G_side_to base) (G_sides_of base))
  have F11 := fun_mk (st := s_part_with) l11 c11 k11
  have b11 := F11.binds (ps := ["known", "first"]) fun _ _ _ _ _ _ us hl => match us, hl with | [_, _], _ => rfl
  have G_part_with := fun (base : Heap) => (ok_part_with (P := l.prog) (w := w) (base := base) B C F11 (PySem.W.mg_of X G a11) b11 (G_beyond_in base)).cl con_part_with
  have F12 := fun_mk (st := s_skin_of) l12 c12 k12
  have b12 := F12.binds (ps := ["known", "some"]) fun _ _ _ _ _ _ us hl => match us, hl with | [_, _], _ => rfl
  have G_skin_of := fun (base : Heap) => (ok_skin_of (P := l.prog) (w := w) (base := base) B C F12 (PySem.W.mg_of X G a12) b12 (G_beyond_in base)).cl con_skin_of
  have F13 := fun_mk (st := s_parts) l13 c13 k13
  have b13 := F13.binds (ps := ["body"]) fun _ _ _ _ _ _ us hl => match us, hl with | [_], _ => rfl
  have G_parts := fun (base : Heap) => (ok_parts (P := l.prog) (w := w) (base := base) B C F13 (PySem.W.mg_of X G a13) b13 (G_faces base) (G_known_of base) (G_part_with base) (G_skin_of base)).cl con_parts
  have F14 := fun_mk (st := s_outer) l14 c14 k14
  have b14 := F14.binds (ps := ["body"]) fun _ _ _ _ _ _ us hl => match us, hl with | [_], _ => rfl
  have G_outer := fun (base : Heap) => (ok_outer (P := l.prog) (w := w) (base := base) B C F14 (PySem.W.mg_of X G a14) b14 (G_parts base)).cl con_outer
  have F15 := fun_mk (st := s_L_hand) l15 c15 k15
  have b15 := F15.binds (ps := ["_law_script", "_law_k"]) fun _ _ _ _ _ _ us hl => match us, hl with | [_, _], _ => rfl
  have G_L_hand := fun (base : Heap) => (ok_L_hand (P := l.prog) (w := w) (base := base) B C F15 (PySem.W.mg_of X G a15) b15).cl con_L_hand
  have F16 := fun_mk (st := s_L_take) l16 c16 k16
  have b16 := F16.binds (ps := ["_law_hand_here", "_law_many"]) fun _ _ _ _ _ _ us hl => match us, hl with | [_, _], _ => rfl
  have G_L_take := fun (base : Heap) => (ok_L_take (P := l.prog) (w := w) (base := base) B C F16 (PySem.W.mg_of X G a16) b16).cl con_L_take
  have F17 := fun_mk (st := s_L_pick) l17 c17 k17
  have b17 := F17.binds (ps := ["_law_hand_here", "_law_some"]) fun _ _ _ _ _ _ us hl => match us, hl with | [_, _], _ => rfl
  have G_L_pick := fun (base : Heap) => (ok_L_pick (P := l.prog) (w := w) (base := base) B C F17 (PySem.W.mg_of X G a17) b17 (G_L_take base))
  have F18 := fun_mk (st := s_L_left) l18 c18 k18
  have b18 := F18.binds (ps := ["_law_rows"]) fun _ _ _ _ _ _ us hl => match us, hl with | [_], _ => rfl
  have G_L_left := fun (base : Heap) => (ok_L_left (P := l.prog) (w := w) (base := base) B C F18 (PySem.W.mg_of X G a18) b18)
  have F19 := fun_mk (st := s_L_skin) l19 c19 k19
  have b19 := F19.binds (ps := ["_law_hand_here", "_law_many"]) fun _ _ _ _ _ _ us hl => match us, hl with | [_, _], _ => rfl
  have G_L_skin := fun (base : Heap) => (ok_L_skin (P := l.prog) (w := w) (base := base) B C F19 (PySem.W.mg_of X G a19) b19 (G_L_left base) (G_L_pick base) (G_L_take base)).cl con_L_skin
  have F20 := fun_mk (st := s_L_least_places) l20 c20 k20
  have b20 := F20.binds (ps := ["_law_skin_here"]) fun _ _ _ _ _ _ us hl => match us, hl with | [_], _ => rfl
  have G_L_least_places := fun (base : Heap) => (ok_L_least_places (P := l.prog) (w := w) (base := base) B C F20 (PySem.W.mg_of X G a20) b20).cl con_L_least_places
  have F21 := fun_mk (st := s_L_plate) l21 c21 k21
  have b21 := F21.binds (ps := ["_law_hand_here", "_law_holes"]) fun _ _ _ _ _ _ us hl => match us, hl with | [_, _], _ => rfl
  have G_L_plate := fun (base : Heap) => (ok_L_plate (P := l.prog) (w := w) (base := base) B C F21 (PySem.W.mg_of X G a21) b21 (G_L_take base)).cl con_L_plate
  have F22 := fun_mk (st := s_L_right) l22 c22 k22
  have b22 := F22.binds (ps := ["_law_skin_here", "_law_found"]) fun _ _ _ _ _ _ us hl => match us, hl with | [_, _], _ => rfl
  have G_L_right := fun (base : Heap) => (ok_L_right (P := l.prog) (w := w) (base := base) B C F22 (PySem.W.mg_of X G a22) b22 (G_L_least_places base))
  have F23 := fun_mk (st := s_law) l23 c23 k23
  have b23 := F23.binds (ps := ["_law_script"]) fun _ _ _ _ _ _ us hl => match us, hl with | [_], _ => rfl
  refine ⟨PySem.W.fnOf "law" "law" (defArgs s_law) (defBody s_law) (defScope s_law) .none kV23 dc23 pm23 an23 cd23 ct23, fun s v => .of_eq rfl, fun base _ _ => ?_⟩
  have FL := fn_def (P := l.prog) (w := w) (mg := mg) (base := base) (k := 7) (N := N_law) (ps := ["_law_script"]) (fb := b_law) F23 sc_law
    (fun cdv A outer s H E hr => body_law B C (G_L_hand base) (G_L_plate base) (G_L_right base) (G_L_skin base) (G_L_take base) (G_outer base) (G_parts base) (G_passages base) hr)
  exact law_sp FL
end Lw
open PySem PySem.W PyProof.Rows
set_option maxRecDepth 100000 in
set_option maxHeartbeats 0 in
theorem PySem.Challenge.cw_flatbody_k19_passages_holds : PySem.Challenge.rw_flatbody_k19_passages.Holds := by
  w_on; o_law; k_head; (case hw => w_witness2)
  k_fill
  refine Ve.walk_ofG (l := PySem.Challenge.rw_flatbody_k19_passages) (n := 63) (k := 8) (x := "_law_script") (CX := fun _ => L2.CX0) (sp := fun w => Lw.spLaw _) rfl (by decide) rfl ⟨⟨rfl, by decide, by decide⟩, rfl⟩ (fun w h Y => PySem.W.kIn_of Y) ?F (fun _ _ a ns hl ho hS => ⟨a, ns, rfl, Ve.scAt_of ho hS, hl, fun _ => rfl⟩) (fun _ _ _ _ _ h => h)
  case F =>
    intro w mg fa h KX G hmg
    refine' Lw.all_mk KX G hmg ?a0 ?l0 ?c0 ?k0 ?a1 ?l1 ?c1 ?k1 ?a2 ?l2 ?c2 ?k2 ?a3 ?l3 ?c3 ?k3 ?a4 ?l4 ?c4 ?k4 ?a5 ?l5 ?c5 ?k5 ?a6 ?l6 ?c6 ?k6 ?a7 ?l7 ?c7 ?k7 ?a8 ?l8 ?c8 ?k8 ?a9 ?l9 ?c9 ?k9 ?a10 ?l10 ?c10 ?k10 ?a11 ?l11 ?c11 ?k11 ?a12 ?l12 ?c12 ?k12 ?a13 ?l13 ?c13 ?k13 ?a14 ?l14 ?c14 ?k14 ?a15 ?l15 ?c15 ?k15 ?a16 ?l16 ?c16 ?k16 ?a17 ?l17 ?c17 ?k17 ?a18 ?l18 ?c18 ?k18 ?a19 ?l19 ?c19 ?k19 ?a20 ?l20 ?c20 ?k20 ?a21 ?l21 ?c21 ?k21 ?a22 ?l22 ?c22 ?k22 ?a23 ?l23 ?c23 ?k23 ?z_tuple ?z_len ?z_range ?z_dict ?z_sorted ?z_enumerate ?z_max ?z_int ?z_min ?z_list ?z_set ?z_isinstance ?z_bool ?h1_FIRST_SIDES ?h2_FIRST_SIDES ?h3_FIRST_SIDES ?h4_FIRST_SIDES ?h5_FIRST_SIDES ?h6_FIRST_SIDES ?h0_FIRST_SIDES ?g_FIRST_SIDES ?g_DIRECTIONS ?g_SIDES
    (case a0 => k_is); (case l0 => k_is); (case c0 => k_is); (case k0 => k_is); (case a1 => k_is); (case l1 => k_is); (case c1 => k_is); (case k1 => k_is); (case a2 => k_is); (case l2 => k_is); (case c2 => k_is); (case k2 => k_is); (case a3 => k_is); (case l3 => k_is); (case c3 => k_is); (case k3 => k_is); (case a4 => k_is); (case l4 => k_is); (case c4 => k_is); (case k4 => k_is); (case a5 => k_is); (case l5 => k_is); (case c5 => k_is); (case k5 => k_is); (case a6 => k_is); (case l6 => k_is); (case c6 => k_is); (case k6 => k_is); (case a7 => k_is); (case l7 => k_is); (case c7 => k_is); (case k7 => k_is); (case a8 => k_is); (case l8 => k_is); (case c8 => k_is); (case k8 => k_is); (case a9 => k_is); (case l9 => k_is); (case c9 => k_is); (case k9 => k_is); (case a10 => k_is); (case l10 => k_is); (case c10 => k_is); (case k10 => k_is); (case a11 => k_is); (case l11 => k_is); (case c11 => k_is); (case k11 => k_is); (case a12 => k_is); (case l12 => k_is); (case c12 => k_is); (case k12 => k_is); (case a13 => k_is); (case l13 => k_is); (case c13 => k_is); (case k13 => k_is); (case a14 => k_is); (case l14 => k_is); (case c14 => k_is); (case k14 => k_is); (case a15 => k_is); (case l15 => k_is); (case c15 => k_is); (case k15 => k_is); (case a16 => k_is); (case l16 => k_is); (case c16 => k_is); (case k16 => k_is); (case a17 => k_is); (case l17 => k_is); (case c17 => k_is); (case k17 => k_is); (case a18 => k_is); (case l18 => k_is); (case c18 => k_is); (case k18 => k_is); (case a19 => k_is); (case l19 => k_is); (case c19 => k_is); (case k19 => k_is); (case a20 => k_is); (case l20 => k_is); (case c20 => k_is); (case k20 => k_is); (case a21 => k_is); (case l21 => k_is); (case c21 => k_is); (case k21 => k_is); (case a22 => k_is); (case l22 => k_is); (case c22 => k_is); (case k22 => k_is); (case a23 => k_is); (case l23 => k_is); (case c23 => k_is); (case k23 => k_is); (case z_tuple => k_is); (case z_len => k_is); (case z_range => k_is); (case z_dict => k_is); (case z_sorted => k_is); (case z_enumerate => k_is); (case z_max => k_is); (case z_int => k_is); (case z_min => k_is); (case z_list => k_is); (case z_set => k_is); (case z_isinstance => k_is); (case z_bool => k_is); (case g_FIRST_SIDES => k_is); (case h0_FIRST_SIDES => k_is); (case h1_FIRST_SIDES => k_is); (case h2_FIRST_SIDES => k_is); (case h3_FIRST_SIDES => k_is); (case h4_FIRST_SIDES => k_is); (case h5_FIRST_SIDES => k_is); (case h6_FIRST_SIDES => k_is); (case g_DIRECTIONS => k_is); (case g_SIDES => k_is)
