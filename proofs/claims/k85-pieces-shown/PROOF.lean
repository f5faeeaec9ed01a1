import PyProof.Rows.All
import Wide.All
import OpenK.AllK
import Wide.FinOn
import HandS.ForMost
import HandS.Walk
import HandS.TupAny
import HandS.Deep
import HandS.Style
import HandS.TupLe
import HandS.Wide
import KE.KDictKeyed
import KE.KNestM
import HandS.IsInst
import HandS.Ends
import HandS.Words
import HandS.TupLen
import HandS.More
import HandS.NoneIn
import HandS.TupMul
import HandS.Conv
import HandS.Zip
import KE.SortData
import PyProof.Rows.TupDisplay
import KE.DataFind
import KE.DataCmp
import KE.DataMinMax
import KE.GoesMore
import PyProof.EnumMake
import PyProof.Claim2Refuses
import HandS.Strs
import PyProof.ReprRoads
import HandS.SetFor
import HandS.Keys
import HandS.Iter
import KE.KDictZip
import KE.KDictWalk
import PyProof.DictMoreH
import KE.DatumOrd
import PyProof.ListIndex
import PyProof.ListIndexNeg
import PyProof.MinMaxWalk
import PyProof.TupleOfSeq
import PyProof.FitsInt
import PyProof.ReprLen
import KE.GoesEnum
import HandS.Zip0
import PyProof.Rows.IntBool
import HandS.TupSets
import HandS.Sort
import KE.KDictCopyH
import KE.KDictExact
import HandS.Text
import HandS.Exc
import PySem.Challenge.RW_flatbody_k85_pieces_shown_and_read
set_option Elab.async false
set_option linter.all false
set_option maxRecDepth 100000
namespace Ve
open PySem PySem.Spec L2
inductive D where
  | non | bl (b : Bool) | int (i : Int) | str (x : Str) | tup (ds : List D) | ref (n : Nat) | scr (ns : List Int) | wt (ds : List D)
inductive O where
  | lst (xs : List D) | dic (kvs : List (D × D)) | dicL (kvs : List (D × D))
  | dicN (ks : List D) | dicM (ks : List D)
  | ins (c : Str) (kvs : List (D × D))
  | exc (c : Str)
  | tab (x : Str)
abbrev Hd := List O
abbrev Ls := List (Option D)
def TpAt (H : Hp) (a : Addr) (vs : List V) : Prop := H a = some (.tup vs)
def WtAt (K : PySem.W.Frag) (H : Hp) (a : Addr) (vs : List V) : Prop := (∃ o : Obj, o.dict = none ∧ H a = some (.frz o (.tup vs))) ∨ ∃ (o : Obj) (its : Array Value) (n : Nat), K.lookup a = some o ∧ o.cls = .type "tuple" ∧ o.dict = none ∧ o.data = .seq its n ∧ its.size ≤ sizeLine ∧ Vals vs its.toList
theorem TpAt.sq {K : PySem.W.Frag} {H : Hp} {a : Addr} {vs : List V} (h : TpAt H a vs) : SqT K H a vs := .inl (.inl h)
theorem WtAt.sq {K : PySem.W.Frag} {H : Hp} {a : Addr} {vs : List V} (h : WtAt K H a vs) : SqT K H a vs := h.elim (fun ⟨o, _, e⟩ => .inl (.inr ⟨o, e⟩)) fun ⟨o, its, n, h1, h2, _, h3⟩ => .inr ⟨o, its, n, h1, h2, h3⟩
def ScAt (K : PySem.W.Frag) (H : Hp) (a : Addr) (vs : List V) : Prop :=
  (∃ o, H a = some (.frz o (.lst vs))) ∨ ∃ (o : Obj) (its : Array Value) (n : Nat), K.lookup a = some o ∧ o.cls = .type "list" ∧ o.dict = none ∧ o.data = .seq its n ∧ its.size ≤ sizeLine ∧ Vals vs its.toList
theorem ScAt.sq {K : PySem.W.Frag} {H : Hp} {a : Addr} {vs : List V} (h : ScAt K H a vs) : SqL K H a vs := h.elim (fun ⟨o, e⟩ => .inl (.inr ⟨o, e⟩)) .inr
mutual
def Rp (K : PySem.W.Frag) (H : Hp) (μ : List Addr) : D → V → Prop
  | .non, v => v = .non
  | .bl b, v => v = .bl b
  | .int i, v => v = .int i
  | .str x, v => v = .str x
  | .ref n, v => ∃ a, μ[n]? = some a ∧ v = .ref a
  | .scr ns, v => ∃ a, v = .ref a ∧ ScAt K H a (ns.map V.int)
  | .tup ds, v => ∃ a vs, v = .ref a ∧ TpAt H a vs ∧ Rps K H μ ds vs
  | .wt ds, v => ∃ a vs, v = .ref a ∧ WtAt K H a vs ∧ Rps K H μ ds vs
def Rps (K : PySem.W.Frag) (H : Hp) (μ : List Addr) : List D → List V → Prop
  | [], vs => vs = []
  | d :: ds, vs => ∃ v r, vs = v :: r ∧ Rp K H μ d v ∧ Rps K H μ ds r
end
def toKey : D → Option Key
  | .int i => some (.inl i)
  | .str x => some (.inr x)
  | _ => none
def toKeys : List D → Option (List Key)
  | [] => some []
  | d :: ds => match toKey d, toKeys ds with
    | some k, some ks => some (k :: ks)
    | _, _ => none
def RpK (K : PySem.W.Frag) (H : Hp) (μ : List Addr) : List (D × D) → List (Key × V) → Prop
  | [], vs => vs = []
  | p :: ds, vs => ∃ k v r, vs = (k, v) :: r ∧ toKey p.1 = some k ∧ Rp K H μ p.2 v ∧ RpK K H μ ds r
def RpT (K : PySem.W.Frag) (H : Hp) (μ : List Addr) : List (D × D) → List (List Key × V) → Prop
  | [], vs => vs = []
  | p :: ds, vs => ∃ ks k v r, p.1 = .tup ks ∧ vs = (k, v) :: r ∧ toKeys ks = some k ∧ Rp K H μ p.2 v ∧ RpT K H μ ds r
mutual
def toNK : D → Option NestedKey
  | .int i => some (.num i)
  | .tup ds => match toNKs ds with
    | some ks => some (.tup ks)
    | none => none
  | _ => none
def toNKs : List D → Option (List NestedKey)
  | [] => some []
  | d :: ds => match toNK d, toNKs ds with
    | some k, some ks => some (k :: ks)
    | _, _ => none
end
def dnP (a : Addr) (kas : List (NestedKey × Addr)) : Heap → Prop := fun h => kas.length ≤ sizeLine ∧ (a == sysModules) = false ∧ (kas.map (·.1)).Nodup ∧
  ∃ (o : Obj) (es : Array DictEntry) (ep : Nat), h.get? a = some o ∧ o.ExactDict ∧ o.data = .dict es ep ∧ ∀ w : World, es.toList = kas.map fun p => (⟨p.1.hash w, .ref p.2, .bool true⟩ : DictEntry)
def RpN (K : PySem.W.Frag) (H : Hp) (μ : List Addr) : List D → List (NestedKey × Addr) → Prop
  | [], as => as = []
  | d :: ds, as => ∃ k a r, as = (k, a) :: r ∧ toNK d = some k ∧ k.depth ≤ 8 ∧ Rp K H μ d (.ref a) ∧ RpN K H μ ds r
def excP (a C : Addr) : Heap → Prop := fun h => ∃ oe, PySem.W.InstAt h a oe C none
def lamQ (x : Str) : Str := (x ++ ".<locals>.") ++ "<lambda>"
def TabFor (K : PySem.W.Frag) (x : Str) (P : Addr) : Prop := ∃ (f c : Addr) (o : Obj) (fd : FuncData), PySem.W.nsIn K mainGlobals x = some (some (.ref f)) ∧ K.lookup f = some o ∧ o.data = .func fd ∧ fd.code = .ref c ∧ PySem.W.codeHdIn K c P = true
abbrev codeU (oc : Obj) : HO := .frz oc (.ext fun _ => True)
def kName : Key → Str
  | .inr x => x
  | .inl _ => ""
abbrev fsOf (vs : List (Key × V)) : List (Str × V) := vs.map fun p => (kName p.1, p.2)
def KNd : List (D × D) → Prop
  | [] => True
  | p :: r => (∀ q ∈ r, q.1 ≠ p.1) ∧ KNd r
def Ro (K : PySem.W.Frag) (H : Hp) (μ : List Addr) : O → Option HO → Prop
  | .lst xs, h => ∃ vs, h = some (.lst vs) ∧ Rps K H μ xs vs
  | .dic kvs, h => KNd kvs ∧ ((∃ vs, h = some (.dK vs) ∧ RpK K H μ kvs vs) ∨ ∃ vs, h = some (.dT vs) ∧ RpT K H μ kvs vs)
  | .dicN ks, h => ∃ a kas, h = some (.ext (dnP a kas)) ∧ RpN K H μ ks kas
  | .dicM ks, h => ∃ a kas od, h = some (.frz od (.ext (dnP a kas))) ∧ RpN K H μ ks kas
  | .ins c kvs, h => ∃ C dx vs, h = some (.ins C dx (fsOf vs)) ∧ PySem.W.nsIn K mainGlobals c = some (some (.ref C)) ∧ RpK K H μ kvs vs
  | .tab x, h => ∃ ps : Array Value, h = some (.tbl ps) ∧ TriplesOk ps.toList ∧ ∀ (pos : Pos) (cv : Value), codeAmong pos ps.toList = some cv → ∃ (c : Addr) (oc : Obj) (vs : Array Value) (t : Tok), cv = .ref c ∧ H c = some (codeU oc) ∧ oc.data = .fields vs ∧ vs[1]? = some (.str (lamQ x) t)
  | .exc c, h => ∃ a C, h = some (.ext (excP a C)) ∧ PySem.W.nsIn K mainGlobals c = some (some (.ref C))
  | .dicL kvs, h => KNd kvs ∧ ((∃ o vs, h = some (.frz o (.dK vs)) ∧ RpK K H μ kvs vs) ∨ ∃ o vs, h = some (.frz o (.dT vs)) ∧ RpT K H μ kvs vs)
structure RelH (K : PySem.W.Frag) (H : Hp) (μ : List Addr) (hp : Hd) : Prop where
  len : μ.length = hp.length
  nd : μ.Nodup
  obj : ∀ (n : Nat) (o : O) (a : Addr), hp[n]? = some o → μ[n]? = some a → Ro K H μ o (H a)
  tabs : ∀ (n : Nat) (x : Str) (a : Addr), hp[n]? = some (.tab x) → μ[n]? = some a → TabFor K x a
structure Ext (μ : List Addr) (H : Hp) (μ' : List Addr) (H' : Hp) : Prop where
  pre : ∃ ν, μ' = μ ++ ν
  new : ∀ a o, a ∉ μ → H a = some o → a ∉ μ'
  keep : ∀ a o, a ∉ μ → H a = some o → H' a = some o
  tups : ∀ a xs, H a = some (.tup xs) → H' a = some (.tup xs)
  scrs : ∀ a o xs, H a = some (.frz o xs) → H' a = some (.frz o xs)
structure Mon (μ : List Addr) (H : Hp) (μ' : List Addr) (H' : Hp) : Prop where
  pre : ∃ ν, μ' = μ ++ ν
  tups : ∀ a xs, H a = some (.tup xs) → H' a = some (.tup xs)
  scrs : ∀ a o u, ((∃ xs, u = .lst xs) ∨ (∃ xs, u = .tup xs) ∨ ∃ φ, u = .ext φ) → H a = some (.frz o u) → H' a = some (.frz o u)
def Rl (K : PySem.W.Frag) (H : Hp) (μ : List Addr) (ls : Ls) (σ : St) : Prop :=
  σ.length = ls.length ∧ ∀ (i : Nat) (d : D), ls[i]? = some (some d) → ∃ v, σ[i]? = some (some v) ∧ Rp K H μ d v
section
variable {K : PySem.W.Frag} {H H' H2 : Hp} {μ μ' μ2 : List Addr} {hp hp' : Hd} {ls : Ls} {σ : St}
theorem Ext.refl : Ext μ H μ H := ⟨⟨[], by simp⟩, fun _ _ h _ => h, fun _ _ _ h => h, fun _ _ h => h, fun _ _ _ h => h⟩
theorem Ext.trans (x : Ext μ H μ' H') (y : Ext μ' H' μ2 H2) : Ext μ H μ2 H2 := by
  obtain ⟨ν, e1⟩ := x.pre
  obtain ⟨ν2, e2⟩ := y.pre
  exact ⟨⟨ν ++ ν2, by rw [e2, e1, List.append_assoc]⟩, fun a o hn e => y.new a o (x.new a o hn e) (x.keep a o hn e), fun a o hn e => y.keep a o (x.new a o hn e) (x.keep a o hn e),
    fun a xs e => y.tups a xs (x.tups a xs e), fun a o xs e => y.scrs a o xs (x.scrs a o xs e)⟩
theorem Ext.m (x : Ext μ H μ' H') : Mon μ H μ' H' := ⟨x.pre, x.tups, fun a o xs _ e => x.scrs a o _ e⟩
theorem Mon.at_ (x : Mon μ H μ' H') {n : Nat} {a : Addr} (h : μ[n]? = some a) : μ'[n]? = some a := by
  obtain ⟨ν, e⟩ := x.pre
  rw [e, List.getElem?_append_left (List.getElem?_eq_some_iff.mp h).1]
  exact h
theorem TpAt.mon (x : Mon μ H μ' H') {a : Addr} {vs : List V} (h : TpAt H a vs) : TpAt H' a vs := x.tups _ _ h
theorem ScAt.mon (x : Mon μ H μ' H') {a : Addr} {vs : List V} (h : ScAt K H a vs) : ScAt K H' a vs := h.elim (fun ⟨o, e⟩ => .inl ⟨o, x.scrs _ _ _ (.inl ⟨_, rfl⟩) e⟩) .inr
theorem WtAt.mon (x : Mon μ H μ' H') {a : Addr} {vs : List V} (h : WtAt K H a vs) : WtAt K H' a vs := h.elim (fun ⟨o, d, e⟩ => .inl ⟨o, d, x.scrs _ _ _ (.inr (.inl ⟨_, rfl⟩)) e⟩) .inr
mutual
theorem Rp.mon (x : Mon μ H μ' H') : ∀ {d : D} {v : V}, Rp K H μ d v → Rp K H' μ' d v
  | .non, _, h => by rw [Rp] at *; exact h
  | .bl b, _, h => by rw [Rp] at *; exact h
  | .int i, _, h => by rw [Rp] at *; exact h
  | .str s, _, h => by rw [Rp] at *; exact h
  | .ref n, _, h => by
    rw [Rp] at *
    obtain ⟨a, e, r⟩ := h
    exact ⟨a, x.at_ e, r⟩
  | .scr ns, _, h => by
    rw [Rp] at *
    obtain ⟨a, e, r⟩ := h
    exact ⟨a, e, r.mon x⟩
  | .tup ds, _, h => by
    rw [Rp] at *
    obtain ⟨a, vs, e, t, r⟩ := h
    exact ⟨a, vs, e, t.mon x, Rps.mon x r⟩
  | .wt ds, _, h => by
    rw [Rp] at *
    obtain ⟨a, vs, e, t, r⟩ := h
    exact ⟨a, vs, e, t.mon x, Rps.mon x r⟩
theorem Rps.mon (x : Mon μ H μ' H') : ∀ {ds : List D} {vs : List V}, Rps K H μ ds vs → Rps K H' μ' ds vs
  | [], _, h => by rw [Rps] at *; exact h
  | d :: ds, _, h => by
    rw [Rps] at *
    obtain ⟨v, r, e, h1, h2⟩ := h
    exact ⟨v, r, e, Rp.mon x h1, Rps.mon x h2⟩
end
theorem RpK.mon (x : Mon μ H μ' H') : ∀ {ds : List (D × D)} {vs : List (Key × V)}, RpK K H μ ds vs → RpK K H' μ' ds vs
  | [], _, h => by rw [RpK] at *; exact h
  | d :: ds, _, h => by
    rw [RpK] at *
    obtain ⟨k, v, r, e, h1, h2, h3⟩ := h
    exact ⟨k, v, r, e, h1, h2.mon x, RpK.mon x h3⟩
theorem RpT.mon (x : Mon μ H μ' H') : ∀ {ds : List (D × D)} {vs : List (List Key × V)}, RpT K H μ ds vs → RpT K H' μ' ds vs
  | [], _, h => by rw [RpT] at *; exact h
  | d :: ds, _, h => by
    rw [RpT] at *
    obtain ⟨ks, k, v, r, e0, e, h1, h2, h3⟩ := h
    exact ⟨ks, k, v, r, e0, e, h1, h2.mon x, RpT.mon x h3⟩
theorem RpN.mon (x : Mon μ H μ' H') : ∀ {ds : List D} {as : List (NestedKey × Addr)}, RpN K H μ ds as → RpN K H' μ' ds as
  | [], _, h => by rw [RpN] at *; exact h
  | d :: ds, _, h => by
    rw [RpN] at *
    obtain ⟨k, a, r, e, h1, h2, h3, h4⟩ := h
    exact ⟨k, a, r, e, h1, h2, h3.mon x, RpN.mon x h4⟩
theorem Rl.mon (x : Mon μ H μ' H') (h : Rl K H μ ls σ) : Rl K H' μ' ls σ := ⟨h.1, fun i d e => let ⟨v, e1, r⟩ := h.2 i d e; ⟨v, e1, r.mon x⟩⟩
theorem Ro.mon (x : Mon μ H μ' H') {o : O} {h : Option HO} (r : Ro K H μ o h) : Ro K H' μ' o h := by
  cases o with
  | lst xs => obtain ⟨vs, e, q⟩ := r; exact ⟨vs, e, q.mon x⟩
  | dic kvs =>
    rcases r with ⟨nd, ⟨vs, e, q⟩ | ⟨vs, e, q⟩⟩
    · exact ⟨nd, .inl ⟨vs, e, q.mon x⟩⟩
    · exact ⟨nd, .inr ⟨vs, e, q.mon x⟩⟩
  | dicN ks => obtain ⟨a, kas, e, q⟩ := r; exact ⟨a, kas, e, q.mon x⟩
  | dicM ks => obtain ⟨a, kas, od, e, q⟩ := r; exact ⟨a, kas, od, e, q.mon x⟩
  | ins c kvs => obtain ⟨C, dx, vs, e, hc, q⟩ := r; exact ⟨C, dx, vs, e, hc, q.mon x⟩
  | exc c => exact r
  | tab c =>
    obtain ⟨ps, e, t, q⟩ := r
    refine ⟨ps, e, t, fun pos cv hc => ?_⟩
    obtain ⟨c, oc, vs, t, e1, e2, e3⟩ := q pos cv hc
    exact ⟨c, oc, vs, t, e1, x.scrs _ _ _ (.inr (.inr ⟨_, rfl⟩)) e2, e3⟩
  | dicL kvs =>
    rcases r with ⟨nd, ⟨o, vs, e, q⟩ | ⟨o, vs, e, q⟩⟩
    · exact ⟨nd, .inl ⟨o, vs, e, q.mon x⟩⟩
    · exact ⟨nd, .inr ⟨o, vs, e, q.mon x⟩⟩
theorem Ro.some {o : O} {h : Option HO} (r : Ro K H μ o h) : ∃ u, h = some u ∧ ∀ xs, u ≠ .tup xs := by
  cases o with
  | lst xs => obtain ⟨vs, e, q⟩ := r; exact ⟨_, e, fun _ z => nomatch z⟩
  | dic kvs =>
    rcases r with ⟨nd, ⟨vs, e, q⟩ | ⟨vs, e, q⟩⟩ <;> exact ⟨_, e, fun _ z => nomatch z⟩
  | dicN ks => obtain ⟨a, kas, e, q⟩ := r; exact ⟨_, e, fun _ z => nomatch z⟩
  | dicM ks => obtain ⟨a, kas, od, e, q⟩ := r; exact ⟨_, e, fun _ z => nomatch z⟩
  | ins c kvs => obtain ⟨C, dx, vs, e, q⟩ := r; exact ⟨_, e, fun _ z => nomatch z⟩
  | exc c => obtain ⟨a, C, e, q⟩ := r; exact ⟨_, e, fun _ z => nomatch z⟩
  | tab c => obtain ⟨ps, e, q⟩ := r; exact ⟨_, e, fun _ z => nomatch z⟩
  | dicL kvs =>
    rcases r with ⟨nd, ⟨o, vs, e, q⟩ | ⟨o, vs, e, q⟩⟩ <;> exact ⟨_, e, fun _ z => nomatch z⟩
theorem Rp.ext (x : Ext μ H μ' H') {d : D} {v : V} (h : Rp K H μ d v) : Rp K H' μ' d v := h.mon x.m
theorem Rps.ext (x : Ext μ H μ' H') {d : List D} {v : List V} (h : Rps K H μ d v) : Rps K H' μ' d v := h.mon x.m
theorem Rl.ext (x : Ext μ H μ' H') (h : Rl K H μ ls σ) : Rl K H' μ' ls σ := h.mon x.m
theorem TpAt.ext (x : Ext μ H μ' H') {a : Addr} {vs : List V} (h : TpAt H a vs) : TpAt H' a vs := h.mon x.m
theorem RelH.at_ (r : RelH K H μ hp) {n : Nat} {o : O} (h : hp[n]? = some o) : ∃ a, μ[n]? = some a ∧ Ro K H μ o (H a) := by
  have hl := (List.getElem?_eq_some_iff.mp h).1
  rw [← r.len] at hl
  exact ⟨μ[n], List.getElem?_eq_getElem hl, r.obj n o _ h (List.getElem?_eq_getElem hl)⟩
theorem RelH.taken (r : RelH K H μ hp) {a : Addr} (h : a ∈ μ) : ∃ u, H a = some u ∧ ∀ xs, u ≠ .tup xs := by
  obtain ⟨n, hn, e⟩ := List.mem_iff_getElem.mp h
  have hn' : n < hp.length := by rw [← r.len]; exact hn
  exact (r.obj n hp[n] a (List.getElem?_eq_getElem hn') (by rw [List.getElem?_eq_getElem hn, e])).some
theorem RelH.notIn (r : RelH K H μ hp) {a : Addr} (h : H a = none) : a ∉ μ := fun m => by
  obtain ⟨u, e, _⟩ := r.taken m
  rw [h] at e
  cases e
theorem Ext.laid (r : RelH K H μ hp) {p : Addr} {o : HO} (h : H p = none) : Ext μ H μ (upd H p o) :=
  ⟨⟨[], by simp⟩, fun _ _ n _ => n, fun a u _ e => by rw [upd_ne (ne_of_none e h)]; exact e, fun a xs e => by rw [upd_ne (ne_of_none e h)]; exact e, fun a o xs e => by rw [upd_ne (ne_of_none e h)]; exact e⟩
theorem RelH.laid (r : RelH K H μ hp) {p : Addr} {o : HO} (h : H p = none) : RelH K (upd H p o) μ hp :=
  ⟨r.len, r.nd, fun n ob a e1 e2 => by
    have q := r.obj n ob a e1 e2
    obtain ⟨u, e, _⟩ := q.some
    rw [upd_ne (ne_of_none e h)]
    exact q.mon (Ext.laid r h).m, r.tabs⟩
theorem Mon.grow {p : Addr} : Mon μ H (μ ++ [p]) H := ⟨⟨[p], rfl⟩, fun _ _ e => e, fun _ _ _ _ e => e⟩
theorem Ext.place {p : Addr} (x : Ext μ H μ' H') (hp0 : H p = none) : Ext μ H (μ' ++ [p]) H' := by
  obtain ⟨ν, e⟩ := x.pre
  refine ⟨⟨ν ++ [p], by rw [e, List.append_assoc]⟩, fun a o n e1 hm => ?_, x.keep, x.tups, x.scrs⟩
  rcases List.mem_append.mp hm with hm | hm
  · exact x.new a o n e1 hm
  · have : a = p := by simpa using hm
    subst this
    rw [hp0] at e1
    cases e1
theorem RelH.place (r : RelH K H μ hp) {p : Addr} {o : O} (hn : p ∉ μ) (q : Ro K H (μ ++ [p]) o (H p)) (nt : ∀ x, o ≠ .tab x := by intro _ z; exact nomatch z) : RelH K H (μ ++ [p]) (hp ++ [o]) := by
  refine ⟨by simp [r.len], List.nodup_append.mpr ⟨r.nd, by simp, fun a ha b hb => ?_⟩, fun n ob a e1 e2 => ?_, fun n x a e1 e2 => ?_⟩
  · have : b = p := by simpa using hb
    subst this
    intro e
    subst e
    exact hn ha
  · by_cases hl : n < hp.length
    · rw [List.getElem?_append_left hl] at e1
      rw [List.getElem?_append_left (by rw [r.len]; exact hl)] at e2
      exact (r.obj n ob a e1 e2).mon Mon.grow
    · have hl2 : n < (hp ++ [o]).length := (List.getElem?_eq_some_iff.mp e1).1
      have : n = hp.length := by
        simp at hl2
        omega
      subst this
      rw [List.getElem?_append_right (Nat.le_refl _)] at e1
      rw [List.getElem?_append_right (by rw [r.len]; exact Nat.le_refl _)] at e2
      simp [r.len] at e1 e2
      subst e1; subst e2
      exact q
  · by_cases hl : n < hp.length
    · rw [List.getElem?_append_left hl] at e1
      rw [List.getElem?_append_left (by rw [r.len]; exact hl)] at e2
      exact r.tabs n x a e1 e2
    · have hl2 : n < (hp ++ [o]).length := (List.getElem?_eq_some_iff.mp e1).1
      have : n = hp.length := by
        simp at hl2
        omega
      subst this
      rw [List.getElem?_append_right (Nat.le_refl _)] at e1
      simp at e1
      exact absurd e1 (nt x)
theorem RelH.put (r : RelH K H μ hp) {n : Nat} {a : Addr} {o : O} {u : HO} (h : μ[n]? = some a) (q : Ro K (upd H a u) μ o (some u)) {u1 : HO} (e1 : H a = some u1 := by assumption) (nf : ∀ ob w, u1 ≠ .frz ob w := by intro _ _ z; exact nomatch z) (ntb : ∀ x, o ≠ .tab x := by intro _ z; exact nomatch z) : RelH K (upd H a u) μ (hp.set n o) ∧ Ext μ H μ (upd H a u) := by
  have ha : a ∈ μ := List.mem_of_getElem? h
  obtain ⟨u0, e0, nt⟩ := r.taken ha
  have x : Ext μ H μ (upd H a u) := by
    refine ⟨⟨[], by simp⟩, fun _ _ n _ => n, fun b v hb e => ?_, fun b xs e => ?_, fun b ob xs e => ?_⟩
    · rw [upd_ne (show b ≠ a from fun z => hb (by rw [z]; exact ha))]
      exact e
    · rw [upd_ne (fun z => ?_)]
      · exact e
      · subst z
        rw [e0] at e
        exact nt _ (Option.some.inj e)
    · rw [upd_ne (fun z => ?_)]
      · exact e
      · subst z
        rw [e1] at e
        exact nf _ _ (Option.some.inj e)
  refine ⟨⟨by simp [r.len], r.nd, fun m ob b e1 e2 => ?_, fun m y b e1 e2 => ?_⟩, x⟩
  rotate_left
  · by_cases hm : m = n
    · subst hm
      have hl : m < hp.length := by rw [← r.len]; exact (List.getElem?_eq_some_iff.mp h).1
      rw [List.getElem?_set_self hl] at e1
      exact absurd (Option.some.inj e1) (ntb y)
    · rw [List.getElem?_set_ne (Ne.symm hm)] at e1
      exact r.tabs m y b e1 e2
  by_cases hm : m = n
  · subst hm
    rw [h] at e2
    cases e2
    have hl : m < hp.length := by rw [← r.len]; exact (List.getElem?_eq_some_iff.mp h).1
    rw [List.getElem?_set_self hl] at e1
    cases e1
    rw [upd_same]
    exact q
  · rw [List.getElem?_set_ne (Ne.symm hm)] at e1
    have hb : b ≠ a := fun z => by
      subst z
      obtain ⟨h1, h2⟩ := List.getElem?_eq_some_iff.mp h
      obtain ⟨h3, h4⟩ := List.getElem?_eq_some_iff.mp e2
      exact hm ((List.getElem_inj r.nd).mp (h4.trans h2.symm))
    rw [upd_ne hb]
    exact (r.obj m ob b e1 e2).mon x.m
end
end Ve
namespace Ve
open PySem PySem.Spec L2
abbrev AE := Ls → Hd → Option (D × Hd)
abbrev AT := Ls → Hd → Option (Bool × Hd)
abbrev AA := Ls → Hd → Option (List D × Hd)
def tD (K : PySem.W.Frag) (f : AE) : TE := fun σ H Q => ∃ ls hp μ d hp', Rl K H μ ls σ ∧ RelH K H μ hp ∧ f ls hp = some (d, hp') ∧
  ∀ v H' μ', Ext μ H μ' H' → RelH K H' μ' hp' → Rp K H' μ' d v → Q v H'
def tT (K : PySem.W.Frag) (f : AT) : TT := fun σ H Q => ∃ ls hp μ b hp', Rl K H μ ls σ ∧ RelH K H μ hp ∧ f ls hp = some (b, hp') ∧
  ∀ H' μ', Ext μ H μ' H' → RelH K H' μ' hp' → Q b H'
def tAs (K : PySem.W.Frag) (f : AA) : TA := fun σ H Q => ∃ ls hp μ ds hp', Rl K H μ ls σ ∧ RelH K H μ hp ∧ f ls hp = some (ds, hp') ∧
  ∀ vs H' μ', Ext μ H μ' H' → RelH K H' μ' hp' → Rps K H' μ' ds vs → Q vs H'
def tL (K : PySem.W.Frag) (f : AA) : TE := fun σ H Q => ∃ ls hp μ ds hp', Rl K H μ ls σ ∧ RelH K H μ hp ∧ f ls hp = some (ds, hp') ∧
  ∀ a vs H' μ', Ext μ H μ' H' → RelH K H' μ' hp' → H a = none → a ∉ μ' → H' a = some (.lst vs) → Rps K H' μ' ds vs → Q (.ref a) H'
abbrev DE (X : Cx) (e : Expr) (f : AE) : Prop := PE X e (tD X.K f)
abbrev DT (X : Cx) (e : Expr) (f : AT) : Prop := PT X e (tT X.K f)
abbrev DW (X : Cx) (e : Expr) (f : AT) : Prop := PW X e (tT X.K f)
abbrev DA (X : Cx) (es : List Expr) (f : AA) : Prop := PA X es (tAs X.K f)
abbrev LE (X : Cx) (e : Expr) (f : AA) : Prop := PE X e (tL X.K f)
theorem PE.imp {X : Cx} {e : Expr} {t t' : TE} (h : PE X e t) (i : ∀ σ H Q, t' σ H Q → t σ H Q) : PE X e t' := ⟨fun pins s σ H Q I q => h.run pins s σ H Q I (i σ H Q q)⟩
theorem PT.imp {X : Cx} {e : Expr} {t t' : TT} (h : PT X e t) (i : ∀ σ H Q, t' σ H Q → t σ H Q) : PT X e t' := ⟨fun pins s σ H Q I q => h.run pins s σ H Q I (i σ H Q q)⟩
theorem PW.imp {X : Cx} {e : Expr} {t t' : TT} (h : PW X e t) (i : ∀ σ H Q, t' σ H Q → t σ H Q) : PW X e t' := ⟨fun w pins s σ H Q I q => h.run w pins s σ H Q I (i σ H Q q)⟩
theorem PA.imp {X : Cx} {e : List Expr} {t t' : TA} (h : PA X e t) (i : ∀ σ H Q, t' σ H Q → t σ H Q) : PA X e t' := ⟨fun p pins s σ H Q I q => h.run p pins s σ H Q I (i σ H Q q)⟩
theorem PS.imp {X : Cx} {e : Stmt} {t t' : TS} (h : PS X e t) (i : ∀ D σ H, t' D σ H → t D σ H) : PS X e t' := ⟨fun pins s σ H Q I q => h.run pins s σ H Q I (i Q σ H q)⟩
theorem PSs.imp {X : Cx} {e : List Stmt} {t t' : TS} (h : PSs X e t) (i : ∀ D σ H, t' D σ H → t D σ H) : PSs X e t' := ⟨fun pins s σ H Q I q => h.run pins s σ H Q I (i Q σ H q)⟩
def mVar (i : Nat) : AE := fun ls hp => match ls[i]? with
  | some (some d) => some (d, hp)
  | _ => none
def mC (d : D) : AE := fun _ hp => some (d, hp)
def m2 (fa fb : AE) (g : D → D → Hd → Option (D × Hd)) : AE := fun ls hp => match fa ls hp with
  | some (a, hp1) => match fb ls hp1 with
    | some (b, hp2) => g a b hp2
    | none => none
  | none => none
def m1 (fa : AE) (g : D → Hd → Option (D × Hd)) : AE := fun ls hp => match fa ls hp with
  | some (a, hp1) => g a hp1
  | none => none
def mT (fa : AE) : AT := fun ls hp => match fa ls hp with
  | some (.bl b, hp1) => some (b, hp1)
  | _ => none
def mNil : AA := fun _ hp => some ([], hp)
def mCons (fa : AE) (fr : AA) : AA := fun ls hp => match fa ls hp with
  | some (a, hp1) => match fr ls hp1 with
    | some (r, hp2) => some (a :: r, hp2)
    | none => none
  | none => none
def mAs (fa : AA) (g : List D → Hd → Option (D × Hd)) : AE := fun ls hp => match fa ls hp with
  | some (a, hp1) => g a hp1
  | none => none
def mNew (f : AA) : AE := fun ls hp => match f ls hp with
  | some (ds, hp1) => some (.ref hp1.length, hp1 ++ [.lst ds])
  | none => none
section
variable {X : Cx} {e a b : Expr} {es : List Expr} {fa fb : AE} {ft : AT} {fr : AA} {pos : Pos}
theorem de_var (i : Nat) {x : Str} (hN : X.N[i]? = some x := by rfl) (hv : Vis X.env.scope x := by first | exact Or.inl rfl | exact Or.inr (Or.inl rfl) | exact Or.inr (Or.inr rfl))
    (hd : (x == ("__debug__" : Str)) = false := by decide) (hcd : (x == ("__classdict__" : Str)) = false := by decide) : DE X (.Name x pos) (mVar i) :=
  PE.imp (pe_var hN hv hd hcd) fun σ H Q ⟨ls, hp, μ, d, hp', rl, rh, e, q⟩ => by
    unfold mVar at e
    split at e
    · rename_i d' e1
      cases e
      obtain ⟨v, e2, r⟩ := rl.2 i _ e1
      exact ⟨v, e2, q v H μ Ext.refl rh r⟩
    · cases e
theorem de_c {v : V} {d : D} {e : Expr} (h : PE X e (tC v)) (hd : ∀ H μ, Rp X.K H μ d v) : DE X e (mC d) :=
  PE.imp h fun σ H Q ⟨ls, hp, μ, d', hp', rl, rh, e, q⟩ => by
    cases e
    exact q v H μ Ext.refl rh (hd H μ)
theorem de_int {i j} : DE X (.Constant (.int i) j pos) (mC (.int i)) := de_c pe_int fun _ _ => by rw [Rp]
theorem de_bl {c j} : DE X (.Constant (.bool c) j pos) (mC (.bl c)) := de_c pe_bl fun _ _ => by rw [Rp]
theorem de_non {j} : DE X (.Constant .none j pos) (mC .non) := de_c pe_non fun _ _ => by rw [Rp]
theorem de_str {x j} : DE X (.Constant (.str x) j pos) (mC (.str x)) := de_c pe_str fun _ _ => by rw [Rp]
def RD (K : PySem.W.Frag) (g : D → D → Hd → Option (D × Hd)) : R2 := fun x y H Q => ∃ hp μ d1 d2 d hp', RelH K H μ hp ∧ Rp K H μ d1 x ∧ Rp K H μ d2 y ∧ g d1 d2 hp = some (d, hp') ∧
  ∀ v H' μ', Ext μ H μ' H' → RelH K H' μ' hp' → Rp K H' μ' d v → Q v H'
def RD1 (K : PySem.W.Frag) (g : D → Hd → Option (D × Hd)) : V → Hp → VK → Prop := fun x H Q => ∃ hp μ d1 d hp', RelH K H μ hp ∧ Rp K H μ d1 x ∧ g d1 hp = some (d, hp') ∧
  ∀ v H' μ', Ext μ H μ' H' → RelH K H' μ' hp' → Rp K H' μ' d v → Q v H'
def RDs (K : PySem.W.Frag) (g : List D → Hd → Option (D × Hd)) : List V → Hp → VK → Prop := fun xs H Q => ∃ hp μ ds d hp', RelH K H μ hp ∧ Rps K H μ ds xs ∧ g ds hp = some (d, hp') ∧
  ∀ v H' μ', Ext μ H μ' H' → RelH K H' μ' hp' → Rp K H' μ' d v → Q v H'
theorem tOp_of {K : PySem.W.Frag} {g : D → D → Hd → Option (D × Hd)} {σ : St} {H : Hp} {Q : VK} (h : tD K (m2 fa fb g) σ H Q) : tOp (RD K g) (tD K fa) (tD K fb) σ H Q := by
  obtain ⟨ls, hp, μ, d, hp', rl, rh, e, q⟩ := h
  unfold m2 at e
  cases e1 : fa ls hp with
  | none => rw [e1] at e; cases e
  | some p1 =>
    obtain ⟨d1, hp1⟩ := p1
    rw [e1] at e
    dsimp only at e
    cases e2 : fb ls hp1 with
    | none => rw [e2] at e; cases e
    | some p2 =>
      obtain ⟨d2, hp2⟩ := p2
      rw [e2] at e
      dsimp only at e
      exact ⟨ls, hp, μ, d1, hp1, rl, rh, e1, fun v1 H1 μ1 x1 rh1 r1 => ⟨ls, hp1, μ1, d2, hp2, rl.ext x1, rh1, e2, fun v2 H2 μ2 x2 rh2 r2 =>
        ⟨hp2, μ2, d1, d2, d, hp', rh2, r1.ext x2, r2, e, fun v H' μ' x3 rh3 r3 => q v H' μ' ((x1.trans x2).trans x3) rh3 r3⟩⟩⟩
theorem tUn_of {K : PySem.W.Frag} {g : D → Hd → Option (D × Hd)} {σ : St} {H : Hp} {Q : VK} (h : tD K (m1 fa g) σ H Q) : tUn (RD1 K g) (tD K fa) σ H Q := by
  obtain ⟨ls, hp, μ, d, hp', rl, rh, e, q⟩ := h
  unfold m1 at e
  cases e1 : fa ls hp with
  | none => rw [e1] at e; cases e
  | some p1 =>
    obtain ⟨d1, hp1⟩ := p1
    rw [e1] at e
    dsimp only at e
    exact ⟨ls, hp, μ, d1, hp1, rl, rh, e1, fun v1 H1 μ1 x1 rh1 r1 => ⟨hp1, μ1, d1, d, hp', rh1, r1, e, fun v H' μ' x3 rh3 r3 => q v H' μ' (x1.trans x3) rh3 r3⟩⟩
theorem tCB_of {K : PySem.W.Frag} {g : List D → Hd → Option (D × Hd)} {σ : St} {H : Hp} {Q : VK} (h : tD K (mAs fr g) σ H Q) : tCB (RDs K g) (tAs K fr) σ H Q := by
  obtain ⟨ls, hp, μ, d, hp', rl, rh, e, q⟩ := h
  unfold mAs at e
  cases e1 : fr ls hp with
  | none => rw [e1] at e; cases e
  | some p1 =>
    obtain ⟨d1, hp1⟩ := p1
    rw [e1] at e
    dsimp only at e
    exact ⟨ls, hp, μ, d1, hp1, rl, rh, e1, fun v1 H1 μ1 x1 rh1 r1 => ⟨hp1, μ1, d1, d, hp', rh1, r1, e, fun v H' μ' x3 rh3 r3 => q v H' μ' (x1.trans x3) rh3 r3⟩⟩
theorem de_op {op : Operator} {g : D → D → Hd → Option (D × Hd)} (ho : OpR X (binaryOp op) (RD X.K g)) (ha : DE X a fa) (hb : DE X b fb) : DE X (.BinOp a op b pos) (m2 fa fb g) :=
  PE.imp (pe_op ho ha hb) fun _ _ _ h => tOp_of h
theorem de_un {op : UnaryOp} {g : D → Hd → Option (D × Hd)} (ho : UnR X (unaryOp op) (RD1 X.K g)) (ha : DE X a fa) : DE X (.UnaryOp op a pos) (m1 fa g) :=
  PE.imp (pe_un ho ha) fun _ _ _ h => tUn_of h
theorem de_cmp {op : CmpOp} {g : D → D → Hd → Option (D × Hd)} (ho : OpR X (compareOp op) (RD X.K g)) (ha : DE X a fa) (hb : DE X b fb) (hm : behindInMarks op b = false) : DE X (.Compare a [op] [b] pos) (m2 fa fb g) :=
  PE.imp (pe_cmpR ho ha hb hm) fun _ _ _ h => tOp_of h
theorem tTest_of {K : PySem.W.Frag} {t : TE} {f : AE} {σ : St} {H : Hp} {Q : Bool → Hp → Prop} (i : ∀ σ H Q, tD K f σ H Q → t σ H Q) (h : tT K (mT f) σ H Q) : tTest t σ H Q := by
  obtain ⟨ls, hp, μ, c, hp', rl, rh, e, q⟩ := h
  unfold mT at e
  split at e
  · rename_i c' hp1 e1
    cases e
    refine i _ _ _ ⟨ls, hp, μ, .bl c, hp', rl, rh, e1, fun v H' μ' x1 rh1 r1 => ?_⟩
    rw [Rp] at r1
    exact ⟨c, r1, q H' μ' x1 rh1⟩
  · cases e
theorem dt_cmp {op : CmpOp} {g : D → D → Hd → Option (D × Hd)} (ho : OpR X (compareOp op) (RD X.K g)) (ha : DE X a fa) (hb : DE X b fb) (hm : behindInMarks op b = false) : DT X (.Compare a [op] [b] pos) (mT (m2 fa fb g)) :=
  PT.imp (pt_cmpR ho ha hb hm) fun _ _ _ h => tTest_of (fun _ _ _ h => tOp_of h) h
theorem da_nil : DA X [] mNil := PA.imp pa_nil fun σ H Q ⟨ls, hp, μ, ds, hp', rl, rh, e, q⟩ => by
  cases e
  exact q [] H μ Ext.refl rh (by rw [Rps])
theorem da_cons (ha : DE X e fa) (hr : DA X es fr) (hs : starEach (e :: es) X.env = (false, eval e X.env) :: starEach es X.env := by rfl) : DA X (e :: es) (mCons fa fr) :=
  PA.imp (pa_cons ha hr hs) fun σ H Q ⟨ls, hp, μ, ds, hp', rl, rh, e, q⟩ => by
    unfold mCons at e
    cases e1 : fa ls hp with
    | none => rw [e1] at e; cases e
    | some p1 =>
      obtain ⟨d1, hp1⟩ := p1
      rw [e1] at e
      dsimp only at e
      cases e2 : fr ls hp1 with
      | none => rw [e2] at e; cases e
      | some p2 =>
        obtain ⟨d2, hp2⟩ := p2
        rw [e2] at e
        cases e
        exact ⟨ls, hp, μ, d1, hp1, rl, rh, e1, fun v1 H1 μ1 x1 rh1 r1 => ⟨ls, hp1, μ1, d2, hp', rl.ext x1, rh1, e2, fun v2 H2 μ2 x2 rh2 r2 =>
          q _ H2 μ2 (x1.trans x2) rh2 (by rw [Rps]; exact ⟨v1, v2, rfl, r1.ext x2, r2⟩)⟩⟩
theorem Rps.len {K : PySem.W.Frag} {H : Hp} {μ : List Addr} : ∀ {ds : List D} {vs : List V}, Rps K H μ ds vs → vs.length = ds.length
  | [], vs, h => by rw [Rps] at h; rw [h]; rfl
  | d :: ds, vs, h => by
    rw [Rps] at h
    obtain ⟨v, r, e, _, h2⟩ := h
    rw [e, List.length_cons, List.length_cons, Rps.len h2]
def mTup (fr : AA) : AE := fun ls hp => match fr ls hp with
  | some (ds, hp1) => if ds.length ≤ sizeLine then some (.tup ds, hp1) else none
  | none => none
def mLst (fr : AA) : AA := fun ls hp => match fr ls hp with
  | some (ds, hp1) => if ds.length ≤ sizeLine then some (ds, hp1) else none
  | none => none
theorem de_tup {x1} (h : DA X es fr) : DE X (.Tuple es x1 pos) (mTup fr) :=
  PE.imp (pe_tup h) fun σ H Q ⟨ls, hp, μ, d, hp', rl, rh, e, q⟩ => by
    unfold mTup at e
    cases e1 : fr ls hp with
    | none => rw [e1] at e; cases e
    | some p1 =>
      obtain ⟨ds, hp1⟩ := p1
      rw [e1] at e
      dsimp only at e
      split at e
      · rename_i hl
        cases e
        refine ⟨ls, hp, μ, ds, hp', rl, rh, e1, fun vs H1 μ1 x1 rh1 r1 => ⟨by rw [r1.len]; exact hl, fun p hp0 => ?_⟩⟩
        have x2 := Ext.laid rh1 (o := .tup vs) hp0
        exact q _ _ μ1 (x1.trans x2) (rh1.laid hp0) (by rw [Rp]; exact ⟨p, vs, rfl, upd_same, r1.ext x2⟩)
      · cases e
theorem le_lst (h : DA X es fr) : LE X (.List es pos) (mLst fr) :=
  PE.imp (pe_lst h) fun σ H Q ⟨ls, hp, μ, d, hp', rl, rh, e, q⟩ => by
    unfold mLst at e
    cases e1 : fr ls hp with
    | none => rw [e1] at e; cases e
    | some p1 =>
      obtain ⟨ds, hp1⟩ := p1
      rw [e1] at e
      dsimp only at e
      split at e
      · rename_i hl
        cases e
        refine ⟨ls, hp, μ, d, hp', rl, rh, e1, fun vs H1 μ1 x1 rh1 r1 => ⟨by rw [r1.len]; exact hl, fun p hp0 => ?_⟩⟩
        have x2 := Ext.laid rh1 (o := .lst vs) hp0
        have h0 : H p = none := by
          cases hh : H p with
          | none => rfl
          | some o =>
            exfalso
            by_cases hm : p ∈ μ
            · exact rh1.notIn hp0 (by
                obtain ⟨ν, e⟩ := x1.pre
                rw [e]
                exact List.mem_append_left _ hm)
            · have := x1.keep p o hm hh
              rw [hp0] at this
              cases this
        exact q p vs _ μ1 (x1.trans x2) (rh1.laid hp0) h0 (rh1.notIn hp0) upd_same (r1.ext x2)
      · cases e
theorem de_new {f : AA} (h : LE X e f) : DE X e (mNew f) :=
  PE.imp h fun σ H Q ⟨ls, hp, μ, d, hp', rl, rh, e, q⟩ => by
    unfold mNew at e
    cases e1 : f ls hp with
    | none => rw [e1] at e; cases e
    | some p1 =>
      obtain ⟨ds, hp1⟩ := p1
      rw [e1] at e
      cases e
      refine ⟨ls, hp, μ, ds, hp1, rl, rh, e1, fun a vs H1 μ1 x1 rh1 h0 hn hl r1 => ?_⟩
      refine q (.ref a) H1 (μ1 ++ [a]) (x1.place h0) (rh1.place hn ⟨vs, hl, r1.mon Mon.grow⟩) ?_
      rw [Rp]
      refine ⟨a, ?_, rfl⟩
      rw [List.getElem?_append_right (by rw [rh1.len]; exact Nat.le_refl _), rh1.len]
      simp
end
end Ve
namespace Ve
open PySem PySem.Spec L2
def gI (c : Int → Int → Bool) (g : Int → Int → D) : D → D → Hd → Option (D × Hd)
  | .int i, .int j, hp => if c i j then some (g i j, hp) else none
  | _, _, _ => none
theorem gI_some {c : Int → Int → Bool} {g : Int → Int → D} {a b d : D} {hp hp' : Hd} (h : gI c g a b hp = some (d, hp')) : ∃ i j, a = .int i ∧ b = .int j ∧ c i j = true ∧ d = g i j ∧ hp' = hp := by
  unfold gI at h
  split at h
  · rename_i i j
    split at h
    · rename_i hc
      cases h
      exact ⟨i, j, rfl, rfl, hc, rfl, rfl⟩
    · cases h
  · cases h
theorem Rp.intE {K : PySem.W.Frag} {H : Hp} {μ : List Addr} {i : Int} {v : V} (h : Rp K H μ (.int i) v) : v = .int i := by rw [Rp] at h; exact h
theorem Rp.blE {K : PySem.W.Frag} {H : Hp} {μ : List Addr} {i : Bool} {v : V} (h : Rp K H μ (.bl i) v) : v = .bl i := by rw [Rp] at h; exact h
theorem Rp.nonE {K : PySem.W.Frag} {H : Hp} {μ : List Addr} {v : V} (h : Rp K H μ .non v) : v = .non := by rw [Rp] at h; exact h
theorem Rp.strE {K : PySem.W.Frag} {H : Hp} {μ : List Addr} {i : Str} {v : V} (h : Rp K H μ (.str i) v) : v = .str i := by rw [Rp] at h; exact h
theorem Rp.refE {K : PySem.W.Frag} {H : Hp} {μ : List Addr} {n : Nat} {v : V} (h : Rp K H μ (.ref n) v) : ∃ a, μ[n]? = some a ∧ v = .ref a := by rw [Rp] at h; exact h
theorem Rp.scrE {K : PySem.W.Frag} {H : Hp} {μ : List Addr} {ns : List Int} {v : V} (h : Rp K H μ (.scr ns) v) : ∃ a, v = .ref a ∧ ScAt K H a (ns.map V.int) := by rw [Rp] at h; exact h
theorem Rp.tupE {K : PySem.W.Frag} {H : Hp} {μ : List Addr} {ds : List D} {v : V} (h : Rp K H μ (.tup ds) v) : ∃ a vs, v = .ref a ∧ TpAt H a vs ∧ Rps K H μ ds vs := by rw [Rp] at h; exact h
theorem Rp.wtE {K : PySem.W.Frag} {H : Hp} {μ : List Addr} {ds : List D} {v : V} (h : Rp K H μ (.wt ds) v) : ∃ a vs, v = .ref a ∧ WtAt K H a vs ∧ Rps K H μ ds vs := by rw [Rp] at h; exact h
theorem Rp.int {K : PySem.W.Frag} {H : Hp} {μ : List Addr} {i : Int} : Rp K H μ (.int i) (.int i) := by rw [Rp]
theorem Rp.bl {K : PySem.W.Frag} {H : Hp} {μ : List Addr} {i : Bool} : Rp K H μ (.bl i) (.bl i) := by rw [Rp]
theorem Rp.non {K : PySem.W.Frag} {H : Hp} {μ : List Addr} : Rp K H μ .non .non := by rw [Rp]
theorem Rp.str {K : PySem.W.Frag} {H : Hp} {μ : List Addr} {i : Str} : Rp K H μ (.str i) (.str i) := by rw [Rp]
section
variable {X : Cx}
theorem op_gI {f : Value → Value → Sem Value} {C : Int → Int → Prop} {c : Int → Int → Bool} {g : Int → Int → Int} (h : OpR X f (rI C fun i j => .int (g i j))) (hc : ∀ i j, c i j = true → C i j) :
    OpR X f (RD X.K (gI c fun i j => .int (g i j))) := fun pins s σ H x y v u Q I rx ry ⟨hp, μ, d1, d2, d, hp', rh, r1, r2, e, q⟩ => by
  obtain ⟨i, j, rfl, rfl, c1, rfl, rfl⟩ := gI_some e
  exact h pins s σ H x y v u Q I rx ry ⟨i, j, r1.intE, r2.intE, hc i j c1, q _ H μ Ext.refl rh Rp.int⟩
theorem op_gI0 {f : Value → Value → Sem Value} {c : Int → Int → Bool} {g : Int → Int → Int} (h : OpR X f (rI0 fun i j => .int (g i j))) :
    OpR X f (RD X.K (gI c fun i j => .int (g i j))) := fun pins s σ H x y v u Q I rx ry ⟨hp, μ, d1, d2, d, hp', rh, r1, r2, e, q⟩ => by
  obtain ⟨i, j, rfl, rfl, c1, rfl, rfl⟩ := gI_some e
  exact h pins s σ H x y v u Q I rx ry ⟨i, j, r1.intE, r2.intE, q _ H μ Ext.refl rh Rp.int⟩
theorem op_gB0 {f : Value → Value → Sem Value} {c : Int → Int → Bool} {g : Int → Int → Bool} (h : OpR X f (rI0 fun i j => .bl (g i j))) :
    OpR X f (RD X.K (gI c fun i j => .bl (g i j))) := fun pins s σ H x y v u Q I rx ry ⟨hp, μ, d1, d2, d, hp', rh, r1, r2, e, q⟩ => by
  obtain ⟨i, j, rfl, rfl, c1, rfl, rfl⟩ := gI_some e
  exact h pins s σ H x y v u Q I rx ry ⟨i, j, r1.intE, r2.intE, q _ H μ Ext.refl rh Rp.bl⟩
def gSub : D → D → Hd → Option (D × Hd) := gI (fun _ _ => true) fun i j => .int (i - j)
def cMul (i j : Int) : Bool := decide (((-(2 ^ 64) < i ∧ i < 2 ^ 64) ∨ (-(2 ^ 64) < j ∧ j < 2 ^ 64)) ∨ i.natAbs.log2 + j.natAbs.log2 < 1000000)
def gMul : D → D → Hd → Option (D × Hd) := gI cMul fun i j => .int (i * j)
def cDiv (_ j : Int) : Bool := decide (0 < j ∧ (j < 1073741824 ∨ j.natAbs.log2 < 9000))
def gDiv : D → D → Hd → Option (D × Hd) := gI cDiv fun i j => .int (i / j)
def gMod : D → D → Hd → Option (D × Hd) := gI (fun _ j => decide (0 < j)) fun i j => .int (i % j)
def cPow (i j : Int) : Bool := decide (0 ≤ j ∧ j ≤ 1000000 ∧ i.natAbs < 2 ^ 64)
def gPow : D → D → Hd → Option (D × Hd) := gI cPow fun i j => .int (i ^ j.toNat)
theorem o_sub : OpR X (binaryOp .Sub) (RD X.K gSub) := op_gI0 op_sub
theorem o_mul : OpR X (binaryOp .Mult) (RD X.K gMul) := fun pins s σ H x y v u Q I rx ry ⟨hp, μ, d1, d2, d, hp', rh, r1, r2, e, q⟩ => by
  obtain ⟨i, j, rfl, rfl, c1, rfl, rfl⟩ := gI_some e
  have q' := q _ H μ Ext.refl rh Rp.int
  rcases of_decide_eq_true c1 with c2 | c2
  · exact op_mul pins s σ H x y v u Q I rx ry ⟨i, j, r1.intE, r2.intE, c2, q'⟩
  · exact op_mulW pins s σ H x y v u Q I rx ry ⟨i, j, r1.intE, r2.intE, c2, q'⟩
theorem o_div : OpR X (binaryOp .FloorDiv) (RD X.K gDiv) := fun pins s σ H x y v u Q I rx ry ⟨hp, μ, d1, d2, d, hp', rh, r1, r2, e, q⟩ => by
  obtain ⟨i, j, rfl, rfl, c1, rfl, rfl⟩ := gI_some e
  have q' := q _ H μ Ext.refl rh Rp.int
  obtain ⟨c0, c2⟩ := of_decide_eq_true c1
  rcases c2 with c2 | c2
  · exact op_fdiv pins s σ H x y v u Q I rx ry ⟨i, j, r1.intE, r2.intE, ⟨c0, c2⟩, q'⟩
  · exact op_fdivW pins s σ H x y v u Q I rx ry ⟨i, j, r1.intE, r2.intE, ⟨c0, c2⟩, q'⟩
theorem o_mod : OpR X (binaryOp .Mod) (RD X.K gMod) := op_gI op_mod fun _ _ h => of_decide_eq_true h
theorem o_pow : OpR X (binaryOp .Pow) (RD X.K gPow) := op_gI op_pow fun i j h => (show 0 ≤ j ∧ j ≤ 1000000 ∧ i.natAbs < 2 ^ 64 from of_decide_eq_true h)
def gNeg : D → Hd → Option (D × Hd)
  | .int i, hp => some (.int (-i), hp)
  | _, _ => none
theorem u_neg : UnR X (unaryOp .USub) (RD1 X.K gNeg) := fun pins s σ H x v Q I rx ⟨hp, μ, d1, d, hp', rh, r1, e, q⟩ => by
  unfold gNeg at e
  split at e
  · rename_i i
    cases e
    exact un_neg pins s σ H x v Q I rx ⟨i, r1.intE, q _ H μ Ext.refl rh Rp.int⟩
  · cases e
def gAdd : D → D → Hd → Option (D × Hd)
  | .int i, .int j, hp => some (.int (i + j), hp)
  | .tup a, .tup b, hp => if a.length + b.length ≤ sizeLine then some (.tup (a ++ b), hp) else none
  | .str a, .str b, hp => if a.length + b.length ≤ sizeLine then some (.str (a ++ b), hp) else none
  | .int i, .bl b, hp => some (.int (i + (if b then 1 else 0)), hp)
  | .wt a, .tup b, hp => if (a.length + b.length ≤ sizeLine ∧ 0 < a.length) ∧ 0 < b.length then some (.tup (a ++ b), hp) else none
  | .tup a, .wt b, hp => if (a.length + b.length ≤ sizeLine ∧ 0 < a.length) ∧ 0 < b.length then some (.tup (a ++ b), hp) else none
  | .wt a, .wt b, hp => if (a.length + b.length ≤ sizeLine ∧ 0 < a.length) ∧ 0 < b.length then some (.tup (a ++ b), hp) else none
  | _, _, _ => none
theorem Rps.append {K : PySem.W.Frag} {H : Hp} {μ : List Addr} : ∀ {a b : List D} {vs ws : List V}, Rps K H μ a vs → Rps K H μ b ws → Rps K H μ (a ++ b) (vs ++ ws)
  | [], b, vs, ws, h, h2 => by rw [Rps] at h; rw [h]; exact h2
  | d :: ds, b, vs, ws, h, h2 => by
    rw [Rps] at h
    obtain ⟨v, r, e, h3, h4⟩ := h
    rw [e, List.cons_append, List.cons_append, Rps]
    exact ⟨v, _, rfl, h3, Rps.append h4 h2⟩
theorem Rps.nil {K : PySem.W.Frag} {H : Hp} {μ : List Addr} : Rps K H μ [] [] := by rw [Rps]
theorem Rps.nil_iff {K : PySem.W.Frag} {H : Hp} {μ : List Addr} {a : List D} {vs : List V} (h : Rps K H μ a vs) : vs = [] ↔ a = [] := by
  have := h.len
  constructor
  · intro e
    rw [e] at this
    exact List.eq_nil_of_length_eq_zero this.symm
  · intro e
    rw [e] at this
    exact List.eq_nil_of_length_eq_zero this
theorem Rp.tup {K : PySem.W.Frag} {H : Hp} {μ : List Addr} {ds : List D} {a : Addr} {vs : List V} (h : H a = some (.tup vs)) (r : Rps K H μ ds vs) : Rp K H μ (.tup ds) (.ref a) := by rw [Rp]; exact ⟨a, vs, rfl, h, r⟩
theorem Rp.tup' {K : PySem.W.Frag} {H : Hp} {μ : List Addr} {ds : List D} {a : Addr} {vs : List V} (h : TpAt H a vs) (r : Rps K H μ ds vs) : Rp K H μ (.tup ds) (.ref a) := by rw [Rp]; exact ⟨a, vs, rfl, h, r⟩
theorem o_add : OpR X (binaryOp .Add) (RD X.K gAdd) := fun pins s σ H x y v u Q I rx ry ⟨hp, μ, d1, d2, d, hp', rh, r1, r2, e, q⟩ => by
  unfold gAdd at e
  split at e
  · rename_i i j
    cases e
    exact op_add pins s σ H x y v u Q I rx ry ⟨i, j, r1.intE, r2.intE, q _ H μ Ext.refl rh Rp.int⟩
  · rename_i a b
    split at e
    · rename_i hl
      cases e
      obtain ⟨p1, vs, e1, t1, q1⟩ := r1.tupE
      obtain ⟨p2, ws, e2, t2, q2⟩ := r2.tupE
      refine op_catA pins s σ H x y v u Q I rx ry ⟨p1, p2, vs, ws, e1, e2, t1.sq, t2.sq, by rw [q1.len, q2.len]; exact hl, fun z => ?_, fun _ z => ?_, fun _ _ p h0 => ?_⟩
      · have := q1.nil_iff.mp z
        subst this
        exact q _ H μ Ext.refl rh (Rp.tup' t2 q2)
      · have := q2.nil_iff.mp z
        subst this
        rw [List.append_nil] at q
        exact q _ H μ Ext.refl rh (Rp.tup' t1 q1)
      · have x2 := Ext.laid rh (o := .tup (vs ++ ws)) h0
        exact q _ _ μ x2 (rh.laid h0) (Rp.tup upd_same ((q1.append q2).ext x2))
    · cases e
  · rename_i a b
    split at e
    · rename_i hl
      cases e
      exact op_add_str pins s σ H x y v u Q I rx ry ⟨a, b, r1.strE, r2.strE, hl, q _ H μ Ext.refl rh Rp.str⟩
    · cases e
  · rename_i i b
    cases e
    exact op_add_ib pins s σ H x y v u Q I rx ry ⟨i, b, r1.intE, r2.blE, q _ H μ Ext.refl rh Rp.int⟩
  · split at e
    · rename_i hl
      cases e
      obtain ⟨p1, vs, e1, t1, q1⟩ := r1.wtE
      obtain ⟨p2, ws, e2, t2, q2⟩ := r2.tupE
      refine op_catA pins s σ H x y v u Q I rx ry ⟨p1, p2, vs, ws, e1, e2, t1.sq, t2.sq, by rw [q1.len, q2.len]; exact hl.1.1, fun z => ?_, fun _ z => ?_, fun _ _ p h0 => ?_⟩
      · have := q1.len; rw [z] at this; simp at this; omega
      · have := q2.len; rw [z] at this; simp at this; omega
      · have x2 := Ext.laid rh (o := .tup (vs ++ ws)) h0
        exact q _ _ μ x2 (rh.laid h0) (Rp.tup upd_same ((q1.append q2).ext x2))
    · cases e
  · split at e
    · rename_i hl
      cases e
      obtain ⟨p1, vs, e1, t1, q1⟩ := r1.tupE
      obtain ⟨p2, ws, e2, t2, q2⟩ := r2.wtE
      refine op_catA pins s σ H x y v u Q I rx ry ⟨p1, p2, vs, ws, e1, e2, t1.sq, t2.sq, by rw [q1.len, q2.len]; exact hl.1.1, fun z => ?_, fun _ z => ?_, fun _ _ p h0 => ?_⟩
      · have := q1.len; rw [z] at this; simp at this; omega
      · have := q2.len; rw [z] at this; simp at this; omega
      · have x2 := Ext.laid rh (o := .tup (vs ++ ws)) h0
        exact q _ _ μ x2 (rh.laid h0) (Rp.tup upd_same ((q1.append q2).ext x2))
    · cases e
  · split at e
    · rename_i hl
      cases e
      obtain ⟨p1, vs, e1, t1, q1⟩ := r1.wtE
      obtain ⟨p2, ws, e2, t2, q2⟩ := r2.wtE
      refine op_catA pins s σ H x y v u Q I rx ry ⟨p1, p2, vs, ws, e1, e2, t1.sq, t2.sq, by rw [q1.len, q2.len]; exact hl.1.1, fun z => ?_, fun _ z => ?_, fun _ _ p h0 => ?_⟩
      · have := q1.len; rw [z] at this; simp at this; omega
      · have := q2.len; rw [z] at this; simp at this; omega
      · have x2 := Ext.laid rh (o := .tup (vs ++ ws)) h0
        exact q _ _ μ x2 (rh.laid h0) (Rp.tup upd_same ((q1.append q2).ext x2))
    · cases e
  · cases e
def gLe : D → D → Hd → Option (D × Hd) := gI (fun _ _ => true) fun i j => .bl (decide (i ≤ j))
def gGt : D → D → Hd → Option (D × Hd) := gI (fun _ _ => true) fun i j => .bl (decide (j < i))
def gGe : D → D → Hd → Option (D × Hd) := gI (fun _ _ => true) fun i j => .bl (decide (j ≤ i))
theorem o_le : OpR X (compareOp .LtE) (RD X.K gLe) := op_gB0 op_le
theorem o_gt : OpR X (compareOp .Gt) (RD X.K gGt) := op_gB0 op_gt
theorem o_ge : OpR X (compareOp .GtE) (RD X.K gGe) := op_gB0 op_ge
def ints? : List D → Option (List Int)
  | [] => some []
  | .int i :: r => (ints? r).map (i :: ·)
  | _ :: _ => none
theorem ints?_eq : ∀ {ds : List D} {ns : List Int}, ints? ds = some ns → ds = ns.map D.int
  | [], ns, h => by cases h; rfl
  | d :: r, ns, h => by
    cases d <;> simp only [ints?] at h <;> try (cases h)
    rename_i i
    cases e : ints? r with
    | none => rw [e] at h; cases h
    | some m =>
      rw [e] at h
      cases h
      rw [ints?_eq e]
      rfl
theorem ints?_map : ∀ ns : List Int, ints? (ns.map D.int) = some ns
  | [] => rfl
  | n :: ns => by
    show (ints? (ns.map D.int)).map (n :: ·) = _
    rw [ints?_map ns]
    rfl
theorem Rps.ints {K : PySem.W.Frag} {H : Hp} {μ : List Addr} : ∀ {ns : List Int} {vs : List V}, Rps K H μ (ns.map D.int) vs → vs = ns.map V.int
  | [], vs, h => by rw [List.map_nil, Rps] at h; rw [h]; rfl
  | n :: ns, vs, h => by
    rw [List.map_cons, Rps] at h
    obtain ⟨v, r, e, h1, h2⟩ := h
    rw [e, h1.intE, Rps.ints h2]
    rfl
def gLt : D → D → Hd → Option (D × Hd)
  | .int i, .int j, hp => some (.bl (decide (i < j)), hp)
  | .tup a, .tup b, hp => match ints? a, ints? b with
    | some ns, some ms => some (.bl (HT.lexLt ns ms), hp)
    | _, _ => none
  | _, _, _ => none
theorem o_lt (hu : X.A.units < cLine) : OpR X (compareOp .Lt) (RD X.K gLt) := fun pins s σ H x y v u Q I rx ry ⟨hp, μ, d1, d2, d, hp', rh, r1, r2, e, q⟩ => by
  unfold gLt at e
  split at e
  · rename_i i j
    cases e
    exact op_lt pins s σ H x y v u Q I rx ry ⟨i, j, r1.intE, r2.intE, q _ H μ Ext.refl rh Rp.bl⟩
  · rename_i a b
    split at e
    · rename_i ns ms e1 e2
      cases e
      have z1 := ints?_eq e1
      have z2 := ints?_eq e2
      subst z1 z2
      obtain ⟨p1, vs, f1, t1, q1⟩ := r1.tupE
      obtain ⟨p2, ws, f2, t2, q2⟩ := r2.tupE
      have z1 := q1.ints
      have z2 := q2.ints
      subst z1 z2
      exact op_ltT hu pins s σ H x y v u Q I rx ry ⟨p1, p2, ns, ms, f1, f2, t1.sq, t2.sq, q _ H μ Ext.refl rh Rp.bl⟩
    · cases e
  · cases e
def mapO {α β : Type} (f : α → Option β) : List α → Option (List β)
  | [] => some []
  | x :: r => match f x, mapO f r with
    | some y, some ys => some (y :: ys)
    | _, _ => none
def pyF (hp : Hd) : Nat → D → Option PyData
  | 0, _ => none
  | n + 1, d => match d with
    | .non => some .none
    | .bl b => some (.bool b)
    | .int i => some (.int i)
    | .str x => some (.str x)
    | .tup ds => (mapO (pyF hp n) ds).map .tuple
    | .wt ds => (mapO (pyF hp n) ds).map .tuple
    | .scr ns => some (.list (ns.map .int))
    | .ref k => match hp[k]? with
      | some (.lst xs) => (mapO (pyF hp n) xs).map .list
      | _ => none
theorem DpAll.ints {K : PySem.W.Frag} {H : Hp} : ∀ ns : List Int, DpAll K H (ns.map V.int) (ns.map PyData.int)
  | [] => .nil
  | n :: ns => .cons (.int n) (DpAll.ints ns)
theorem pyF_dp {K : PySem.W.Frag} {H : Hp} {μ : List Addr} {hp : Hd} (rh : RelH K H μ hp) : ∀ (n : Nat) (d : D) (p : PyData) (v : V), pyF hp n d = some p → Rp K H μ d v → Dp K H v p
  | 0, d, p, v, h, _ => by simp [pyF] at h
  | n + 1, d, p, v, h, r => by
    have all : ∀ (ds : List D) (ps : List PyData) (vs : List V), mapO (pyF hp n) ds = some ps → Rps K H μ ds vs → DpAll K H vs ps := by
      intro ds
      induction ds with
      | nil =>
        intro ps vs h r
        rw [Rps] at r
        simp only [mapO] at h
        cases h
        subst r
        exact .nil
      | cons d ds ih =>
        intro ps vs h r
        rw [Rps] at r
        obtain ⟨v, w, e, r1, r2⟩ := r
        subst e
        simp only [mapO] at h
        split at h
        · rename_i y ys e1 e2
          cases h
          exact .cons (pyF_dp rh n d y v e1 r1) (ih _ _ e2 r2)
        · cases h
    cases d with
    | non => simp only [pyF] at h; cases h; cases r.nonE; exact .non
    | bl b => simp only [pyF] at h; cases h; cases r.blE; exact .bl b
    | int i => simp only [pyF] at h; cases h; cases r.intE; exact .int i
    | str x => simp only [pyF] at h; cases h; cases r.strE; exact .str x
    | scr ns =>
      simp only [pyF] at h
      cases h
      obtain ⟨a, rfl, s⟩ := r.scrE
      exact .lst s.sq (DpAll.ints ns)
    | tup ds =>
      simp only [pyF] at h
      obtain ⟨a, vs, rfl, t, q⟩ := r.tupE
      cases e : mapO (pyF hp n) ds with
      | none => rw [e] at h; cases h
      | some ps =>
        rw [e] at h
        cases h
        exact .tup t.sq (all _ _ _ e q)
    | wt ds =>
      simp only [pyF] at h
      obtain ⟨a, vs, rfl, t, q⟩ := r.wtE
      cases e : mapO (pyF hp n) ds with
      | none => rw [e] at h; cases h
      | some ps =>
        rw [e] at h
        cases h
        exact .tup t.sq (all _ _ _ e q)
    | ref k =>
      simp only [pyF] at h
      split at h
      · rename_i xs e0
        obtain ⟨a, ea, rfl⟩ := r.refE
        obtain ⟨a2, ea2, vs, eh, q⟩ := rh.at_ e0
        rw [ea] at ea2
        cases ea2
        cases e : mapO (pyF hp n) xs with
        | none => rw [e] at h; cases h
        | some ps =>
          rw [e] at h
          cases h
          exact .lst (.inl (.inl eh)) (all _ _ _ e q)
      · cases h
def eqH (hp : Hd) (x y : D) : Option Bool := match pyF hp 16 x, pyF hp 16 y with
  | some p, some q => if (SeqAt.shaped p && SeqAt.shaped q) = true then some (PyData.eqv p q) else none
  | _, _ => none
def gEq (x y : D) (hp : Hd) : Option (D × Hd) := match eqH hp x y with
  | some b => some (.bl b, hp)
  | none => none
def gNe (x y : D) (hp : Hd) : Option (D × Hd) := match eqH hp x y with
  | some b => some (.bl (!b), hp)
  | none => none
theorem eqH_some {hp : Hd} {x y : D} {b : Bool} (h : eqH hp x y = some b) : ∃ p q, pyF hp 16 x = some p ∧ pyF hp 16 y = some q ∧ SeqAt.shaped p = true ∧ SeqAt.shaped q = true ∧ b = PyData.eqv p q := by
  unfold eqH at h
  split at h
  · rename_i p q e1 e2
    split at h
    · rename_i hs
      rw [Bool.and_eq_true] at hs
      cases h
      exact ⟨p, q, e1, e2, hs.1, hs.2, rfl⟩
    · cases h
  · cases h
theorem o_eq (hu : X.A.units + 64 < cLine) : OpR X (compareOp .Eq) (RD X.K gEq) := fun pins s σ H x y v u Q I rx ry ⟨hp, μ, d1, d2, d, hp', rh, r1, r2, e, q⟩ => by
  unfold gEq at e
  split at e
  · rename_i b eb
    cases e
    obtain ⟨p, q2, e1, e2, s1, s2, rfl⟩ := eqH_some eb
    exact op_eqD hu pins s σ H x y v u Q I rx ry ⟨p, q2, pyF_dp rh _ _ _ _ e1 r1, pyF_dp rh _ _ _ _ e2 r2, s1, s2, q _ H μ Ext.refl rh Rp.bl⟩
  · cases e
theorem o_ne (hu : X.A.units + 64 < cLine) : OpR X (compareOp .NotEq) (RD X.K gNe) := fun pins s σ H x y v u Q I rx ry ⟨hp, μ, d1, d2, d, hp', rh, r1, r2, e, q⟩ => by
  unfold gNe at e
  split at e
  · rename_i b eb
    cases e
    obtain ⟨p, q2, e1, e2, s1, s2, rfl⟩ := eqH_some eb
    exact op_neD hu pins s σ H x y v u Q I rx ry ⟨p, q2, pyF_dp rh _ _ _ _ e1 r1, pyF_dp rh _ _ _ _ e2 r2, s1, s2, q _ H μ Ext.refl rh Rp.bl⟩
  · cases e
end
end Ve
namespace Ve
open PySem PySem.Spec L2
mutual
def D.same : D → D → Bool
  | .non, .non => true
  | .bl a, .bl b => a == b
  | .int a, .int b => decide (a = b)
  | .str a, .str b => decide (a = b)
  | .ref a, .ref b => a == b
  | .scr a, .scr b => decide (a = b)
  | .tup a, .tup b => D.sames a b
  | .wt a, .wt b => D.sames a b
  | _, _ => false
def D.sames : List D → List D → Bool
  | [], [] => true
  | a :: as, b :: bs => D.same a b && D.sames as bs
  | _, _ => false
end
mutual
theorem D.same_eq : ∀ (a b : D), D.same a b = true → a = b
  | .non, b, h => by cases b <;> simp [D.same] at h ⊢
  | .bl x, b, h => by cases b <;> simp [D.same] at h ⊢ <;> exact h
  | .int x, b, h => by cases b <;> simp [D.same] at h ⊢ <;> exact h
  | .str x, b, h => by cases b <;> simp [D.same] at h ⊢ <;> exact h
  | .ref x, b, h => by cases b <;> simp [D.same] at h ⊢ <;> exact h
  | .scr x, b, h => by cases b <;> simp [D.same] at h ⊢ <;> exact h
  | .tup x, b, h => by
    cases b <;> simp [D.same] at h ⊢
    exact D.sames_eq _ _ h
  | .wt x, b, h => by
    cases b <;> simp [D.same] at h ⊢
    exact D.sames_eq _ _ h
theorem D.sames_eq : ∀ (a b : List D), D.sames a b = true → a = b
  | [], b, h => by cases b <;> simp [D.sames] at h ⊢
  | x :: xs, b, h => by
    cases b with
    | nil => simp [D.sames] at h
    | cons y ys =>
      simp [D.sames] at h
      rw [D.same_eq x y h.1, D.sames_eq xs ys h.2]
end
mutual
theorem D.same_self : ∀ a : D, D.same a a = true
  | .non => by simp [D.same]
  | .bl x => by simp [D.same]
  | .int x => by simp [D.same]
  | .str x => by simp [D.same]
  | .ref x => by simp [D.same]
  | .scr x => by simp [D.same]
  | .tup x => by simp [D.same, D.sames_self x]
  | .wt x => by simp [D.same, D.sames_self x]
theorem D.sames_self : ∀ a : List D, D.sames a a = true
  | [] => by simp [D.sames]
  | x :: xs => by simp [D.sames, D.same_self x, D.sames_self xs]
end
inductive Fl where
  | nx | rt (d : D) | bk | ct
abbrev AS := Ls → Hd → Option (Fl × Ls × Hd)
def En (K : PySem.W.Frag) (Dn : Ends) (fl : Fl) (ls' : Ls) (H' : Hp) (μ' : List Addr) : Prop := match fl with
  | .nx => ∀ σ', Rl K H' μ' ls' σ' → Dn.nx σ' H'
  | .rt d => ∀ v, Rp K H' μ' d v → Dn.rt v H'
  | .bk => ∀ σ', Rl K H' μ' ls' σ' → Dn.bk σ' H'
  | .ct => ∀ σ', Rl K H' μ' ls' σ' → Dn.ct σ' H'
def tS (K : PySem.W.Frag) (f : AS) : TS := fun Dn σ H => ∃ ls hp μ fl ls' hp', Rl K H μ ls σ ∧ RelH K H μ hp ∧ f ls hp = some (fl, ls', hp') ∧
  ∀ H' μ', Ext μ H μ' H' → RelH K H' μ' hp' → En K Dn fl ls' H' μ'
abbrev DS (X : Cx) (e : Stmt) (f : AS) : Prop := PS X e (tS X.K f)
abbrev DSs (X : Cx) (e : List Stmt) (f : AS) : Prop := PSs X e (tS X.K f)
def sNext : AS := fun ls hp => some (.nx, ls, hp)
def sSeq (f g : AS) : AS := fun ls hp => match f ls hp with
  | some (.nx, ls1, hp1) => g ls1 hp1
  | r => r
def sDrop (f : AE) : AS := fun ls hp => match f ls hp with
  | some (_, hp1) => some (.nx, ls, hp1)
  | none => none
def sRet (f : AE) : AS := fun ls hp => match f ls hp with
  | some (d, hp1) => some (.rt d, ls, hp1)
  | none => none
def sIf (c : AT) (f g : AS) : AS := fun ls hp => match c ls hp with
  | some (true, hp1) => f ls hp1
  | some (false, hp1) => g ls hp1
  | none => none
def sSet (i : Nat) (f : AE) : AS := fun ls hp => match f ls hp with
  | some (d, hp1) => some (.nx, ls.set i (some d), hp1)
  | none => none
inductive Tg where
  | nm (i : Nat) | tp (ts : List Tg)
mutual
def Tg.asg : Tg → D → Ls → Option Ls
  | .nm i, d, ls => some (ls.set i (some d))
  | .tp ts, .tup ds, ls => Tg.asgs ts ds ls
  | .tp ts, .wt ds, ls => Tg.asgs ts ds ls
  | .tp _, _, _ => none
def Tg.asgs : List Tg → List D → Ls → Option Ls
  | [], [], ls => some ls
  | t :: ts, d :: ds, ls => match Tg.asg t d ls with
    | some ls1 => Tg.asgs ts ds ls1
    | none => none
  | _, _, _ => none
end
mutual
def Tg.slots : Tg → List Nat
  | .nm i => [i]
  | .tp ts => Tg.slotss ts
def Tg.slotss : List Tg → List Nat
  | [] => []
  | t :: ts => Tg.slots t ++ Tg.slotss ts
end
def gD (K : PySem.W.Frag) (t : Tg) : TG := fun v σ H Q => ∃ ls μ d ls', Rl K H μ ls σ ∧ Rp K H μ d v ∧ t.asg d ls = some ls' ∧
  ∀ σ', Rl K H μ ls' σ' → (∀ vs : List Nat, (∀ i ∈ t.slots, i ∈ vs) → wipe σ' vs = wipe σ vs) → Q σ' H
def gDs (K : PySem.W.Frag) (t : List Tg) : TGs := fun v σ H Q => ∃ ls μ d ls', Rl K H μ ls σ ∧ Rps K H μ d v ∧ Tg.asgs t d ls = some ls' ∧
  ∀ σ', Rl K H μ ls' σ' → (∀ vs : List Nat, (∀ i ∈ Tg.slotss t, i ∈ vs) → wipe σ' vs = wipe σ vs) → Q σ' H
abbrev DG (X : Cx) (e : Expr) (t : Tg) : Prop := PG X e (gD X.K t)
abbrev DGs (X : Cx) (e : List Expr) (t : List Tg) : Prop := PGs X e (gDs X.K t)
theorem PG.imp {X : Cx} {e : Expr} {t t' : TG} (h : PG X e t) (i : ∀ v σ H Q, t' v σ H Q → t v σ H Q) : PG X e t' := ⟨fun pins s σ H v u Q I r q => h.run pins s σ H v u Q I r (i v σ H Q q)⟩
theorem PGs.imp {X : Cx} {e : List Expr} {t t' : TGs} (h : PGs X e t) (i : ∀ v σ H Q, t' v σ H Q → t v σ H Q) : PGs X e t' := ⟨fun pins s σ H v u Q I r q => h.run pins s σ H v u Q I r (i v σ H Q q)⟩
theorem Rl.set {K : PySem.W.Frag} {H : Hp} {μ : List Addr} {ls : Ls} {σ : St} {i : Nat} {d : D} {v : V} (h : Rl K H μ ls σ) (r : Rp K H μ d v) : Rl K H μ (ls.set i (some d)) (σ.set i (some v)) := by
  refine ⟨by rw [List.length_set, List.length_set, h.1], fun j e hj => ?_⟩
  by_cases hji : i = j
  · subst hji
    by_cases hl : i < ls.length
    · rw [List.getElem?_set_self hl] at hj
      cases hj
      exact ⟨v, List.getElem?_set_self (by rw [h.1]; exact hl), r⟩
    · rw [List.getElem?_eq_none (by simpa using hl)] at hj
      cases hj
  · rw [List.getElem?_set_ne hji] at hj
    rw [List.getElem?_set_ne hji]
    exact h.2 j e hj
theorem wipe_set {σ : St} {i : Nat} {x : Option V} : ∀ {vs : List Nat}, i ∈ vs → wipe (σ.set i x) vs = wipe σ vs
  | [], h => by cases h
  | v :: vs, h => by
    unfold wipe
    by_cases e : i ∈ vs
    · rw [wipe_set e]
    · rcases List.mem_cons.mp h with z | z
      · subst z
        have go : ∀ (ws : List Nat), i ∉ ws → wipe (σ.set i x) ws = (wipe σ ws).set i x := by
          intro ws
          induction ws with
          | nil => intro _; rfl
          | cons w ws ih =>
            intro hn
            unfold wipe
            rw [ih (fun z => hn (List.mem_cons_of_mem _ z)), List.set_comm _ _ (fun z => hn (by rw [z]; exact List.mem_cons_self))]
        rw [go vs e, List.set_set]
      · exact absurd z e
section
variable {X : Cx} {st : Stmt} {sts rest : List Stmt} {e a b : Expr} {f g : AS} {fa fb : AE} {ft : AT} {fr : AA} {pos : Pos}
theorem dss_nil : DSs X [] sNext := PSs.imp pss_nil fun Dn σ H ⟨ls, hp, μ, fl, ls', hp', rl, rh, e, q⟩ => by
  cases e
  exact q H μ Ext.refl rh σ rl
theorem dss_cons (h1 : DS X st f) (h2 : DSs X rest g) : DSs X (st :: rest) (sSeq f g) :=
  PSs.imp (pss_cons h1 h2) fun Dn σ H ⟨ls, hp, μ, fl, ls', hp', rl, rh, e, q⟩ => by
    unfold sSeq at e
    split at e
    · rename_i ls1 hp1 e1
      exact ⟨ls, hp, μ, .nx, ls1, hp1, rl, rh, e1, fun H1 μ1 x1 rh1 σ1 rl1 => ⟨ls1, hp1, μ1, fl, ls', hp', rl1, rh1, e, fun H' μ' x2 rh2 => q H' μ' (x1.trans x2) rh2⟩⟩
    · rename_i hne
      refine ⟨ls, hp, μ, fl, ls', hp', rl, rh, e, fun H1 μ1 x1 rh1 => ?_⟩
      have q' := q H1 μ1 x1 rh1
      cases fl with
      | nx => exact absurd e (hne ls' hp')
      | rt d => exact q'
      | bk => exact q'
      | ct => exact q'
theorem dss_one (h1 : DS X st f) : DSs X [st] f := PSs.imp (pss_one h1) fun _ _ _ h => h
theorem ds_expr (he : DE X e fa) (hs : swapsWith e none pos.line X.env = pure false := by rfl) : DS X (.Expr e pos) (sDrop fa) :=
  PS.imp (ps_expr he hs) fun Dn σ H ⟨ls, hp, μ, fl, ls', hp', rl, rh, e, q⟩ => by
    unfold sDrop at e
    split at e
    · rename_i d hp1 e1
      cases e
      exact ⟨ls, hp, μ, d, hp', rl, rh, e1, fun v H' μ' x1 rh1 r1 => q H' μ' x1 rh1 σ (rl.ext x1)⟩
    · cases e
theorem ds_ret (he : DE X e fa) : DS X (.Return (some e) pos) (sRet fa) :=
  PS.imp (ps_ret he) fun Dn σ H ⟨ls, hp, μ, fl, ls', hp', rl, rh, e, q⟩ => by
    unfold sRet at e
    split at e
    · rename_i d hp1 e1
      cases e
      exact ⟨ls, hp, μ, d, hp', rl, rh, e1, fun v H' μ' x1 rh1 r1 => q H' μ' x1 rh1 v r1⟩
    · cases e
theorem En.seq {K : PySem.W.Frag} {Dn : Ends} {fl : Fl} {ls' : Ls} {H H1 H' : Hp} {μ μ1 μ' : List Addr} (h : En K Dn fl ls' H' μ') : En K Dn fl ls' H' μ' := h
theorem ds_if {c : Expr} {as bs : List Stmt} (hc : DT X c ft) (ha : DSs X as f) (hb : DSs X bs g) : DS X (.If c as bs pos) (sIf ft f g) :=
  PS.imp (ps_if hc ha hb) fun Dn σ H ⟨ls, hp, μ, fl, ls', hp', rl, rh, e, q⟩ => by
    unfold sIf at e
    split at e
    · rename_i hp1 e1
      exact ⟨ls, hp, μ, true, hp1, rl, rh, e1, fun H1 μ1 x1 rh1 => iteT ⟨ls, hp1, μ1, fl, ls', hp', rl.ext x1, rh1, e, fun H' μ' x2 rh2 => q H' μ' (x1.trans x2) rh2⟩⟩
    · rename_i hp1 e1
      exact ⟨ls, hp, μ, false, hp1, rl, rh, e1, fun H1 μ1 x1 rh1 => iteF ⟨ls, hp1, μ1, fl, ls', hp', rl.ext x1, rh1, e, fun H' μ' x2 rh2 => q H' μ' (x1.trans x2) rh2⟩⟩
    · cases e
theorem ds_set {i : Nat} {x : Str} {pos' : Pos} (hN : X.N.Nodup) (hi : X.N[i]? = some x) (hx : Loc X.env.scope x) (he : DE X e fa) (hs : swapsWith e (some (.Name x pos')) pos.line X.env = pure false := by rfl)
    (hf : X.fn x = true ∨ X.env.scope.names.lookup x = some .local := by first | exact .inl rfl | exact .inr rfl | assumption) : DS X (.Assign [.Name x pos'] e pos) (sSet i fa) :=
  PS.imp (ps_set hN hi hx he hs hf) fun Dn σ H ⟨ls, hp, μ, fl, ls', hp', rl, rh, e, q⟩ => by
    unfold sSet at e
    split at e
    · rename_i d hp1 e1
      cases e
      exact ⟨ls, hp, μ, d, hp', rl, rh, e1, fun v H' μ' x1 rh1 r1 => q H' μ' x1 rh1 _ ((rl.ext x1).set r1)⟩
    · cases e
theorem dg_name {i : Nat} {x : Str} (hN : X.N.Nodup) (hi : X.N[i]? = some x) (hx : Loc X.env.scope x) (hf : X.fn x = true ∨ X.env.scope.names.lookup x = some .local := by first | exact .inl rfl | exact .inr rfl | assumption) :
    DG X (.Name x pos) (.nm i) :=
  PG.imp (pg_name hN hi hx hf) fun v σ H Q ⟨ls, μ, d, ls', rl, r, e, q⟩ => by
    simp only [Tg.asg] at e
    cases e
    exact q _ (rl.set r) fun vs hvs => wipe_set (hvs i (by simp [Tg.slots]))
theorem dgs_nil : DGs X [] [] := PGs.imp pgs_nil fun v σ H Q ⟨ls, μ, d, ls', rl, r, e, q⟩ => by
  cases d with
  | nil =>
    simp only [Tg.asgs] at e
    cases e
    rw [Rps] at r
    exact ⟨r, q σ rl fun _ _ => rfl⟩
  | cons x xs => simp [Tg.asgs] at e
theorem dgs_cons {es : List Expr} {t : Tg} {ts : List Tg} (h1 : DG X e t) (h2 : DGs X es ts) (hs : (assignEach (e :: es) X.env).map (·.2) = assign e X.env :: (assignEach es X.env).map (·.2) := by rfl) : DGs X (e :: es) (t :: ts) :=
  PGs.imp (pgs_cons h1 h2 hs) fun v σ H Q ⟨ls, μ, d, ls', rl, r, e, q⟩ => by
    cases d with
    | nil => simp [Tg.asgs] at e
    | cons x xs =>
      simp only [Tg.asgs] at e
      split at e
      · rename_i ls1 e1
        rw [Rps] at r
        obtain ⟨v1, vs, rfl, r1, r2⟩ := r
        refine ⟨v1, vs, rfl, ls, μ, x, ls1, rl, r1, e1, fun σ1 rl1 w1 => ⟨ls1, μ, xs, ls', rl1, r2, e, fun σ2 rl2 w2 => q σ2 rl2 fun vs hvs => ?_⟩⟩
        rw [w2 vs fun i hi => hvs i (by simp [Tg.slotss, hi]), w1 vs fun i hi => hvs i (by simp [Tg.slotss, hi])]
      · cases e
theorem asgs_len : ∀ {ts : List Tg} {ds : List D} {ls ls' : Ls}, Tg.asgs ts ds ls = some ls' → ds.length = ts.length
  | [], [], _, _, _ => rfl
  | [], _ :: _, _, _, h => by simp [Tg.asgs] at h
  | _ :: _, [], _, _, h => by simp [Tg.asgs] at h
  | t :: ts, d :: ds, ls, ls', h => by
    simp only [Tg.asgs] at h
    split at h
    · rw [List.length_cons, List.length_cons, asgs_len h]
    · cases h
theorem dg_tup {es : List Expr} {k : Nat} {ts : List Tg} (hc : X.calm = true) (h : DGs X es ts) (hn : (assignEach es X.env).length = ts.length := by rfl) (hst : (assignEach es X.env).findIdx? (·.1) = none := by rfl) : DG X (.Tuple es k pos) (.tp ts) :=
  PG.imp (pg_tup (n := ts.length) hc h hn hst) fun v σ H Q ⟨ls, μ, d, ls', rl, r, e, q⟩ => by
    cases d <;> try (simp [Tg.asg] at e; done)
    · rename_i ds
      simp only [Tg.asg] at e
      obtain ⟨a, vs, rfl, t, rs⟩ := r.tupE
      exact ⟨a, vs, rfl, t.sq, by rw [rs.len, asgs_len e], ls, μ, ds, ls', rl, rs, e, fun σ' rl' w => q σ' rl' fun vs hvs => w vs fun i hi => hvs i (by simp [Tg.slots, hi])⟩
    · rename_i ds
      simp only [Tg.asg] at e
      obtain ⟨a, vs, rfl, t, rs⟩ := r.wtE
      exact ⟨a, vs, rfl, t.sq, by rw [rs.len, asgs_len e], ls, μ, ds, ls', rl, rs, e, fun σ' rl' w => q σ' rl' fun vs hvs => w vs fun i hi => hvs i (by simp [Tg.slots, hi])⟩
def sAsg (t : Tg) (f : AE) : AS := fun ls hp => match f ls hp with
  | some (d, hp1) => match t.asg d ls with
    | some ls1 => some (.nx, ls1, hp1)
    | none => none
  | none => none
theorem ds_asg {tg : Expr} {t : Tg} (he : DE X e fa) (hg : DG X tg t) (hs : swapsWithSole [tg] e pos.line X.env = pure false := by rfl) (hsw : swappedStores [tg] e X.env = pure none := by rfl) (h1 : (assignEach [tg] X.env).map (·.2) = [assign tg X.env] := by rfl) : DS X (.Assign [tg] e pos) (sAsg t fa) :=
  PS.imp (ps_asg he hg hs hsw h1) fun Dn σ H ⟨ls, hp, μ, fl, ls', hp', rl, rh, e, q⟩ => by
    unfold sAsg at e
    split at e
    · rename_i d hp1 e1
      split at e
      · rename_i ls1 e2
        cases e
        exact ⟨ls, hp, μ, d, hp', rl, rh, e1, fun v H' μ' x1 rh1 r1 => ⟨ls, μ', d, ls', rl.ext x1, r1, e2, fun σ' rl' _ => q H' μ' x1 rh1 σ' rl'⟩⟩
      · cases e
    · cases e
def sPar (i j : Nat) (f : AA) : AS := fun ls hp => match f ls hp with
  | some ([a, b], hp1) => some (.nx, (ls.set i (some a)).set j (some b), hp1)
  | _ => none
theorem ds_par {i j : Nat} {x y : Str} {px py pt : Pos} {kt k2 pt2} (hc : X.calm = true) (hN : X.N.Nodup) (hi : X.N[i]? = some x) (hj : X.N[j]? = some y) (hij : i ≠ j)
    (hx : X.env.scope.names.lookup x = some .local) (hy : X.env.scope.names.lookup y = some .local) (ha : DA X [a, b] fr)
    (hw : swappedStores [.Tuple [.Name x px, .Name y py] kt pt] (.Tuple [a, b] k2 pt2) X.env = pure (some [x, y]))
    (hs : swapsWithSole [.Tuple [.Name x px, .Name y py] kt pt] (.Tuple [a, b] k2 pt2) pos.line X.env = pure false := by rfl) : DS X (.Assign [.Tuple [.Name x px, .Name y py] kt pt] (.Tuple [a, b] k2 pt2) pos) (sPar i j fr) :=
  PS.imp (ps_par hc hN hi hj hij hx hy ha hw hs) fun Dn σ H ⟨ls, hp, μ, fl, ls', hp', rl, rh, e, q⟩ => by
    unfold sPar at e
    split at e
    · rename_i a b hp1 e1
      cases e
      refine ⟨ls, hp, μ, [a, b], hp', rl, rh, e1, fun vs H' μ' x1 rh1 r1 => ?_⟩
      rw [Rps] at r1
      obtain ⟨v, r, rfl, r1, r2⟩ := r1
      rw [Rps] at r2
      obtain ⟨w, r, rfl, r2, r3⟩ := r2
      rw [Rps] at r3
      subst r3
      exact ⟨v, w, rfl, q H' μ' x1 rh1 _ (((rl.ext x1).set r1).set r2)⟩
    · cases e
def sWhile (c : AT) (b : AS) : Nat → AS
  | 0, _, _ => none
  | n + 1, ls, hp => match c ls hp with
    | some (false, hp1) => some (.nx, ls, hp1)
    | some (true, hp1) => match b ls hp1 with
      | some (.nx, ls2, hp2) => sWhile c b n ls2 hp2
      | some (.ct, ls2, hp2) => sWhile c b n ls2 hp2
      | some (.bk, ls2, hp2) => some (.nx, ls2, hp2)
      | some (.rt d, ls2, hp2) => some (.rt d, ls2, hp2)
      | none => none
    | none => none
theorem ds_while (n : Nat) {c : Expr} {body : List Stmt} (hp : PassesOwn (model X.prog X.w) X.A X.env X.xe) (hc : DT X c ft) (hb : DSs X body f) : DS X (.While c body [] pos) (sWhile ft f n) :=
  PS.imp (ps_while hp hc hb) fun Dn σ H ⟨ls, hp, μ, fl, ls', hp', rl, rh, e, q⟩ => by
    refine ⟨fun m σ1 H1 => ∃ ls1 hp1 μ1, Ext μ H μ1 H1 ∧ Rl X.K H1 μ1 ls1 σ1 ∧ RelH X.K H1 μ1 hp1 ∧ sWhile ft f m ls1 hp1 = some (fl, ls', hp'), ⟨n, ls, hp, μ, Ext.refl, rl, rh, e⟩, ?_⟩
    rintro m σ1 H1 ⟨ls1, hp1, μ1, x1, rl1, rh1, e1⟩
    cases m with
    | zero => simp [sWhile] at e1
    | succ m =>
      simp only [sWhile] at e1
      split at e1
      · rename_i hp2 e2
        cases e1
        exact ⟨ls', hp1, μ1, false, hp', rl1, rh1, e2, fun H2 μ2 x2 rh2 => iteF (q H2 μ2 (x1.trans x2) rh2 σ1 (rl1.ext x2))⟩
      · rename_i hp2 e2
        refine ⟨ls1, hp1, μ1, true, hp2, rl1, rh1, e2, fun H2 μ2 x2 rh2 => iteT ?_⟩
        refine ⟨fun σ' H' => ∃ ls1 hp1 μ1, Ext μ H μ1 H' ∧ Rl X.K H' μ1 ls1 σ' ∧ RelH X.K H' μ1 hp1 ∧ sWhile ft f m ls1 hp1 = some (fl, ls', hp'), fun σ' H' h => ⟨m, Nat.lt_succ_self m, h⟩, ?_⟩
        split at e1
        · rename_i ls3 hp3 e3
          exact ⟨ls1, hp2, μ2, .nx, ls3, hp3, rl1.ext x2, rh2, e3, fun H3 μ3 x3 rh3 σ3 rl3 => ⟨ls3, hp3, μ3, (x1.trans x2).trans x3, rl3, rh3, e1⟩⟩
        · rename_i ls3 hp3 e3
          exact ⟨ls1, hp2, μ2, .ct, ls3, hp3, rl1.ext x2, rh2, e3, fun H3 μ3 x3 rh3 σ3 rl3 => ⟨ls3, hp3, μ3, (x1.trans x2).trans x3, rl3, rh3, e1⟩⟩
        · rename_i ls3 hp3 e3
          cases e1
          exact ⟨ls1, hp2, μ2, .bk, _, _, rl1.ext x2, rh2, e3, fun H3 μ3 x3 rh3 σ3 rl3 => q H3 μ3 ((x1.trans x2).trans x3) rh3 σ3 rl3⟩
        · rename_i d ls3 hp3 e3
          cases e1
          exact ⟨ls1, hp2, μ2, .rt d, _, _, rl1.ext x2, rh2, e3, fun H3 μ3 x3 rh3 => q H3 μ3 ((x1.trans x2).trans x3) rh3⟩
        · cases e1
      · cases e1
abbrev Gd := List (Nat × List D)
def gdOk : Gd → Hd → Bool
  | [], _ => true
  | (n, xs) :: r, hp => (match hp[n]? with
    | some (.lst ys) => D.sames ys xs
    | _ => false) && gdOk r hp
abbrev AI := Ls → Hd → Option (List D × Gd × Hd)
def Wk (K : PySem.W.Frag) (J : It) (items : List D) (gd : Gd) (μ : List Addr) (H : Hp) : Prop :=
  ∀ i H2 μ2 hp2, Ext μ H μ2 H2 → RelH K H2 μ2 hp2 → gdOk gd hp2 = true →
    (items.length ≤ i → J.stop i H2) ∧ (i < items.length → J.go i H2 ∧ ∀ x H3, J.yld i H2 x H3 → ∃ d, items[i]? = some d ∧ Ext μ2 H2 μ2 H3 ∧ RelH K H3 μ2 hp2 ∧ Rp K H3 μ2 d x)
def tI (K : PySem.W.Frag) (f : AI) : TI := fun σ H R => ∃ ls hp μ items gd hp', Rl K H μ ls σ ∧ RelH K H μ hp ∧ f ls hp = some (items, gd, hp') ∧
  ∀ J H' μ', Ext μ H μ' H' → RelH K H' μ' hp' → Wk K J items gd μ' H' → R J H'
abbrev DI (X : Cx) (tg e : Expr) (f : AI) : Prop := PI X tg e (tI X.K f)
theorem PI.imp {X : Cx} {tg e : Expr} {t t' : TI} (h : PI X tg e t) (i : ∀ σ H Q, t' σ H Q → t σ H Q) : PI X tg e t' := ⟨fun pins s σ H Q I q => h.run pins s σ H Q I (i σ H Q q)⟩
theorem PI.or {X : Cx} {tg e : Expr} {t t' : TI} (h : PI X tg e t) (h' : PI X tg e t') : PI X tg e (fun σ H Q => t σ H Q ∨ t' σ H Q) := ⟨fun pins s σ H Q I q => q.elim (h.run pins s σ H Q I) (h'.run pins s σ H Q I)⟩
def sFor (t : Tg) (gd : Gd) (b : AS) : List D → AS
  | [], ls, hp => if gdOk gd hp then some (.nx, ls, hp) else none
  | x :: xs, ls, hp => if gdOk gd hp then match t.asg x ls with
    | some ls1 => match b ls1 hp with
      | some (.nx, ls2, hp2) => sFor t gd b xs ls2 hp2
      | some (.ct, ls2, hp2) => sFor t gd b xs ls2 hp2
      | some (.bk, ls2, hp2) => some (.nx, ls2, hp2)
      | some (.rt d, ls2, hp2) => some (.rt d, ls2, hp2)
      | none => none
    | none => none else none
def sForI (fi : AI) (t : Tg) (b : AS) : AS := fun ls hp => match fi ls hp with
  | some (items, gd, hp1) => sFor t gd b items ls hp1
  | none => none
theorem ds_for {iter tg : Expr} {body : List Stmt} {fi : AI} {t : Tg} (hp : PassesOwn (model X.prog X.w) X.A X.env X.xe) (hc : X.calm = true) (hi : DI X tg iter fi) (hg : DG X tg t) (hb : DSs X body f)
    (hs : ∀ x, foldedSetIterable iter X.env x = pure x := by intro _; rfl) : DS X (.For tg iter body [] pos) (sForI fi t f) :=
  PS.imp (ps_for hp hc hi hg hb hs) fun Dn σ H ⟨ls, hp, μ, fl, ls', hp', rl, rh, e, q⟩ => by
    unfold sForI at e
    split at e
    · rename_i items gd hp1 e1
      refine ⟨ls, hp, μ, items, gd, hp1, rl, rh, e1, fun J H1 μ1 x1 rh1 wk => ?_⟩
      refine ⟨fun i m σ2 H2 => m + i = items.length ∧ ∃ ls2 hp2 μ2, Ext μ1 H1 μ2 H2 ∧ Rl X.K H2 μ2 ls2 σ2 ∧ RelH X.K H2 μ2 hp2 ∧ sFor t gd f (items.drop i) ls2 hp2 = some (fl, ls', hp'),
        ⟨items.length, by omega, ls, hp1, μ1, Ext.refl, rl.ext x1, rh1, e⟩, ?_⟩
      rintro i m σ2 H2 ⟨hm, ls2, hp2, μ2, x2, rl2, rh2, e2⟩
      by_cases hi : i < items.length
      · have hd : items.drop i = items[i] :: items.drop (i + 1) := List.drop_eq_getElem_cons hi
        rw [hd] at e2
        simp only [sFor] at e2
        split at e2
        · rename_i hgd
          obtain ⟨_, w2⟩ := wk i H2 μ2 hp2 x2 rh2 hgd
          obtain ⟨w3, w4⟩ := w2 hi
          refine .inr ⟨w3, fun σ' H' => m - 1 + (i + 1) = items.length ∧ ∃ ls2 hp2 μ2, Ext μ1 H1 μ2 H' ∧ Rl X.K H' μ2 ls2 σ' ∧ RelH X.K H' μ2 hp2 ∧ sFor t gd f (items.drop (i + 1)) ls2 hp2 = some (fl, ls', hp'),
            fun σ' H' h => ⟨m - 1, by omega, h⟩, fun x H3 hy => ?_⟩
          obtain ⟨d, ed, x3, rh3, r3⟩ := w4 x H3 hy
          rw [List.getElem?_eq_getElem hi] at ed
          cases ed
          split at e2
          · rename_i ls3 e3
            refine ⟨ls2, μ2, _, ls3, rl2.ext x3, r3, e3, fun σ3 rl3 _ => ?_⟩
            have hm' : m - 1 + (i + 1) = items.length := by omega
            split at e2
            · rename_i ls4 hp4 e4
              exact ⟨ls3, hp2, μ2, .nx, ls4, hp4, rl3, rh3, e4, fun H5 μ5 x5 rh5 σ5 rl5 => ⟨hm', ls4, hp4, μ5, (x2.trans x3).trans x5, rl5, rh5, e2⟩⟩
            · rename_i ls4 hp4 e4
              exact ⟨ls3, hp2, μ2, .ct, ls4, hp4, rl3, rh3, e4, fun H5 μ5 x5 rh5 σ5 rl5 => ⟨hm', ls4, hp4, μ5, (x2.trans x3).trans x5, rl5, rh5, e2⟩⟩
            · rename_i ls4 hp4 e4
              cases e2
              exact ⟨ls3, hp2, μ2, .bk, _, _, rl3, rh3, e4, fun H5 μ5 x5 rh5 σ5 rl5 => q H5 μ5 (x1.trans ((x2.trans x3).trans x5)) rh5 σ5 rl5⟩
            · rename_i d ls4 hp4 e4
              cases e2
              exact ⟨ls3, hp2, μ2, .rt d, _, _, rl3, rh3, e4, fun H5 μ5 x5 rh5 => q H5 μ5 (x1.trans ((x2.trans x3).trans x5)) rh5⟩
            · cases e2
          · cases e2
        · cases e2
      · rw [List.drop_eq_nil_of_le (by omega)] at e2
        simp only [sFor] at e2
        split at e2
        · rename_i hgd
          cases e2
          obtain ⟨w1, _⟩ := wk i H2 μ2 _ x2 rh2 hgd
          exact .inl ⟨w1 (by omega), q H2 μ2 (x1.trans x2) rh2 σ2 rl2⟩
        · cases e2
    · cases e
end
end Ve
namespace Ve
open PySem PySem.Spec L2 PyProof.Rows
structure RoomG (k : Nat) (A : Around) : Prop where
  r : L2.Room k A
  gd : A.guards = some []
theorem RoomG.mono {j k : Nat} {A : Around} (r : RoomG k A) (h : j ≤ k) : RoomG j A := ⟨r.r.mono h, r.gd⟩
theorem RoomG.deeper {k : Nat} {A : Around} (r : RoomG (k + 1) A) (env : Env) : RoomG k (A.deeper env) := ⟨r.r.deeper env, r.gd⟩
theorem RoomG.units {k : Nat} {A : Around} (r : RoomG k A) : A.units + 64 < cLine := r.r.units
theorem RoomG.units0 {k : Nat} {A : Around} (r : RoomG k A) : A.units < cLine := r.r.units0
theorem RoomG.units65 {k : Nat} {A : Around} (r : RoomG k A) : A.units + 65 < cLine := by
  have := r.r.un
  omega
theorem hu_ofG {A : Around} {k : Nat} (hr : RoomG k A) : A.units + 1 < cLine := by
  have := hr.r.un
  omega
structure FnG (P : Program) (w : World) (K : PySem.W.Frag) (mg : Str → Option Value) (base : Heap) (CX : CXT) (k : Nat) (f : Addr) (fd : FuncData) (ps : List Str) (sp : Sp) : Prop where
  len : ∀ vs H Q E, sp vs H Q E → vs.length = ps.length
  run : ∀ (A : Around) (outer : List Env) (s : Shared) (H : Hp) (args : Args) (us : List Value) (vs : List V) (Q : VK) (E : XK), RoomG k A → Env0 P w K mg base A outer s H → BindsTo s fd args (ps.zip us) → Vals vs us → sp vs H Q E →
    codeAny (model P w) A (.call (.ref f) args) (CR CX outer P w H s Q E) s
section
variable {P : Program} {w : World} {K : PySem.W.Frag} {mg : Str → Option Value} {base : Heap} {CX : CXT} {j k : Nat} {f : Addr} {fd : FuncData} {ps : List Str} {sp sp' : Sp}
theorem FnG.mono (F : FnG P w K mg base CX j f fd ps sp) (h : j ≤ k) : FnG P w K mg base CX k f fd ps sp := ⟨F.len, fun A outer s H args us vs Q E hr => F.run A outer s H args us vs Q E (hr.mono h)⟩
theorem FnG.imp (F : FnG P w K mg base CX k f fd ps sp) (h : ∀ vs H Q E, sp' vs H Q E → sp vs H Q E) : FnG P w K mg base CX k f fd ps sp' :=
  ⟨fun vs H Q E q => F.len vs H Q E (h _ _ _ _ q), fun A outer s H args us vs Q E hr he hb hv hs => F.run A outer s H args us vs Q E hr he hb hv (h _ _ _ _ hs)⟩
end
section
variable {X : Cx} {CX : CXT} {k : Nat} {f : Addr} {fd : FuncData} {ps : List Str} {sp : Sp} {dvs : List V} {ds : List Value} {E : XK} {x : Str} {p pos : Pos} {e : Expr} {es : List Expr} {t : TA}
theorem run_fnG {pins : List (Addr × Obj)} {σ : L2.St} {H : Hp} {s : Shared} {Q : VK} {us : List Value} {vs : List V} (F : FnG X.prog X.w X.K X.mg X.base CX k f fd ps sp) (hr : RoomG k X.A) (hb : Binds X.K fd ps ds) (hd : Vals dvs ds) (hx : Passes CX X E)
    (I : Inv X pins σ H s) (r : Vals vs us) (h : sp (vs ++ dvs) H Q E) : wpAny (model X.prog X.w) X.A (call (.ref f) us) (EP X pins σ Q) X.xe s := by
  have r2 := r.append hd
  have hl : (us ++ ds).length = ps.length := r2.length ▸ F.len _ _ _ _ h
  refine wpAny_call (codeAny_mono (F.run X.A X.stack s H ⟨us, []⟩ _ _ Q E hr I.env0 (hb s us I.kIn hl) r2 h) fun r s' hq => ?_)
  match r, hq with
  | .error e, hq => exact hx pins σ H s e s' I hq
  | .ok (.ret u), hq => exact I.after hq
theorem pe_callG (F : FnG X.prog X.w X.K X.mg X.base CX k f fd ps sp) (hr : RoomG k X.A) (hg : Gl X x) (hm : X.mg x = some (.ref f)) (hk : PySem.W.keepIn X.K (.ref f) = true) (hb : Binds X.K fd ps ds) (hd : Vals dvs ds) (hx : Passes CX X E)
    (ha : PA X (e :: es) t) (hdb : (x == ("__debug__" : Str)) = false := by decide) (he : starEach (e :: es) X.env = (false, eval e X.env) :: starEach es X.env := by rfl) (hpl : (backTo pos (starEach es X.env)).any (·.1) = false := by rfl) :
    PE X (.Call (.Name x p) (e :: es) [] pos) (tCall sp dvs E t) :=
  ⟨fun pins s σ H Q I h => wpAny_Call_Name_kw (ld_glob I hg hm (PySem.W.callWith_K (h₀ := X.base) I.ok.mod.kin hk (thn (ha.run pos pins s σ H _ I h) fun us s1 ⟨vs, H1, I1, r, q⟩ => ⟨I1.kIn, run_fnG F hr hb hd hx I1 r q⟩) he hpl) hdb)⟩
end
theorem fnG_of {CX : CXT} {P : Program} {w : World} {K : PySem.W.Frag} {mg : Str → Option Value} {base : Heap} {k : Nat} {f : Addr} {name qual : Str} {params : Arguments} {body : List Stmt} {scope : Scope} {dV kV doc pm cdv ct oc : Value} {an od : Option Addr}
    {osl : Array (Option Value)} {N ps : List Str} {sp : Sp} (lk : K.lookup f = some ⟨oc, od, .func (PySem.W.fnOf name qual params body scope dV kV doc pm an cdv ct), osl⟩) (hcd : PySem.W.codeIn K cdv qual = true) (S : FnScope N ps scope)
    (len : ∀ vs H Q E, sp vs H Q E → vs.length = ps.length)
    (hbody : ∀ (A : Around) (outer : List Env) (s : Shared) (H : Hp) (vs : List V) (Q : VK) (E : XK), RoomG k (A.deeper (envOfC qual scope s.heap.objs.size f cdv)) → sp vs H Q E →
      ∃ t, PSs (cxOf CX P w K mg base N qual scope f cdv A outer s H E) body t ∧ t { nx := fun _ H' => Q .non H', rt := Q } (L2.start N vs) H) :
    FnG P w K mg base CX (k + 1) f (PySem.W.fnOf name qual params body scope dV kV doc pm an cdv ct) ps sp where
  len := len
  run A outer s H args us vs Q E hr e0 hb r hsp := by
    have hl := len _ _ _ _ hsp
    have KX : K.In s.heap := e0.mod.kin.keeps fun b o e => (e0.bs b o e).1
    have lim : s.heap.NoLimit := e0.mod.nolimit.keeps fun b o e => (e0.bs b o e).1
    have kinds : ∀ y ∈ ps.zip us, scope.names.lookup y.1 = some .local ∨ (scope.names.lookup y.1 = some .cell ∧ ((cellsFrom (s.heap.objs.size + 1) scope.names []).lookup y.1).isSome = true) := fun y hy =>
      (S.par y.1 (List.of_mem_zip hy).1).imp id fun q => ⟨q, PySem.W.cellsFrom_some _ _ _ (.inl q)⟩
    refine codeAny_call_function hr.r.depth (KX _ _ lk) rfl S.co S.gen rfl (PySem.W.codeRec_of KX hcd) (hb _ _ _ _ (wpAny_newFunctionEnv_cells S.kind kinds fun env he s1 x => ?_))
    subst he
    obtain ⟨t, ht, hq⟩ := hbody A outer s H vs Q E (hr.deeper _) hsp
    refine ⟨lim.keeps x.toInCall.keep, codeAny_func (wpAny_mono (ht.run [] s1 (L2.start N vs) H _ (inv_start S hr.r.hd e0 hl r x) hq) (fun fl s' hs => ?_) fun _ _ hs => hs)⟩
    cases fl with
    | ret u =>
      obtain ⟨v, σ', H', J, rv, q⟩ := hs
      exact ⟨v, H', J.os, J.bare, J.base, J.hok, rv, q⟩
    | next =>
      obtain ⟨σ', H', J, q⟩ := hs
      exact ⟨V.non, H', J.os, J.bare, J.base, J.hok, rfl, q⟩
    | brk =>
      obtain ⟨_, _, _, q⟩ := hs
      exact False.elim q
    | cont =>
      obtain ⟨_, _, _, q⟩ := hs
      exact False.elim q
theorem Fun.okG {P : Program} {w : World} {K : PySem.W.Frag} {mg : Str → Option Value} {base : Heap} {x qual : Str} {st : Stmt} {f : Addr} {fd : FuncData} {N ps : List Str} {k : Nat} {sp : Sp} (F : Fun K x qual st f fd) (S : FnScope N ps (defScope st)) (len : ∀ vs H Q E, sp vs H Q E → vs.length = ps.length)
    (hbody : ∀ (cdv : Value) (A : Around) (outer : List Env) (s : Shared) (H : Hp) (vs : List V) (Q : VK) (E : XK), RoomG k (A.deeper (envOfC qual (defScope st) s.heap.objs.size f cdv)) → sp vs H Q E →
      ∃ t, PSs (cxOf CX0 P w K mg base N qual (defScope st) f cdv A outer s H E).nox (defBody st) t ∧ t { nx := fun _ H' => Q .non H', rt := Q } (L2.start N vs) H) : FnG P w K mg base CX0 (k + 1) f fd ps sp := by
  obtain ⟨oc, od, kV, doc, pm, an, cdv, ct, osl, rfl, lk, hcd⟩ := F.ex
  exact fnG_of lk hcd S len fun A outer s H vs Q E hr hsp => by
    obtain ⟨t, h, q⟩ := hbody cdv A outer s H vs Q E hr hsp
    exact ⟨t, h.nox, q⟩
theorem law_callG {P : Program} {w : World} {K : PySem.W.Frag} {mg mb : Str → Option Value} {CX : CXT} {k : Nat} {fa a : Addr} {fd : FuncData} {x : Str} {sp : Sp} {s₁ : Shared} {vs : List Value} {ns : List Int}
    (KX : K.In s₁.heap) (hns : s₁.heap.Ns mainGlobals mg) (hb : s₁.heap.Ns builtinsNs mb) (hbb : ∀ x : Str, x ≠ "__name__" → mb x = bootBuiltins x) (hlim : s₁.heap.NoLimit) (hg : s₁.gens = #[])
    (ha : s₁.heap.get? a = some { cls := .type "list", data := .seq vs.toArray }) (hi : IntsAre vs ns) (hl : ns.length ≤ sizeLine) (hr : RoomG k callerA)
    (F : ∀ base : Heap, K.In base → base.Ns mainGlobals mg → FnG P w K mg base CX k fa fd [x] sp) (hbind : ∀ (s : Shared) (u : Value), BindsTo s fd ⟨[u], []⟩ [(x, u)])
    (hsp : ∀ H : Hp, Only H → SqL K H a (ns.map V.int) → sp [.ref a] H (fun v _ => v = .bl true) fun _ _ _ => False)
    (hCX : ∀ H e s', CX [] H s₁ (fun _ _ _ => False) e s' → False) :
    codeAny (model P w) callerA (.call (.ref fa) ⟨[.ref a], []⟩) (fun r s' => r = .ok (.ret (.bool true)) ∧ OldK s₁.heap s'.heap ∧ s'.os = s₁.os ∧ AllBare s'.gens) s₁ := by
  have core : ∀ H : Hp, Only H → SqL K H a (ns.map V.int) → HOk P w H s₁.heap → (∀ b, H b ≠ none → b = a) → (H a ≠ none → K.lookup a = none) →
      codeAny (model P w) callerA (.call (.ref fa) ⟨[.ref a], []⟩) (fun r s' => r = .ok (.ret (.bool true)) ∧ OldK s₁.heap s'.heap ∧ s'.os = s₁.os ∧ AllBare s'.gens) s₁ := by
    intro H hO hS hok hA hK
    have free : ∀ {b : Addr} {o : Obj}, s₁.heap.get? b = some o → (b = a → False) → H b = none := fun {b o} _ hne => Decidable.byContradiction fun z => hne (hA b z)
    have dicFree : ∀ {b : Addr} {o : Obj} {es : Array DictEntry} {ep : Nat}, s₁.heap.get? b = some o → o.data = .dict es ep → H b = none := fun {b o es ep} e d => free e fun z => by
      subst z
      rw [ha] at e
      cases e
      have d' : Data.seq vs.toArray _ = Data.dict es ep := d
      cases d'
    have ns_ : ∀ {b : Addr} {m : Str → Option Value}, s₁.heap.Ns b m → (hidT s₁.heap H).Ns b m := fun {b m} ⟨o, es, ep, e, d, r⟩ => ⟨o, es, ep, hidT_get e (dicFree e d), d, r⟩
    have hKb : K.In (hidT s₁.heap H) := fun b o e => hidT_get (KX b o e) (Decidable.byContradiction fun z => by
      have z2 := hA b z
      subst z2
      rw [hK z] at e
      cases e)
    have hM : Mod K mg (hidT s₁.heap H) := ⟨hKb, ns_ hns, ⟨mb, ns_ hb, hbb⟩, let ⟨mc, h1, h2⟩ := hlim; ⟨mc, ns_ h1, h2⟩⟩
    have e0 : Env0 P w K mg (hidT s₁.heap H) callerA [] s₁ H := ⟨rfl, hM, fun b o e => of_hidT e, Nat.le_of_eq (hidT_size _ _), trivial, fun b hb => absurd (show b ∈ ([] : List Addr) from hb) (by simp), hok, .of_eq hg⟩
    refine codeAny_mono ((F _ hKb (ns_ hns)).run callerA [] s₁ H ⟨[.ref a], []⟩ [.ref a] [.ref a] _ _ hr e0 (hbind s₁ (.ref a)) (.cons rfl .nil) (hsp H hO hS)) fun r s' h => ?_
    match r, h with
    | .error e, h => exact (hCX H e s' h).elim
    | .ok (.ret u), ⟨v, H', os, bare, un, hok', r', q⟩ =>
      have q' : v = .bl true := q
      subst q'
      obtain rfl : u = Value.bool true := r'
      refine ⟨rfl, OldK.of_keep fun b o e => ?_, os, bare⟩
      rcases Classical.em (H b = none) with q | q
      · exact un.keep b o e q (by intro z; exact absurd (show b ∈ ([] : List Addr) from z) (by simp)) (by simp)
      · rcases hO b with z | ⟨ob, xs, z⟩
        · exact absurd z q
        · obtain ⟨e1, _⟩ := hok b _ z
          obtain ⟨e2, _⟩ := hok' b _ (un.frzs b ob _ z)
          rw [e] at e1
          cases e1
          exact e2
  have rv := vals_ints hi
  cases hk : K.lookup a with
  | some o =>
    have e := KX a o hk
    rw [ha] at e
    cases e
    exact core (fun _ => none) (fun _ => .inl rfl) (.inr ⟨_, vs.toArray, _, hk, rfl, rfl, rfl, by rw [List.size_toArray, hi.length]; exact hl, by simpa using rv⟩) (fun b u z => nomatch (show (none : Option HO) = some u from z)) (fun b z => absurd rfl z) fun z => absurd rfl z
  | none =>
    have at_a : ∀ b u, (fun b => if b = a then some (HO.frz { cls := .type "list", data := .seq vs.toArray } (.lst (ns.map V.int))) else none) b = some u → b = a ∧ u = .frz { cls := .type "list", data := .seq vs.toArray } (.lst (ns.map V.int)) := fun b u z => by
      have z : (if b = a then some (HO.frz { cls := .type "list", data := .seq vs.toArray } (.lst (ns.map V.int))) else none) = some u := z
      split at z
      · rename_i h
        cases z
        exact ⟨h, rfl⟩
      · cases z
    refine core (fun b => if b = a then some (.frz { cls := .type "list", data := .seq vs.toArray } (.lst (ns.map V.int))) else none) (fun b => ?_) (.inl (.inr ⟨{ cls := .type "list", data := .seq vs.toArray }, if_pos rfl⟩)) (fun b u z => ?_) (fun b z => ?_) fun _ => hk
    · rcases Decidable.em (b = a) with q | q
      · exact .inr ⟨_, _, if_pos q⟩
      · exact .inl (if_neg q)
    · obtain ⟨rfl, rfl⟩ := at_a b u z
      exact ⟨ha, by rw [List.length_map]; exact hl, vs, _, rv, ha⟩
    · rcases Decidable.em (b = a) with q | q
      · exact q
      · exact absurd (if_neg q) z
theorem walk_ofG {l : PySem.W.OpenLaw} {n k : Nat} {q : Program} {loose : List Str} {XP : (Str → Option Value) → Heap → Prop} {YP : World → Heap → Prop} {d : DefRec} {K : Params → PySem.W.Frag} {CX : World → CXT} {sp : World → Sp} {x : Str}
    (hn : l.most = some n) (hn2 : n ≤ sizeLine) (hdf : d.params.defaults = []) (hr : RoomG k callerA)
    (hY : ∀ (w : World) (h : Heap), YP w h → (K w.params).In h)
    (F : ∀ (w : World) (mg : Str → Option Value) (fa : Addr) (h : Heap), (K w.params).In h → h.Ns mainGlobals mg → mg d.name = some (.ref fa) →
      ∃ fd : FuncData, (∀ (s : Shared) (u : Value), BindsTo s fd ⟨[u], []⟩ [(x, u)]) ∧
        ∀ base : Heap, (K w.params).In base → base.Ns mainGlobals mg → FnG l.prog w (K w.params) mg base (CX w) k fa fd [x] (sp w))
    (hsp : ∀ (w : World) (H : Hp) (a : Addr) (ns : List Int), ns.length ≤ n → Only H → SqL (K w.params) H a (ns.map V.int) → sp w [.ref a] H (fun v _ => v = .bl true) fun _ _ _ => False)
    (hCX : ∀ (w : World) (H : Hp) (s : Shared) (e : Value) (s' : Shared), CX w [] H s (fun _ _ _ => False) e s' → False) :
    PySem.W.WalkO q loose XP YP l.row.toRowW d [] (fun f vs => PySem.call f vs) := by
  refine Att.attach_call hn hdf fun w s₀ s₁ mg mb fa o pm cd doc a vs ns G Y ho hd hcd hmg hobj hints hlen hg => ?_
  have KX := hY w _ Y
  obtain ⟨fd, hb, hF⟩ := F w mg fa _ KX G.T.g hmg
  exact law_callG KX G.T.g G.T.b G.T.builtins G.T.nolimit hg hobj hints (Nat.le_trans hlen hn2) hr hF hb (fun H hO hS => hsp w H a ns hlen hO hS) fun H e s' => hCX w H s₁ e s'
end Ve
namespace Ve
open PySem PySem.Spec L2
section
variable {K : PySem.W.Frag} {H H' H2 : Hp} {μ μ' μ2 : List Addr} {hp hp' : Hd} {ls : Ls} {σ : St}
theorem Ext.back (x : Ext μ H μ' H') (r : RelH K H' μ' hp) {p : Addr} (h : H' p = none) : H p = none := by
  cases hh : H p with
  | none => rfl
  | some o =>
    exfalso
    by_cases hm : p ∈ μ
    · exact r.notIn h (by
        obtain ⟨ν, e⟩ := x.pre
        rw [e]
        exact List.mem_append_left _ hm)
    · have := x.keep p o hm hh
      rw [h] at this
      cases this
theorem Mon.loose {D : Addr} {xs : List V} {o : HO} (h : H D = some (.lst xs)) : Mon μ H μ (upd H D o) :=
  ⟨⟨[], by simp⟩, fun a ys e => by rw [upd_ne (fun z => by subst z; rw [h] at e; cases e)]; exact e, fun a ob ys _ e => by rw [upd_ne (fun z => by subst z; rw [h] at e; cases e)]; exact e⟩
theorem RelH.loose (r : RelH K H μ hp) {D : Addr} {xs : List V} {o : HO} (h : H D = some (.lst xs)) (hn : D ∉ μ) : RelH K (upd H D o) μ hp :=
  ⟨r.len, r.nd, fun n ob a e1 e2 => by
    rw [upd_ne (fun z => hn (by rw [← z]; exact List.mem_of_getElem? e2))]
    exact (r.obj n ob a e1 e2).mon (Mon.loose h), r.tabs⟩
theorem Ext.loose (x : Ext μ H μ' H') {D : Addr} {o : HO} (h : H D = none) : Ext μ H μ' (upd H' D o) :=
  ⟨x.pre, x.new, fun a u n e => by rw [upd_ne (ne_of_none e h)]; exact x.keep a u n e, fun a xs e => by rw [upd_ne (ne_of_none e h)]; exact x.tups a xs e, fun a ob xs e => by rw [upd_ne (ne_of_none e h)]; exact x.scrs a ob xs e⟩
end
def wipeL (ls : Ls) : List Nat → Ls
  | [] => ls
  | v :: vs => (wipeL ls vs).set v none
theorem Rl.wipe {K : PySem.W.Frag} {H : Hp} {μ : List Addr} {ls : Ls} {σ : St} (h : Rl K H μ ls σ) : ∀ vs : List Nat, Rl K H μ (wipeL ls vs) (wipe σ vs)
  | [] => h
  | v :: vs => by
    have ih := Rl.wipe h vs
    unfold wipeL L2.wipe
    refine ⟨by rw [List.length_set, List.length_set, ih.1], fun j e hj => ?_⟩
    by_cases hv : v = j
    · subst hv
      by_cases hl : v < (wipeL ls vs).length
      · rw [List.getElem?_set_self hl] at hj
        cases hj
      · rw [List.getElem?_eq_none (by simpa using hl)] at hj
        cases hj
    · rw [List.getElem?_set_ne hv] at hj
      rw [List.getElem?_set_ne hv]
      exact ih.2 j e hj
theorem wipe_none {σ : St} {v : Nat} : ∀ us : List Nat, v ∈ us → (wipe σ us).set v none = wipe σ us
  | [], h => by cases h
  | u :: us, h => by
    show ((wipe σ us).set u none).set v none = (wipe σ us).set u none
    by_cases hu : v = u
    · subst hu
      rw [List.set_set]
    · rcases List.mem_cons.mp h with z | z
      · exact absurd z hu
      · rw [List.set_comm _ _ (Ne.symm hu), wipe_none us z]
theorem wipe_key {σ : St} (vs : List Nat) : ∀ ws : List Nat, (∀ i ∈ ws, i ∈ vs) → wipe (wipe σ vs) ws = wipe σ vs
  | [], _ => rfl
  | v :: ws, hv => by
    show (wipe (wipe σ vs) ws).set v none = wipe σ vs
    rw [wipe_key vs ws fun i hi => hv i (List.mem_cons_of_mem _ hi)]
    exact wipe_none vs (hv v List.mem_cons_self)
theorem wipe_idem {σ : St} (vs : List Nat) : wipe (wipe σ vs) vs = wipe σ vs := wipe_key vs vs fun _ h => h
def tYesD : AT := fun _ hp => some (true, hp)
abbrev DTs (X : Cx) (es : List Expr) (f : AT) : Prop := PTs X es (tT X.K f)
def lcGo (t : Tg) (gd : Gd) (tt : AT) (te : AE) (ls0 : Ls) : List D → Hd → Option (List D × Hd)
  | [], hp => if gdOk gd hp then some ([], hp) else none
  | x :: xs, hp => if gdOk gd hp then match t.asg x ls0 with
    | some ls1 => match tt ls1 hp with
      | some (true, hp1) => match te ls1 hp1 with
        | some (d, hp2) => match lcGo t gd tt te ls0 xs hp2 with
          | some (r, hp3) => some (d :: r, hp3)
          | none => none
        | none => none
      | some (false, hp1) => lcGo t gd tt te ls0 xs hp1
      | none => none
    | none => none else none
def mLc (fi : AI) (t : Tg) (own : List Nat) (tt : AT) (te : AE) : AA := fun ls hp => match fi ls hp with
  | some (items, gd, hp1) => if items.length ≤ sizeLine then lcGo t gd tt te (wipeL ls own) items hp1 else none
  | none => none
theorem PTs.imp {X : Cx} {e : List Expr} {t t' : TT} (h : PTs X e t) (i : ∀ σ H Q, t' σ H Q → t σ H Q) : PTs X e t' := ⟨fun pins s σ H Q I q => h.run pins s σ H Q I (i σ H Q q)⟩
section
variable {X : Cx} {e elt tg iter : Expr} {es ifs : List Expr} {fi : AI} {t : Tg} {tt : AT} {te fa : AE} {fr : AA} {pos : Pos}
theorem dts_nil : DTs X [] tYesD := PTs.imp pts_nil fun σ H Q ⟨ls, hp, μ, b, hp', rl, rh, e, q⟩ => by
  cases e
  exact q H μ Ext.refl rh
theorem tLc_of {K : PySem.W.Frag} {own : List Nat} {σ : St} {H : Hp} {Q : VK} (ho : ∀ i ∈ t.slots, i ∈ own) (h : tL K (mLc fi t own tt te) σ H Q) : tLc (tI K fi) (gD K t) (tT K tt) (tD K te) own σ H Q := by
  obtain ⟨ls, hp, μ, ds, hp', rl, rh, e, q⟩ := h
  unfold mLc at e
  split at e
  · rename_i items gd hp1 e1
    split at e
    · rename_i hsz
      refine ⟨ls, hp, μ, items, gd, hp1, rl, rh, e1, fun J H1 μ1 x1 rh1 wk D hD => ?_⟩
      have hD0 : H D = none := x1.back rh1 hD
      refine ⟨fun i m H2 => m + i = items.length ∧ ∃ acc accV r hp2 μ2, Ext μ1 H1 μ2 H2 ∧ D ∉ μ2 ∧ RelH K H2 μ2 hp2 ∧ H2 D = some (.lst accV) ∧ Rps K H2 μ2 acc accV ∧ acc.length ≤ i ∧
        lcGo t gd tt te (wipeL ls own) (items.drop i) hp2 = some (r, hp') ∧ acc ++ r = ds,
        ⟨items.length, by omega, [], [], ds, hp1, μ1, Ext.laid rh1 hD, rh1.notIn hD, rh1.laid hD, upd_same, Rps.nil, Nat.le_refl _, e, rfl⟩, ?_⟩
      rintro i m H2 ⟨hm, acc, accV, r, hp2, μ2, x2, nD, rh2, eD, ra, hl, e2, er⟩
      by_cases hi : i < items.length
      · have hd : items.drop i = items[i] :: items.drop (i + 1) := List.drop_eq_getElem_cons hi
        rw [hd] at e2
        simp only [lcGo] at e2
        split at e2
        · rename_i hgd
          obtain ⟨_, w2⟩ := wk i H2 μ2 hp2 x2 rh2 hgd
          obtain ⟨w3, w4⟩ := w2 hi
          refine .inr ⟨w3, fun H' => m - 1 + (i + 1) = items.length ∧ ∃ acc accV r hp2 μ2, Ext μ1 H1 μ2 H' ∧ D ∉ μ2 ∧ RelH K H' μ2 hp2 ∧ H' D = some (.lst accV) ∧ Rps K H' μ2 acc accV ∧ acc.length ≤ i + 1 ∧
            lcGo t gd tt te (wipeL ls own) (items.drop (i + 1)) hp2 = some (r, hp') ∧ acc ++ r = ds, fun H' h => ⟨m - 1, by omega, h⟩, fun x H3 hy => ?_⟩
          have hm' : m - 1 + (i + 1) = items.length := by omega
          obtain ⟨d, ed, x3, rh3, r3⟩ := w4 x H3 hy
          rw [List.getElem?_eq_getElem hi] at ed
          cases ed
          have eD3 : H3 D = some (.lst accV) := x3.keep _ _ nD eD
          split at e2
          · rename_i ls3 e3
            have rl3 := ((((rl.ext x1).ext x2).ext x3).wipe own)
            refine ⟨wipeL ls own, μ2, _, ls3, rl3, r3, e3, fun σ3 rl4 w => ⟨?_, ls3, hp2, μ2, ?_⟩⟩
            · rw [w own ho]
              exact wipe_idem own
            · split at e2
              · rename_i hp4 e4
                refine ⟨true, hp4, rl4, rh3, e4, fun H4 μ4 x4 rh4 => iteT ?_⟩
                have nD4 : D ∉ μ4 := x4.new _ _ nD eD3
                have eD4 : H4 D = some (.lst accV) := x4.keep _ _ nD eD3
                split at e2
                · rename_i d5 hp5 e5
                  split at e2
                  · rename_i r6 hp6 e6
                    cases e2
                    refine ⟨ls3, hp4, μ4, d5, hp5, rl4.ext x4, rh4, e5, fun y H5 μ5 x5 rh5 r5 => ?_⟩
                    have nD5 : D ∉ μ5 := x5.new _ _ nD4 eD4
                    have eD5 : H5 D = some (.lst accV) := x5.keep _ _ nD4 eD4
                    have x15 := (((x2.trans x3).trans x4).trans x5)
                    have ra5 := ((ra.ext x3).ext x4).ext x5
                    refine ⟨accV, eD5, ?_, hm', acc ++ [d5], accV ++ [y], r6, hp5, μ5, x15.loose hD, nD5, rh5.loose eD5 nD5, upd_same, ?_, ?_, e6, ?_⟩
                    · rw [ra.len]
                      omega
                    · have mo : Mon μ5 H5 μ5 (upd H5 D (.lst (accV ++ [y]))) := Mon.loose eD5
                      refine (ra5.append ?_).mon mo
                      rw [Rps]
                      exact ⟨y, [], rfl, r5, Rps.nil⟩
                    · rw [List.length_append]
                      simp
                      omega
                    · rw [← er, List.append_assoc]
                      rfl
                  · cases e2
                · cases e2
              · rename_i hp4 e4
                refine ⟨false, hp4, rl4, rh3, e4, fun H4 μ4 x4 rh4 => iteF ⟨hm', acc, accV, r, hp4, μ4, (x2.trans x3).trans x4, x4.new _ _ nD eD3, rh4, x4.keep _ _ nD eD3, (ra.ext x3).ext x4, by omega, e2, er⟩⟩
              · cases e2
          · cases e2
        · cases e2
      · rw [List.drop_eq_nil_of_le (by omega)] at e2
        simp only [lcGo] at e2
        split at e2
        · rename_i hgd
          cases e2
          obtain ⟨w1, _⟩ := wk i H2 μ2 _ x2 rh2 hgd
          rw [List.append_nil] at er
          subst er
          exact .inl ⟨w1 (by omega), q D accV H2 μ2 (x1.trans x2) rh2 hD0 nD eD ra⟩
        · cases e2
    · cases e
  · cases e
theorem le_lc {ifs : List Expr} {scope : Scope} {own : List (Str × Nat)} (hc : X.calm = true) (hN : X.N.Nodup) (hi : DI X tg iter fi) (ok : BlkOk X.N X.env.scope scope own)
    (hg : ∀ (s : Shared) (H : Hp) (C : Addr) (cl : List (Str × Addr)) (fp : List Addr), DG (X.blk s H scope (compEnvC scope cl C X.env) fp) tg t) (ht : ∀ (s : Shared) (H : Hp) (C : Addr) (cl : List (Str × Addr)) (fp : List Addr), DTs (X.blk s H scope (compEnvC scope cl C X.env) fp) ifs tt)
    (he : ∀ (s : Shared) (H : Hp) (C : Addr) (cl : List (Str × Addr)) (fp : List Addr), DE (X.blk s H scope (compEnvC scope cl C X.env) fp) elt te) (ho : ∀ i ∈ t.slots, i ∈ own.map (·.2) := by decide) (hs : ∀ x, foldedSetIterable iter X.env x = pure x := by intro _; rfl) :
    LE X (.ListComp elt [⟨tg, iter, ifs, 0⟩] scope pos) (mLc fi t (own.map (·.2)) tt te) :=
  PE.imp (pe_lc hc hN hi ok hg ht he hs) fun _ _ _ h => tLc_of ho h
theorem ds_setLc {i : Nat} {y : Str} {py spos : Pos} {scope : Scope} {own : List (Str × Nat)} (hc : X.calm = true) (hN : X.N.Nodup) (hy : X.N[i]? = some y) (hyl : X.env.scope.names.lookup y = some .local)
    (hsw : swapsWith (.ListComp elt [⟨tg, iter, ifs, 0⟩] scope pos) (some (.Name y py)) spos.line X.env = pure true) (hi : DI X tg iter fi) (ok : BlkOk X.N X.env.scope scope own)
    (hg : ∀ (s : Shared) (H : Hp) (C : Addr) (cl : List (Str × Addr)) (fp : List Addr), DG (X.blk s H scope (compEnvC scope cl C X.env) fp) tg t) (ht : ∀ (s : Shared) (H : Hp) (C : Addr) (cl : List (Str × Addr)) (fp : List Addr), DTs (X.blk s H scope (compEnvC scope cl C X.env) fp) ifs tt)
    (he : ∀ (s : Shared) (H : Hp) (C : Addr) (cl : List (Str × Addr)) (fp : List Addr), DE (X.blk s H scope (compEnvC scope cl C X.env) fp) elt te) (ho : ∀ i ∈ t.slots, i ∈ own.map (·.2) := by decide) (hs : ∀ x, foldedSetIterable iter X.env x = pure x := by intro _; rfl) :
    DS X (.Assign [.Name y py] (.ListComp elt [⟨tg, iter, ifs, 0⟩] scope pos) spos) (sSet i (mNew (mLc fi t (own.map (·.2)) tt te))) :=
  PS.imp (ps_setLc (g := gD X.K t) (tt := tT X.K tt) (te := tD X.K te) hc hN hy hyl hsw hi ok hg ht he hs) fun Dn σ H ⟨ls, hp, μ, fl, ls', hp', rl, rh, e, q⟩ => by
    refine tLc_of (K := X.K) (tt := tt) (te := te) ho ?_
    unfold sSet mNew at e
    cases e1 : mLc fi t (own.map (·.2)) tt te ls hp with
    | none => rw [e1] at e; cases e
    | some p1 =>
      obtain ⟨ds, hp1⟩ := p1
      rw [e1] at e
      cases e
      refine ⟨ls, hp, μ, ds, hp1, rl, rh, e1, fun a vs H1 μ1 x1 rh1 h0 hn hl r1 => ?_⟩
      refine q H1 (μ1 ++ [a]) (x1.place h0) (rh1.place hn ⟨vs, hl, r1.mon Mon.grow⟩) _ ((rl.ext (x1.place h0)).set ?_)
      rw [Rp]
      refine ⟨a, ?_, rfl⟩
      rw [List.getElem?_append_right (by rw [rh1.len]; exact Nat.le_refl _), rh1.len]
      simp
def spD (K : PySem.W.Frag) (n : Nat) (g : List D → Hd → Option (D × Hd)) : Sp := fun vs H Q _ => ∃ hp μ ds d hp', ds.length = n ∧ RelH K H μ hp ∧ Rps K H μ ds vs ∧ g ds hp = some (d, hp') ∧
  ∀ v H' μ', Ext μ H μ' H' → RelH K H' μ' hp' → Rp K H' μ' d v → Q v H'
def ar (n : Nat) (g : List D → Hd → Option (D × Hd)) : List D → Hd → Option (D × Hd) := fun ds hp => if ds.length = n then g ds hp else none
theorem de_call {k : Nat} {f : Addr} {fd : FuncData} {ps : List Str} {n : Nat} {g : List D → Hd → Option (D × Hd)} {x : Str} {p : Pos} (F : FnG X.prog X.w X.K X.mg X.base CX0 k f fd ps (spD X.K n g)) (hr : RoomG k X.A) (hg : Gl X x) (hm : X.mg x = some (.ref f)) (hk : PySem.W.keepIn X.K (.ref f) = true)
    (hb : Binds X.K fd ps []) (ha : DA X (e :: es) fr) (hdb : (x == ("__debug__" : Str)) = false := by decide) (he : starEach (e :: es) X.env = (false, eval e X.env) :: starEach es X.env := by rfl) (hpl : (backTo pos (starEach es X.env)).any (·.1) = false := by rfl) :
    DE X (.Call (.Name x p) (e :: es) [] pos) (mAs fr (ar n g)) :=
  PE.imp (pe_callG F hr hg hm hk hb .nil pass0 ha hdb he hpl) fun σ H Q h => by
    obtain ⟨ls, hp, μ, d, hp', rl, rh, e, q⟩ := h
    unfold mAs at e
    cases e1 : fr ls hp with
    | none => rw [e1] at e; cases e
    | some p1 =>
      obtain ⟨ds, hp1⟩ := p1
      rw [e1] at e
      simp only [ar] at e
      split at e
      · rename_i hn
        refine ⟨ls, hp, μ, ds, hp1, rl, rh, e1, fun vs H1 μ1 x1 rh1 r1 => ?_⟩
        show spD X.K n g (vs ++ []) H1 Q E0
        rw [List.append_nil]
        exact ⟨hp1, μ1, ds, d, hp', hn, rh1, r1, e, fun v H' μ' x2 rh2 r2 => q v H' μ' (x1.trans x2) rh2 r2⟩
      · cases e
def stD (n : Nat) (ds : List D) : Ls := ds.map some ++ List.replicate (n - ds.length) none
def mDef (n : Nat) (f : AS) : List D → Hd → Option (D × Hd) := fun ds hp => match f (stD n ds) hp with
  | some (.rt d, _, hp') => some (d, hp')
  | some (.nx, _, hp') => some (.non, hp')
  | _ => none
theorem Rps.get {K : PySem.W.Frag} {H : Hp} {μ : List Addr} : ∀ {ds : List D} {vs : List V} {i : Nat} {d : D}, Rps K H μ ds vs → ds[i]? = some d → ∃ v, vs[i]? = some v ∧ Rp K H μ d v
  | [], _, _, _, _, e => by simp at e
  | x :: xs, vs, i, d, h, e => by
    rw [Rps] at h
    obtain ⟨v, r, rfl, h1, h2⟩ := h
    cases i with
    | zero =>
      simp at e
      subst e
      exact ⟨v, rfl, h1⟩
    | succ i =>
      obtain ⟨w, e1, e2⟩ := Rps.get h2 (by simpa using e)
      exact ⟨w, by simpa using e1, e2⟩
theorem Rl.start {K : PySem.W.Frag} {H : Hp} {μ : List Addr} {N : List Str} {ds : List D} {vs : List V} (r : Rps K H μ ds vs) : Rl K H μ (stD N.length ds) (L2.start N vs) := by
  refine ⟨by simp [stD, L2.start, r.len], fun i d hd => ?_⟩
  unfold stD at hd
  by_cases hi : i < ds.length
  · rw [List.getElem?_append_left (by simpa using hi), List.getElem?_map] at hd
    cases hx : ds[i]? with
    | none => rw [hx] at hd; cases hd
    | some d' =>
      rw [hx] at hd
      cases hd
      obtain ⟨v, e1, r1⟩ := r.get hx
      refine ⟨v, ?_, r1⟩
      unfold L2.start
      rw [List.getElem?_append_left (by simpa [r.len] using hi), List.getElem?_map, e1]
      rfl
  · rw [List.getElem?_append_right (by simpa using hi)] at hd
    rw [List.getElem?_replicate] at hd
    split at hd <;> cases hd
theorem fn_def {P : Program} {w : World} {K : PySem.W.Frag} {mg : Str → Option Value} {base : Heap} {x qual : Str} {st : Stmt} {f : Addr} {fd : FuncData} {N ps : List Str} {k : Nat} {fb : AS} (F : Fun K x qual st f fd) (S : FnScope N ps (defScope st))
    (body : ∀ (cdv : Value) (A : Around) (outer : List Env) (s : Shared) (H : Hp) (E : XK), RoomG k (A.deeper (PyProof.Rows.envOfC qual (defScope st) s.heap.objs.size f cdv)) →
      DSs (cxOf CX0 P w K mg base N qual (defScope st) f cdv A outer s H E).nox (defBody st) fb) : FnG P w K mg base CX0 (k + 1) f fd ps (spD K ps.length (mDef N.length fb)) := by
  refine Fun.okG F S (fun vs H Q E h => ?_) (fun cdv A outer s H vs Q E hr h => ⟨_, body cdv A outer s H E hr, ?_⟩)
  · obtain ⟨hp, μ, ds, d, hp', hn, rh, r, e, q⟩ := h
    rw [r.len, hn]
  · obtain ⟨hp, μ, ds, d, hp', hn, rh, r, e, q⟩ := h
    show tS K fb _ _ _
    unfold mDef at e
    split at e
    · rename_i d' ls' hp1 e1
      cases e
      exact ⟨stD N.length ds, hp, μ, .rt d, ls', hp', Rl.start r, rh, e1, fun H' μ' x1 rh1 v rv => q v H' μ' x1 rh1 rv⟩
    · rename_i ls' hp1 e1
      cases e
      exact ⟨stD N.length ds, hp, μ, .nx, ls', hp', Rl.start r, rh, e1, fun H' μ' x1 rh1 σ' rl' => q .non H' μ' x1 rh1 Rp.non⟩
    · cases e
theorem Wk.range {K : PySem.W.Frag} {lo : Int} {n : Nat} {μ : List Addr} {H : Hp} : Wk K (Itr lo n) ((List.range n).map fun i => D.int (lo + (i : Nat))) [] μ H := by
  intro i H2 μ2 hp2 x2 rh2 _
  refine ⟨fun hi => ?_, fun hi => ⟨?_, fun x H3 hy => ?_⟩⟩
  · show n ≤ i
    simpa using hi
  · show i < n
    simpa using hi
  · obtain ⟨rfl, rfl⟩ := hy
    refine ⟨.int (lo + (i : Nat)), ?_, Ext.refl, rh2, Rp.int⟩
    have : i < n := by simpa using hi
    rw [List.getElem?_map, List.getElem?_range this]
    rfl
def mR1 (fr : AA) : AI := fun ls hp => match fr ls hp with
  | some ([.int j], hp1) => if -(2 ^ 62) ≤ j ∧ j < 2 ^ 62 then some ((List.range j.toNat).map fun i => D.int (i : Nat), [], hp1) else none
  | _ => none
theorem di_range1 {a : Expr} {p : Pos} (hg : Gl X "range") (hm : X.mg "range" = none) (ha : DA X [a] fr) (hs : starEach [a] X.env = [(false, eval a X.env)] := by rfl) : DI X tg (.Call (.Name "range" p) [a] [] pos) (mR1 fr) :=
  PI.imp (pi_range1 hg hm ha hs) fun σ H R ⟨ls, hp, μ, items, gd, hp', rl, rh, e, q⟩ => by
    unfold mR1 at e
    split at e
    · rename_i j hp1 e1
      split at e
      · rename_i hj
        cases e
        refine ⟨ls, hp, μ, [.int j], hp', rl, rh, e1, fun vs H' μ' x1 rh1 r1 => ?_⟩
        rw [Rps] at r1
        obtain ⟨v, r, rfl, r1, r2⟩ := r1
        rw [Rps] at r2
        subst r2
        refine ⟨j, by rw [r1.intE], hj.1, hj.2, q _ H' μ' x1 rh1 ?_⟩
        have := Wk.range (K := X.K) (lo := 0) (n := j.toNat) (μ := μ') (H := H')
        simpa using this
      · cases e
    · cases e
def mIL (f : AA) : AI := fun ls hp => match f ls hp with
  | some (ds, hp1) => some (ds, [], hp1)
  | none => none
theorem di_le {l : Expr} {f : AA} (h : LE X l f) : DI X tg l (mIL f) :=
  PI.imp (pi_list h) fun σ H R ⟨ls, hp, μ, items, gd, hp', rl, rh, e, q⟩ => by
    unfold mIL at e
    split at e
    · rename_i ds hp1 e1
      cases e
      refine ⟨ls, hp, μ, items, hp', rl, rh, e1, fun a vs H1 μ1 x1 rh1 h0 hn hl r1 => ⟨a, rfl, ⟨vs, .inl (.inl hl)⟩, q _ H1 μ1 x1 rh1 ?_⟩⟩
      intro i H2 μ2 hp2 x2 rh2 _
      have h2 : H2 a = some (.lst vs) := x2.keep _ _ hn hl
      have hlen := r1.len
      refine ⟨fun hi => ⟨vs, .inl (.inl h2), by omega⟩, fun hi => ?_⟩
      obtain ⟨v, ev, rv⟩ := r1.get (List.getElem?_eq_getElem hi)
      refine ⟨⟨vs, v, .inl (.inl h2), ev⟩, fun x H3 hy => ?_⟩
      obtain ⟨rfl, hx⟩ := hy
      have := hx vs (.inl (.inl h2))
      rw [ev] at this
      cases this
      exact ⟨_, List.getElem?_eq_getElem hi, Ext.refl, rh2, rv.ext x2⟩
    · cases e
def itOf : D → Hd → Option (List D × Gd)
  | .tup ds, _ => some (ds, [])
  | .wt ds, _ => some (ds, [])
  | .scr ns, _ => some (ns.map .int, [])
  | .str x, _ => some (x.cps.toList.map fun c => .str ⟨#[c]⟩, [])
  | .ref n, hp => match hp[n]? with
    | some (.lst xs) => some (xs, [(n, xs)])
    | _ => none
  | _, _ => none
def mIS (f : AE) : AI := fun ls hp => match f ls hp with
  | some (d, hp1) => match itOf d hp1 with
    | some (items, gd) => some (items, gd, hp1)
    | none => none
  | none => none
theorem RelH.lst {K : PySem.W.Frag} {H : Hp} {μ : List Addr} {hp : Hd} (r : RelH K H μ hp) {n : Nat} {a : Addr} {xs : List D} (h : μ[n]? = some a) (e : hp[n]? = some (.lst xs)) : ∃ vs, H a = some (.lst vs) ∧ Rps K H μ xs vs := by
  obtain ⟨a2, e2, vs, q1, q2⟩ := r.at_ e
  rw [h] at e2
  cases e2
  exact ⟨vs, q1, q2⟩
theorem gdOk_one {n : Nat} {xs : List D} {hp : Hd} (h : gdOk [(n, xs)] hp = true) : hp[n]? = some (.lst xs) := by
  simp only [gdOk, Bool.and_true] at h
  split at h
  · rename_i ys e
    rw [e, D.sames_eq _ _ h]
  · cases h
theorem di_seq {l : Expr} (h : DE X l fa) : DI X tg l (mIS fa) :=
  PI.imp (PI.or (PI.or (pi_list h) (pi_tup h)) (pi_str h)) fun σ H R ⟨ls, hp, μ, items, gd, hp', rl, rh, e, q⟩ => by
    unfold mIS at e
    split at e
    · rename_i d hp1 e1
      split at e
      · rename_i items' gd' e2
        cases e
        cases d <;> simp only [itOf] at e2 <;> try (cases e2; done)
        · rename_i x
          cases e2
          refine .inr ⟨ls, hp, μ, _, hp', rl, rh, e1, fun v H1 μ1 x1 rh1 r1 => ⟨x, r1.strE, q _ H1 μ1 x1 rh1 ?_⟩⟩
          intro i H2 μ2 hp2 x2 rh2 _
          refine ⟨fun hi => ?_, fun hi => ⟨?_, fun y H3 hy => ?_⟩⟩
          · show x.cps.size ≤ i
            simpa using hi
          · show i < x.cps.size
            simpa using hi
          · obtain ⟨rfl, c, ec, rfl⟩ := hy
            refine ⟨.str ⟨#[c]⟩, ?_, Ext.refl, rh2, Rp.str⟩
            rw [List.getElem?_map]
            simp [ec]
        · rename_i ds
          cases e2
          refine .inl (.inr ⟨ls, hp, μ, _, hp', rl, rh, e1, fun v H1 μ1 x1 rh1 r1 => ?_⟩)
          obtain ⟨a, vs, rfl, ta, ra⟩ := r1.tupE
          refine ⟨a, rfl, ⟨vs, ta.sq⟩, q _ H1 μ1 x1 rh1 ?_⟩
          intro i H2 μ2 hp2 x2 rh2 _
          have h2 : SqT X.K H2 a vs := (ta.ext x2).sq
          have hlen := ra.len
          refine ⟨fun hi => ⟨vs, h2, by omega⟩, fun hi => ?_⟩
          obtain ⟨v, ev, rv⟩ := ra.get (List.getElem?_eq_getElem hi)
          refine ⟨⟨vs, v, h2, ev⟩, fun x H3 hy => ?_⟩
          obtain ⟨rfl, hx⟩ := hy
          have := hx vs h2
          rw [ev] at this
          cases this
          exact ⟨_, List.getElem?_eq_getElem hi, Ext.refl, rh2, rv.ext x2⟩
        · rename_i n
          split at e2
          · rename_i xs e3
            cases e2
            refine .inl (.inl ⟨ls, hp, μ, _, hp', rl, rh, e1, fun v H1 μ1 x1 rh1 r1 => ?_⟩)
            obtain ⟨a, ea, rfl⟩ := r1.refE
            obtain ⟨vs, ev, _⟩ := rh1.lst ea e3
            refine ⟨a, rfl, ⟨vs, .inl (.inl ev)⟩, q _ H1 μ1 x1 rh1 ?_⟩
            intro i H2 μ2 hp2 x2 rh2 hg
            obtain ⟨vs2, ev2, ra⟩ := rh2.lst (x2.m.at_ ea) (gdOk_one hg)
            have hlen := ra.len
            refine ⟨fun hi => ⟨vs2, .inl (.inl ev2), by omega⟩, fun hi => ?_⟩
            obtain ⟨v, ev, rv⟩ := ra.get (List.getElem?_eq_getElem hi)
            refine ⟨⟨vs2, v, .inl (.inl ev2), ev⟩, fun x H3 hy => ?_⟩
            obtain ⟨rfl, hx⟩ := hy
            have := hx vs2 (.inl (.inl ev2))
            rw [ev] at this
            cases this
            exact ⟨_, List.getElem?_eq_getElem hi, Ext.refl, rh2, rv⟩
          · cases e2
        · rename_i ns
          cases e2
          refine .inl (.inl ⟨ls, hp, μ, _, hp', rl, rh, e1, fun v H1 μ1 x1 rh1 r1 => ?_⟩)
          obtain ⟨a, rfl, sa⟩ := r1.scrE
          refine ⟨a, rfl, ⟨_, sa.sq⟩, q _ H1 μ1 x1 rh1 ?_⟩
          intro i H2 μ2 hp2 x2 rh2 hg
          have h2 : SqL X.K H2 a (ns.map V.int) := (sa.mon x2.m).sq
          refine ⟨fun hi => ⟨_, h2, by simpa using hi⟩, fun hi => ?_⟩
          have hi' : i < ns.length := by simpa using hi
          refine ⟨⟨_, .int ns[i], h2, by simp [hi']⟩, fun x H3 hy => ?_⟩
          obtain ⟨rfl, hx⟩ := hy
          have := hx _ h2
          refine ⟨.int ns[i], by simp [hi'], Ext.refl, rh2, ?_⟩
          simp [hi'] at this
          subst this
          exact Rp.int
        · rename_i ds
          cases e2
          refine .inl (.inr ⟨ls, hp, μ, _, hp', rl, rh, e1, fun v H1 μ1 x1 rh1 r1 => ?_⟩)
          obtain ⟨a, vs, rfl, ta, ra⟩ := r1.wtE
          refine ⟨a, rfl, ⟨vs, ta.sq⟩, q _ H1 μ1 x1 rh1 ?_⟩
          intro i H2 μ2 hp2 x2 rh2 _
          have h2 : SqT X.K H2 a vs := (ta.mon x2.m).sq
          have hlen := ra.len
          refine ⟨fun hi => ⟨vs, h2, by omega⟩, fun hi => ?_⟩
          obtain ⟨v, ev, rv⟩ := ra.get (List.getElem?_eq_getElem hi)
          refine ⟨⟨vs, v, h2, ev⟩, fun x H3 hy => ?_⟩
          obtain ⟨rfl, hx⟩ := hy
          have := hx vs h2
          rw [ev] at this
          cases this
          exact ⟨_, List.getElem?_eq_getElem hi, Ext.refl, rh2, rv.ext x2⟩
      · cases e
    · cases e
end
end Ve
namespace Ve
open PySem PySem.Spec L2
theorem toKey_inj : ∀ {a b : D} {k : Key}, toKey a = some k → toKey b = some k → a = b := by
  intro a b k h1 h2
  cases a <;> simp only [toKey] at h1 <;> try (cases h1; done)
  · cases h1
    cases b <;> simp only [toKey] at h2 <;> try (cases h2; done)
    cases h2
    rfl
  · cases h1
    cases b <;> simp only [toKey] at h2 <;> try (cases h2; done)
    cases h2
    rfl
theorem toKeys_inj : ∀ {a b : List D} {k : List Key}, toKeys a = some k → toKeys b = some k → a = b
  | [], b, k, h1, h2 => by
    simp only [toKeys] at h1
    cases h1
    cases b with
    | nil => rfl
    | cons x xs =>
      simp only [toKeys] at h2
      split at h2 <;> cases h2
  | x :: xs, b, k, h1, h2 => by
    simp only [toKeys] at h1
    split at h1
    · rename_i k1 ks e1 e2
      cases h1
      cases b with
      | nil => simp [toKeys] at h2
      | cons y ys =>
        simp only [toKeys] at h2
        split at h2
        · rename_i k2 ks2 e3 e4
          cases h2
          rw [toKey_inj e1 e3, toKeys_inj e2 e4]
        · cases h2
    · cases h1
def look : List (D × D) → D → Option D
  | [], _ => none
  | (a, v) :: r, k => if D.same a k = true then some v else look r k
def putD : List (D × D) → D → D → List (D × D)
  | [], k, v => [(k, v)]
  | (a, x) :: r, k, v => if D.same a k = true then (a, v) :: r else (a, x) :: putD r k v
theorem same_iff {a b : D} : D.same a b = true ↔ a = b := ⟨D.same_eq a b, fun e => by rw [e]; exact D.same_self b⟩
section
variable {K : PySem.W.Frag} {H H' : Hp} {μ μ' : List Addr}
def RpO (K : PySem.W.Frag) (H : Hp) (μ : List Addr) : Option D → Option V → Prop
  | some d, some v => Rp K H μ d v
  | none, none => True
  | _, _ => False
theorem RpK.look {k : D} {k' : Key} (hk : toKey k = some k') : ∀ {kvs : List (D × D)} {vs : List (Key × V)}, RpK K H μ kvs vs → RpO K H μ (look kvs k) (valV vs k')
  | [], _, h => by
    rw [RpK] at h
    subst h
    exact True.intro
  | (a, v) :: r, _, h => by
    rw [RpK] at h
    obtain ⟨ka, w, rs, rfl, h1, h2, h3⟩ := h
    unfold Ve.look
    by_cases e : a = k
    · subst e
      rw [hk] at h1
      cases h1
      rw [if_pos (D.same_self a), valV_pos (p := (k', w)) rfl]
      exact h2
    · have e2 : ¬ ka = k' := fun z => e (toKey_inj h1 (by rw [hk, z]))
      rw [if_neg (fun z => e (same_iff.mp z)), valV_neg (p := (ka, w)) e2]
      exact RpK.look hk h3
theorem RpT.look {k : List D} {k' : List Key} (hk : toKeys k = some k') : ∀ {kvs : List (D × D)} {vs : List (List Key × V)}, RpT K H μ kvs vs → RpO K H μ (look kvs (.tup k)) (valV vs k')
  | [], _, h => by
    rw [RpT] at h
    subst h
    exact True.intro
  | (a, v) :: r, _, h => by
    rw [RpT] at h
    obtain ⟨ds, ka, w, rs, e0, rfl, h1, h2, h3⟩ := h
    have e0 : a = .tup ds := e0
    subst e0
    unfold Ve.look
    by_cases e : ds = k
    · subst e
      rw [hk] at h1
      cases h1
      rw [if_pos (D.same_self _), valV_pos (p := (k', w)) rfl]
      exact h2
    · have e2 : ¬ ka = k' := fun z => e (toKeys_inj h1 (by rw [hk, z]))
      rw [if_neg (fun z => e (D.tup.inj (same_iff.mp z))), valV_neg (p := (ka, w)) e2]
      exact RpT.look hk h3
theorem putK_cons {κ : Type} [DecidableEq κ] {a k : κ} {x v : V} {r : List (κ × V)} : putK ((a, x) :: r) k v = if a = k then (a, v) :: r.map (fun kv => if kv.1 = k then (kv.1, v) else kv) else (a, x) :: putK r k v := by
  unfold putK
  by_cases e : a = k
  · simp [e]
  · simp only [List.any_cons, e, decide_false, Bool.false_or, List.map_cons, if_neg, not_false_eq_true, ite_false]
    split <;> simp
theorem map_none {κ : Type} [DecidableEq κ] {k : κ} {v : V} : ∀ {r : List (κ × V)}, (∀ p ∈ r, p.1 ≠ k) → r.map (fun kv => if kv.1 = k then (kv.1, v) else kv) = r
  | [], _ => rfl
  | p :: r, h => by
    rw [List.map_cons, if_neg (h p List.mem_cons_self), map_none fun q hq => h q (List.mem_cons_of_mem _ hq)]
theorem RpK.keys : ∀ {kvs : List (D × D)} {vs : List (Key × V)}, RpK K H μ kvs vs → ∀ p ∈ vs, ∃ q ∈ kvs, toKey q.1 = some p.1
  | [], _, h, p, hp => by
    rw [RpK] at h
    subst h
    cases hp
  | x :: xs, _, h, p, hp => by
    rw [RpK] at h
    obtain ⟨ka, w, rs, rfl, h1, h2, h3⟩ := h
    rcases List.mem_cons.mp hp with e | e
    · subst e
      exact ⟨x, List.mem_cons_self, h1⟩
    · obtain ⟨q, hq, e2⟩ := RpK.keys h3 p e
      exact ⟨q, List.mem_cons_of_mem _ hq, e2⟩
theorem RpT.keys : ∀ {kvs : List (D × D)} {vs : List (List Key × V)}, RpT K H μ kvs vs → ∀ p ∈ vs, ∃ q ∈ kvs, ∃ ds, q.1 = .tup ds ∧ toKeys ds = some p.1
  | [], _, h, p, hp => by
    rw [RpT] at h
    subst h
    cases hp
  | x :: xs, _, h, p, hp => by
    rw [RpT] at h
    obtain ⟨ds, ka, w, rs, e0, rfl, h1, h2, h3⟩ := h
    rcases List.mem_cons.mp hp with e | e
    · subst e
      exact ⟨x, List.mem_cons_self, ds, e0, h1⟩
    · obtain ⟨q, hq, e2⟩ := RpT.keys h3 p e
      exact ⟨q, List.mem_cons_of_mem _ hq, e2⟩
theorem RpK.put {k d : D} {k' : Key} {v : V} (hk : toKey k = some k') (rv : Rp K H μ d v) : ∀ {kvs : List (D × D)} {vs : List (Key × V)}, KNd kvs → RpK K H μ kvs vs → RpK K H μ (putD kvs k d) (putK vs k' v)
  | [], _, _, h => by
    rw [RpK] at h
    subst h
    unfold putD
    rw [RpK]
    exact ⟨k', v, [], rfl, hk, rv, by rw [RpK]⟩
  | (a, x) :: r, _, nd, h => by
    rw [RpK] at h
    obtain ⟨ka, w, rs, rfl, h1, h2, h3⟩ := h
    have h1 : toKey a = some ka := h1
    unfold putD
    rw [putK_cons]
    by_cases e : a = k
    · subst e
      rw [hk] at h1
      cases h1
      rw [if_pos (D.same_self a), if_pos rfl, RpK, map_none]
      · exact ⟨k', v, rs, rfl, hk, rv, h3⟩
      · intro p hp z
        obtain ⟨q, hq, e2⟩ := RpK.keys h3 p hp
        rw [z] at e2
        exact nd.1 q hq (toKey_inj e2 hk)
    · rw [if_neg (fun z => e (same_iff.mp z)), if_neg (fun z => e (toKey_inj h1 (by rw [hk, z]))), RpK]
      exact ⟨ka, w, _, rfl, h1, h2, RpK.put hk rv nd.2 h3⟩
theorem RpT.put {k : List D} {d : D} {k' : List Key} {v : V} (hk : toKeys k = some k') (rv : Rp K H μ d v) : ∀ {kvs : List (D × D)} {vs : List (List Key × V)}, KNd kvs → RpT K H μ kvs vs → RpT K H μ (putD kvs (.tup k) d) (putK vs k' v)
  | [], _, _, h => by
    rw [RpT] at h
    subst h
    unfold putD
    rw [RpT]
    exact ⟨k, k', v, [], rfl, rfl, hk, rv, by rw [RpT]⟩
  | (a, x) :: r, _, nd, h => by
    rw [RpT] at h
    obtain ⟨ds, ka, w, rs, e0, rfl, h1, h2, h3⟩ := h
    have e0 : a = .tup ds := e0
    subst e0
    unfold putD
    rw [putK_cons]
    by_cases e : ds = k
    · subst e
      rw [hk] at h1
      cases h1
      rw [if_pos (D.same_self _), if_pos rfl, RpT, map_none]
      · exact ⟨ds, k', v, rs, rfl, rfl, hk, rv, h3⟩
      · intro p hp z
        obtain ⟨q, hq, ds2, e3, e2⟩ := RpT.keys h3 p hp
        rw [z] at e2
        exact nd.1 q hq (by rw [e3, toKeys_inj e2 hk])
    · rw [if_neg (fun z => e (D.tup.inj (same_iff.mp z))), if_neg (fun z => e (toKeys_inj h1 (by rw [hk, z]))), RpT]
      exact ⟨ds, ka, w, _, rfl, rfl, h1, h2, RpT.put hk rv nd.2 h3⟩
theorem putD_mem {k v : D} : ∀ {kvs : List (D × D)} {p : D × D}, p ∈ putD kvs k v → p = (k, v) ∨ p ∈ kvs ∨ (p.1 = k ∧ ∃ q ∈ kvs, q.1 = k)
  | [], p, h => by
    simp [putD] at h
    exact .inl h
  | (a, x) :: r, p, h => by
    unfold putD at h
    split at h
    · rename_i e
      have e := same_iff.mp e
      subst e
      rcases List.mem_cons.mp h with z | z
      · exact .inl z
      · exact .inr (.inl (List.mem_cons_of_mem _ z))
    · rcases List.mem_cons.mp h with z | z
      · exact .inr (.inl (by rw [z]; exact List.mem_cons_self))
      · rcases putD_mem z with z | z | ⟨z1, q, hq, z2⟩
        · exact .inl z
        · exact .inr (.inl (List.mem_cons_of_mem _ z))
        · exact .inr (.inr ⟨z1, q, List.mem_cons_of_mem _ hq, z2⟩)
theorem putD_key {k v : D} : ∀ {kvs : List (D × D)} {p : D × D}, p ∈ putD kvs k v → p.1 = k ∨ ∃ q ∈ kvs, q.1 = p.1 := fun h => by
  rcases putD_mem h with z | z | ⟨z1, _⟩
  · exact .inl (by rw [z])
  · exact .inr ⟨_, z, rfl⟩
  · exact .inl z1
theorem KNd.put {k v : D} : ∀ {kvs : List (D × D)}, KNd kvs → KNd (putD kvs k v)
  | [], _ => by
    unfold putD
    exact ⟨(fun q h => nomatch h), True.intro⟩
  | (a, x) :: r, nd => by
    unfold putD
    split
    · exact nd
    · rename_i e
      refine ⟨fun q hq z => ?_, KNd.put nd.2⟩
      rcases putD_key hq with w | ⟨q2, h2, w⟩
      · exact e (same_iff.mpr (by rw [← w, z]))
      · exact nd.1 q2 h2 (by rw [w, z])
theorem RpK.len : ∀ {kvs : List (D × D)} {vs : List (Key × V)}, RpK K H μ kvs vs → vs.length = kvs.length
  | [], _, h => by
    rw [RpK] at h
    subst h
    rfl
  | _ :: _, _, h => by
    rw [RpK] at h
    obtain ⟨ka, w, rs, rfl, h1, h2, h3⟩ := h
    rw [List.length_cons, List.length_cons, RpK.len h3]
theorem RpT.len : ∀ {kvs : List (D × D)} {vs : List (List Key × V)}, RpT K H μ kvs vs → vs.length = kvs.length
  | [], _, h => by
    rw [RpT] at h
    subst h
    rfl
  | _ :: _, _, h => by
    rw [RpT] at h
    obtain ⟨ds, ka, w, rs, e0, rfl, h1, h2, h3⟩ := h
    rw [List.length_cons, List.length_cons, RpT.len h3]
theorem Rp.keyV {k : D} {k' : Key} {v : V} (hk : toKey k = some k') (r : Rp K H μ k v) : v = kV k' := by
  cases k <;> simp only [toKey] at hk <;> try (cases hk; done)
  · cases hk
    exact r.intE
  · cases hk
    exact r.strE
theorem Rps.keysV : ∀ {ks : List D} {k' : List Key} {vs : List V}, toKeys ks = some k' → Rps K H μ ks vs → vs = k'.map kV
  | [], k', vs, hk, r => by
    simp only [toKeys] at hk
    cases hk
    rw [Rps] at r
    exact r
  | d :: ds, k', vs, hk, r => by
    simp only [toKeys] at hk
    split at hk
    · rename_i k ks e1 e2
      cases hk
      rw [Rps] at r
      obtain ⟨v, w, rfl, r1, r2⟩ := r
      rw [List.map_cons, r1.keyV e1, Rps.keysV e2 r2]
    · cases hk
end
section
variable {X : Cx} {pins : List (Addr × Obj)} {σ : St} {H : Hp} {s : Shared} {a : Addr}
theorem inv_dT (I : Inv X pins σ H s) (e : H a = some (.dK [])) : Inv X pins σ (upd H a (.dT [])) s := by
  obtain ⟨z, hd, vs, rel, o, es, ep, h1, h2, h3, h4, h5, h6⟩ := dk_of I.hok e
  have hv : vs = [] := by
    cases rel
    rfl
  subst hv
  have he : es.toList = [] := by
    generalize es.toList = l at h5
    cases h5
    rfl
  exact d_write (t' := s.toks) (h' := s.heap) I (by rw [e]; exact True.intro) ⟨rfl, fun _ _ => rfl⟩ ⟨o, h1⟩ ⟨Nat.zero_le _, hd, [], .nil, o, es, ep, h1, h2, h3, by rw [he]; rfl, by simp⟩
end
end Ve
namespace Ve
open PySem PySem.Spec L2
def dKind (kvs : List (D × D)) : D → Bool
  | .tup ks => (toKeys ks).isSome && (match kvs with
    | [] => true
    | (.tup _, _) :: _ => true
    | _ => false)
  | k => (toKey k).isSome && (match kvs with
    | [] => true
    | (.tup _, _) :: _ => false
    | _ => true)
section
variable {X : Cx} {pins : List (Addr × Obj)} {σ : St} {H : Hp} {s : Shared} {a : Addr} {μ : List Addr} {hp : Hd} {n : Nat}
theorem inv_dK (I : Inv X pins σ H s) (e : H a = some (.dT [])) : Inv X pins σ (upd H a (.dK [])) s := by
  obtain ⟨z, hd, xs, rel, o, es, ep, h1, h2, h3, h4, h5, h6⟩ := dt_of I.hok e
  have hv : xs = [] := by
    cases rel
    rfl
  subst hv
  have he : es.toList = [] := by
    first
      | exact h4
      | exact h5
  exact d_write (t' := s.toks) (h' := s.heap) I (by rw [e]; exact True.intro) ⟨rfl, fun _ _ => rfl⟩ ⟨o, h1⟩ ⟨Nat.zero_le _, hd, [], .nil, o, es, ep, h1, h2, h3, by
    have : es = #[] := by
      cases es
      simp at he
      subst he
      rfl
    subst this
    exact ⟨fun i hi => by simp at hi, by exact .nil, by simp⟩⟩
theorem RelH.dic (r : RelH X.K H μ hp) {kvs : List (D × D)} (h : μ[n]? = some a) (e : hp[n]? = some (.dic kvs)) : KNd kvs ∧ ((∃ vs, H a = some (.dK vs) ∧ RpK X.K H μ kvs vs) ∨ ∃ vs, H a = some (.dT vs) ∧ RpT X.K H μ kvs vs) := by
  obtain ⟨a2, e2, q⟩ := r.at_ e
  rw [h] at e2
  cases e2
  exact q
theorem RelH.dicL (r : RelH X.K H μ hp) {kvs : List (D × D)} (h : μ[n]? = some a) (e : hp[n]? = some (.dicL kvs)) : KNd kvs ∧ ((∃ o vs, H a = some (.frz o (.dK vs)) ∧ RpK X.K H μ kvs vs) ∨ ∃ o vs, H a = some (.frz o (.dT vs)) ∧ RpT X.K H μ kvs vs) := by
  obtain ⟨a2, e2, q⟩ := r.at_ e
  rw [h] at e2
  cases e2
  exact q
theorem set_same {α : Type} {l : List α} {n : Nat} {x : α} (h : l[n]? = some x) : l.set n x = l := by
  obtain ⟨hl, e⟩ := List.getElem?_eq_some_iff.mp h
  rw [← e]
  exact List.set_getElem_self hl
theorem dKind_leaf {kvs : List (D × D)} {k : D} (h : dKind kvs k = true) (nt : ∀ ks, k ≠ .tup ks) : ∃ k', toKey k = some k' := by
  cases k <;> simp only [dKind] at h <;> try (simp [toKey] at h; done)
  · exact ⟨_, rfl⟩
  · exact ⟨_, rfl⟩
  · exact absurd rfl (nt _)
theorem dKind_leaf2 {p : D × D} {r : List (D × D)} {k : D} (h : dKind (p :: r) k = true) (nt : ∀ ks, k ≠ .tup ks) : ∀ ks, p.1 ≠ .tup ks := by
  obtain ⟨a, b⟩ := p
  cases k <;> cases a <;> simp [dKind] at h ⊢ <;> exact absurd rfl (nt _)
theorem dKind_tup {kvs : List (D × D)} {ks : List D} (h : dKind kvs (.tup ks) = true) : (∃ k', toKeys ks = some k') ∧ ∀ p r, kvs = p :: r → ∃ ds, p.1 = .tup ds := by
  simp only [dKind, Bool.and_eq_true] at h
  refine ⟨Option.isSome_iff_exists.mp h.1, fun p r e => ?_⟩
  subst e
  obtain ⟨a, b⟩ := p
  cases a <;> simp at h ⊢
theorem RpK.tupNot {kvs : List (D × D)} {vs : List (Key × V)} {p : D × D} {r : List (D × D)} {ds : List D} (h : RpK X.K H μ kvs vs) (e : kvs = p :: r) (e2 : p.1 = .tup ds) : False := by
  subst e
  rw [RpK] at h
  obtain ⟨ka, w, rs, rfl, h1, h2, h3⟩ := h
  rw [e2] at h1
  simp [toKey] at h1
theorem RpT.leafNot {kvs : List (D × D)} {vs : List (List Key × V)} {p : D × D} {r : List (D × D)} (h : RpT X.K H μ kvs vs) (e : kvs = p :: r) (e2 : ∀ ks, p.1 ≠ .tup ks) : False := by
  subst e
  rw [RpT] at h
  obtain ⟨ds, ka, w, rs, e0, rfl, h1, h2, h3⟩ := h
  exact e2 _ e0
theorem dic_kind (I : Inv X pins σ H s) (rh : RelH X.K H μ hp) {kvs : List (D × D)} {k : D} (ha : μ[n]? = some a) (eh : hp[n]? = some (.dic kvs)) (hk : dKind kvs k = true) :
    ∃ H', Inv X pins σ H' s ∧ Ext μ H μ H' ∧ RelH X.K H' μ hp ∧ KNd kvs ∧ (((∀ ks, k ≠ .tup ks) ∧ ∃ vs, H' a = some (.dK vs) ∧ RpK X.K H' μ kvs vs) ∨ ((∃ ks, k = .tup ks) ∧ ∃ vs, H' a = some (.dT vs) ∧ RpT X.K H' μ kvs vs)) := by
  obtain ⟨nd, q⟩ := rh.dic ha eh
  by_cases hkt : ∃ ks, k = .tup ks
  · obtain ⟨ks, rfl⟩ := hkt
    obtain ⟨_, h2⟩ := dKind_tup hk
    rcases q with ⟨vs, e, r⟩ | ⟨vs, e, r⟩
    · cases kvs with
      | nil =>
        rw [RpK] at r
        subst r
        obtain ⟨r1, x1⟩ := rh.put (o := .dic []) (u := .dT []) ha ⟨True.intro, .inr ⟨[], rfl, by rw [RpT]⟩⟩
        rw [set_same eh] at r1
        exact ⟨_, inv_dT I e, x1, r1, nd, .inr ⟨⟨ks, rfl⟩, [], upd_same, by rw [RpT]⟩⟩
      | cons p kr =>
        obtain ⟨ds, e3⟩ := h2 p kr rfl
        exact (r.tupNot rfl e3).elim
    · exact ⟨H, I, Ext.refl, rh, nd, .inr ⟨⟨ks, rfl⟩, vs, e, r⟩⟩
  · have nt : ∀ ks, k ≠ .tup ks := fun ks e => hkt ⟨ks, e⟩
    rcases q with ⟨vs, e, r⟩ | ⟨vs, e, r⟩
    · exact ⟨H, I, Ext.refl, rh, nd, .inl ⟨nt, vs, e, r⟩⟩
    · cases kvs with
      | nil =>
        rw [RpT] at r
        subst r
        obtain ⟨r1, x1⟩ := rh.put (o := .dic []) (u := .dK []) ha ⟨True.intro, .inl ⟨[], rfl, by rw [RpK]⟩⟩
        rw [set_same eh] at r1
        exact ⟨_, inv_dK I e, x1, r1, nd, .inl ⟨nt, [], upd_same, by rw [RpK]⟩⟩
      | cons p kr => exact (r.leafNot rfl (dKind_leaf2 hk nt)).elim
def dicOf : O → Option (List (D × D))
  | .dic kvs => some kvs
  | .dicL kvs => if kvs.isEmpty then none else some kvs
  | _ => none
theorem dic_get (I : Inv X pins σ H s) (rh : RelH X.K H μ hp) {o : O} {kvs : List (D × D)} {k : D} {y : V} (ha : μ[n]? = some a) (eh : hp[n]? = some o) (eo : dicOf o = some kvs) (hk : dKind kvs k = true) (ry : Rp X.K H μ k y) :
    ∃ H' r, Inv X pins σ H' s ∧ Ext μ H μ H' ∧ RelH X.K H' μ hp ∧ DGet H' a y r ∧ RpO X.K H' μ (look kvs k) r := by
  cases o with
  | lst xs => simp [dicOf] at eo
  | dicN ks => simp [dicOf] at eo
  | dicM ks => simp [dicOf] at eo
  | ins c kvs => simp [dicOf] at eo
  | exc c => simp [dicOf] at eo
  | tab c => simp [dicOf] at eo
  | dic kvs' =>
    simp only [dicOf] at eo
    cases eo
    obtain ⟨H', I', x, rh', nd, q⟩ := dic_kind I rh ha eh hk
    rcases q with ⟨nt, vs, e, r⟩ | ⟨⟨ks, rfl⟩, vs, e, r⟩
    · obtain ⟨k', e1⟩ := dKind_leaf hk nt
      exact ⟨H', _, I', x, rh', .inl ⟨vs, k', .inl e, ry.keyV e1, rfl⟩, r.look e1⟩
    · obtain ⟨⟨k', e1⟩, _⟩ := dKind_tup hk
      obtain ⟨b, ws, rfl, hb, rs⟩ := (ry.ext x).tupE
      have := rs.keysV e1
      subst this
      exact ⟨H', _, I', x, rh', .inr ⟨vs, k', b, .inl e, rfl, hb, rfl⟩, r.look e1⟩
  | dicL kvs' =>
    simp only [dicOf] at eo
    split at eo
    · cases eo
    · rename_i ne
      cases eo
      obtain ⟨nd, q⟩ := rh.dicL ha eh
      cases kvs with
      | nil => exact absurd rfl ne
      | cons p kr =>
        by_cases hkt : ∃ ks, k = .tup ks
        · obtain ⟨ks, rfl⟩ := hkt
          obtain ⟨⟨k', e1⟩, h2⟩ := dKind_tup hk
          rcases q with ⟨o, vs, e, r⟩ | ⟨o, vs, e, r⟩
          · obtain ⟨ds, e3⟩ := h2 p kr rfl
            exact (r.tupNot rfl e3).elim
          · obtain ⟨b, ws, rfl, hb, rs⟩ := ry.tupE
            have := rs.keysV e1
            subst this
            exact ⟨H, _, I, Ext.refl, rh, .inr ⟨vs, k', b, .inr ⟨o, e⟩, rfl, hb, rfl⟩, r.look e1⟩
        · have nt : ∀ ks, k ≠ .tup ks := fun ks e => hkt ⟨ks, e⟩
          obtain ⟨k', e1⟩ := dKind_leaf hk nt
          rcases q with ⟨o, vs, e, r⟩ | ⟨o, vs, e, r⟩
          · exact ⟨H, _, I, Ext.refl, rh, .inl ⟨vs, k', .inr ⟨o, e⟩, ry.keyV e1, rfl⟩, r.look e1⟩
          · exact (r.leafNot rfl (dKind_leaf2 hk nt)).elim
end
def inL (hp : Hd) (x : D) (ys : List D) : Option Bool := match pyF hp 16 x, mapO (pyF hp 15) ys with
  | some d, some ds => if (SeqAt.shaped d && SeqAt.shaped (.list ds)) = true then some (ds.any fun z => PyData.eqv z d) else none
  | _, _ => none
def flatD : D → Bool
  | .non => true
  | .bl _ => true
  | .int _ => true
  | .str _ => true
  | _ => false
def eqF : D → D → Bool
  | .non, .non => true
  | .bl a, .bl b => a == b
  | .bl a, .int b => (if a then 1 else 0) == b
  | .int a, .bl b => a == (if b then 1 else 0)
  | .int a, .int b => a == b
  | .str a, .str b => a == b
  | _, _ => false
def inB (x y : D) (hp : Hd) : Option Bool := match y with
  | .ref n => match hp[n]? with
    | some (.lst ys) => inL hp x ys
    | some o => match dicOf o with
      | some kvs => if dKind kvs x = true then some (look kvs x).isSome else none
      | none => none
    | none => none
  | .tup ys => if (flatD x && ys.all flatD) = true then some (ys.any fun z => eqF z x) else inL hp x ys
  | .wt ys => inL hp x ys
  | .str z => match x with
    | .str c => some (!(Builtin.Str.occurrences z c 0 z.length 1).isEmpty)
    | _ => none
  | _ => none
def gIn (x y : D) (hp : Hd) : Option (D × Hd) := match inB x y hp with
  | some b => some (.bl b, hp)
  | none => none
def gNotIn (x y : D) (hp : Hd) : Option (D × Hd) := match inB x y hp with
  | some b => some (.bl (!b), hp)
  | none => none
section
variable {X : Cx}
theorem Rp.flat {K : PySem.W.Frag} {H : Hp} {μ : List Addr} {d : D} {v : V} (f : flatD d = true) (r : Rp K H μ d v) : flatV v = true ∧ ∀ e w, flatD e = true → Rp K H μ e w → eqV v w = eqF d e := by
  cases d <;> simp only [flatD] at f <;> try (cases f; done)
  · cases r.nonE
    refine ⟨rfl, fun e w fe re => ?_⟩
    cases e <;> simp only [flatD] at fe <;> try (cases fe; done)
    · cases re.nonE; rfl
    · cases re.blE; rfl
    · cases re.intE; rfl
    · cases re.strE; rfl
  · cases r.blE
    refine ⟨rfl, fun e w fe re => ?_⟩
    cases e <;> simp only [flatD] at fe <;> try (cases fe; done)
    · cases re.nonE; rfl
    · cases re.blE; rfl
    · cases re.intE; rfl
    · cases re.strE; rfl
  · cases r.intE
    refine ⟨rfl, fun e w fe re => ?_⟩
    cases e <;> simp only [flatD] at fe <;> try (cases fe; done)
    · cases re.nonE; rfl
    · cases re.blE; rfl
    · cases re.intE; rfl
    · cases re.strE; rfl
  · cases r.strE
    refine ⟨rfl, fun e w fe re => ?_⟩
    cases e <;> simp only [flatD] at fe <;> try (cases fe; done)
    · cases re.nonE; rfl
    · cases re.blE; rfl
    · cases re.intE; rfl
    · cases re.strE; rfl
theorem Rps.flats {K : PySem.W.Frag} {H : Hp} {μ : List Addr} {e : D} {w : V} (fe : flatD e = true) (re : Rp K H μ e w) : ∀ {ds : List D} {vs : List V}, ds.all flatD = true → Rps K H μ ds vs → vs.all flatV = true ∧ (vs.any fun y => eqV y w) = ds.any fun z => eqF z e
  | [], vs, _, r => by
    rw [Rps] at r
    subst r
    exact ⟨rfl, rfl⟩
  | d :: ds, vs, f, r => by
    rw [Rps] at r
    obtain ⟨v, x, rfl, r1, r2⟩ := r
    rw [List.all_cons, Bool.and_eq_true] at f
    obtain ⟨h1, h2⟩ := r1.flat f.1
    obtain ⟨h3, h4⟩ := Rps.flats fe re f.2 r2
    exact ⟨by rw [List.all_cons, h1, h3]; rfl, by rw [List.any_cons, List.any_cons, h4, h2 e w fe re]⟩
theorem dpAll_of {K : PySem.W.Frag} {H : Hp} {μ : List Addr} {hp : Hd} (rh : RelH K H μ hp) {n : Nat} : ∀ (ds : List D) (ps : List PyData) (vs : List V), mapO (pyF hp n) ds = some ps → Rps K H μ ds vs → DpAll K H vs ps
  | [], ps, vs, h, r => by
    rw [Rps] at r
    simp only [mapO] at h
    cases h
    subst r
    exact .nil
  | d :: ds, ps, vs, h, r => by
    rw [Rps] at r
    obtain ⟨v, w, e, r1, r2⟩ := r
    subst e
    simp only [mapO] at h
    split at h
    · rename_i y ys e1 e2
      cases h
      exact .cons (pyF_dp rh n d y v e1 r1) (dpAll_of rh _ _ _ e2 r2)
    · cases h
theorem inL_some {hp : Hd} {x : D} {ys : List D} {b : Bool} (h : inL hp x ys = some b) : ∃ d ds, pyF hp 16 x = some d ∧ mapO (pyF hp 15) ys = some ds ∧ SeqAt.shaped d = true ∧ SeqAt.shaped (.list ds) = true ∧ b = ds.any fun z => PyData.eqv z d := by
  unfold inL at h
  split at h
  · rename_i d ds e1 e2
    split at h
    · rename_i hs
      rw [Bool.and_eq_true] at hs
      cases h
      exact ⟨d, ds, e1, e2, hs.1, hs.2, rfl⟩
    · cases h
  · cases h
theorem o_in (hu : X.A.units + 65 < cLine) : OpR X (compareOp .In) (RD X.K gIn) := fun pins s σ H x y v u Q I rx ry ⟨hp, μ, d1, d2, d, hp', rh, r1, r2, e, q⟩ => by
  unfold gIn at e
  split at e
  · rename_i b eb
    cases e
    unfold inB at eb
    split at eb
    · rename_i n
      obtain ⟨a, ea, rfl⟩ := r2.refE
      split at eb
      · rename_i ys e2
        obtain ⟨d, ds, e3, e4, s1, s2, rfl⟩ := inL_some eb
        obtain ⟨vs, ev, rv⟩ := rh.lst ea e2
        exact op_inD hu pins s σ H x _ v u Q I rx ry ⟨d, ds, pyF_dp rh _ _ _ _ e3 r1, .lst (.inl (.inl ev)) (dpAll_of rh _ _ _ e4 rv), s1, s2, q _ H μ Ext.refl rh Rp.bl⟩
      · rename_i o e2
        split at eb
        · rename_i kvs eo
          split at eb
          · rename_i hk
            cases eb
            obtain ⟨H', r, I', x', rh', g, ro⟩ := dic_get I rh ea e2 eo hk r1
            obtain rfl : u = Value.ref a := ry
            refine d_in (by omega) I' g rx fun s' I2 => ?_
            have hr : r.isSome = (look kvs d1).isSome := by
              cases h1 : look kvs d1 <;> cases h2 : r <;> rw [h1, h2] at ro <;> first | rfl | exact ro.elim
            rw [hr]
            exact ⟨.bl _, H', I2, rfl, q _ H' μ x' rh' Rp.bl⟩
          · cases eb
        · cases eb
      · cases eb
    · rename_i ys
      split at eb
      · rename_i hf
        rw [Bool.and_eq_true] at hf
        cases eb
        obtain ⟨a, vs, rfl, ta, ra⟩ := r2.tupE
        obtain ⟨f1, _⟩ := r1.flat hf.1
        obtain ⟨f2, f3⟩ := Rps.flats hf.1 r1 hf.2 ra
        refine op_in_seq pins s σ H x _ v u Q I rx ry ⟨a, vs, rfl, .inr ta.sq, f1, f2, ?_⟩
        rw [if_neg (by decide)]
        unfold inV
        rw [f3]
        exact q _ H μ Ext.refl rh Rp.bl
      · obtain ⟨d, ds, e3, e4, s1, s2, rfl⟩ := inL_some eb
        obtain ⟨a, vs, rfl, ta, ra⟩ := r2.tupE
        have dp2 : Dp X.K H (.ref a) (.tuple ds) := .tup ta.sq (dpAll_of rh _ _ _ e4 ra)
        obtain ⟨as, q1⟩ := Dp.reads I d x v (pyF_dp rh _ _ _ _ e3 r1) rx
        obtain ⟨bs, q2⟩ := Dp.reads I (.tuple ds) _ u dp2 ry
        exact SeqAt.in_tuple_reads q2 q1 (SeqAt.canLay_of_shaped s2) (SeqAt.canLay_of_shaped s1) (PyProof.Rows.room_in_shaped s1 hu) ⟨.bl _, H, I, rfl, q _ H μ Ext.refl rh Rp.bl⟩
    · rename_i ys
      obtain ⟨d, ds, e3, e4, s1, s2, rfl⟩ := inL_some eb
      obtain ⟨a, vs, rfl, ta, ra⟩ := r2.wtE
      have dp2 : Dp X.K H (.ref a) (.tuple ds) := .tup ta.sq (dpAll_of rh _ _ _ e4 ra)
      obtain ⟨as, q1⟩ := Dp.reads I d x v (pyF_dp rh _ _ _ _ e3 r1) rx
      obtain ⟨bs, q2⟩ := Dp.reads I (.tuple ds) _ u dp2 ry
      exact SeqAt.in_tuple_reads q2 q1 (SeqAt.canLay_of_shaped s2) (SeqAt.canLay_of_shaped s1) (PyProof.Rows.room_in_shaped s1 hu) ⟨.bl _, H, I, rfl, q _ H μ Ext.refl rh Rp.bl⟩
    · rename_i z
      split at eb
      · rename_i c
        cases eb
        exact op_in_str pins s σ H x y v u Q I rx ry ⟨_, _, r1.strE, r2.strE, q _ H μ Ext.refl rh Rp.bl⟩
      · cases eb
    · cases eb
  · cases e
theorem o_notIn (hu : X.A.units + 65 < cLine) : OpR X (compareOp .NotIn) (RD X.K gNotIn) := fun pins s σ H x y v u Q I rx ry ⟨hp, μ, d1, d2, d, hp', rh, r1, r2, e, q⟩ => by
  unfold gNotIn at e
  split at e
  · rename_i b eb
    cases e
    unfold inB at eb
    split at eb
    · rename_i n
      obtain ⟨a, ea, rfl⟩ := r2.refE
      split at eb
      · rename_i ys e2
        obtain ⟨d, ds, e3, e4, s1, s2, rfl⟩ := inL_some eb
        obtain ⟨vs, ev, rv⟩ := rh.lst ea e2
        exact op_notInD hu pins s σ H x _ v u Q I rx ry ⟨d, ds, pyF_dp rh _ _ _ _ e3 r1, .lst (.inl (.inl ev)) (dpAll_of rh _ _ _ e4 rv), s1, s2, q _ H μ Ext.refl rh Rp.bl⟩
      · rename_i o e2
        split at eb
        · rename_i kvs eo
          split at eb
          · rename_i hk
            cases eb
            obtain ⟨H', r, I', x', rh', g, ro⟩ := dic_get I rh ea e2 eo hk r1
            obtain rfl : u = Value.ref a := ry
            refine d_notIn (by omega) I' g rx fun s' I2 => ?_
            have hr : r.isSome = (look kvs d1).isSome := by
              cases h1 : look kvs d1 <;> cases h2 : r <;> rw [h1, h2] at ro <;> first | rfl | exact ro.elim
            rw [hr]
            exact ⟨.bl _, H', I2, rfl, q _ H' μ x' rh' Rp.bl⟩
          · cases eb
        · cases eb
      · cases eb
    · rename_i ys
      split at eb
      · rename_i hf
        rw [Bool.and_eq_true] at hf
        cases eb
        obtain ⟨a, vs, rfl, ta, ra⟩ := r2.tupE
        obtain ⟨f1, _⟩ := r1.flat hf.1
        obtain ⟨f2, f3⟩ := Rps.flats hf.1 r1 hf.2 ra
        refine op_notIn_seq pins s σ H x _ v u Q I rx ry ⟨a, vs, rfl, .inr ta.sq, f1, f2, ?_⟩
        rw [if_pos rfl]
        unfold inV
        rw [f3]
        exact q _ H μ Ext.refl rh Rp.bl
      · obtain ⟨d, ds, e3, e4, s1, s2, rfl⟩ := inL_some eb
        obtain ⟨a, vs, rfl, ta, ra⟩ := r2.tupE
        have dp2 : Dp X.K H (.ref a) (.tuple ds) := .tup ta.sq (dpAll_of rh _ _ _ e4 ra)
        obtain ⟨as, q1⟩ := Dp.reads I d x v (pyF_dp rh _ _ _ _ e3 r1) rx
        obtain ⟨bs, q2⟩ := Dp.reads I (.tuple ds) _ u dp2 ry
        exact SeqAt.notIn_tuple_reads q2 q1 (SeqAt.canLay_of_shaped s2) (SeqAt.canLay_of_shaped s1) (PyProof.Rows.room_in_shaped s1 hu) ⟨.bl _, H, I, rfl, q _ H μ Ext.refl rh Rp.bl⟩
    · rename_i ys
      obtain ⟨d, ds, e3, e4, s1, s2, rfl⟩ := inL_some eb
      obtain ⟨a, vs, rfl, ta, ra⟩ := r2.wtE
      have dp2 : Dp X.K H (.ref a) (.tuple ds) := .tup ta.sq (dpAll_of rh _ _ _ e4 ra)
      obtain ⟨as, q1⟩ := Dp.reads I d x v (pyF_dp rh _ _ _ _ e3 r1) rx
      obtain ⟨bs, q2⟩ := Dp.reads I (.tuple ds) _ u dp2 ry
      exact SeqAt.notIn_tuple_reads q2 q1 (SeqAt.canLay_of_shaped s2) (SeqAt.canLay_of_shaped s1) (PyProof.Rows.room_in_shaped s1 hu) ⟨.bl _, H, I, rfl, q _ H μ Ext.refl rh Rp.bl⟩
    · rename_i z
      split at eb
      · rename_i c
        cases eb
        exact op_notin_str pins s σ H x y v u Q I rx ry ⟨_, _, r1.strE, r2.strE, q _ H μ Ext.refl rh Rp.bl⟩
      · cases eb
    · cases eb
  · cases e
end
end Ve
namespace Ve
open PySem PySem.Spec L2
theorem PE.or {X : Cx} {e : Expr} {t t' : TE} (h : PE X e t) (h' : PE X e t') : PE X e (fun σ H Q => t σ H Q ∨ t' σ H Q) := ⟨fun pins s σ H Q I q => q.elim (h.run pins s σ H Q I) (h'.run pins s σ H Q I)⟩
def gIx (x y : D) (hp : Hd) : Option (D × Hd) := match x with
  | .tup ds => match y with
    | .int i => match atI ds i with
      | some d => some (d, hp)
      | none => none
    | _ => none
  | .wt ds => match y with
    | .int i => match atI ds i with
      | some d => some (d, hp)
      | none => none
    | _ => none
  | .scr ns => match y with
    | .int i => match atI ns i with
      | some d => some (.int d, hp)
      | none => none
    | _ => none
  | .str z => match y with
    | .int i => if z.length ≤ sizeLine then match atI z.cps.toList i with
      | some c => some (.str ⟨#[c]⟩, hp)
      | none => none else none
    | _ => none
  | .ref n => match hp[n]? with
    | some (.lst ds) => match y with
      | .int i => match atI ds i with
        | some d => some (d, hp)
        | none => none
      | _ => none
    | some o => match dicOf o with
      | some kvs => if dKind kvs y = true then match look kvs y with
        | some d => some (d, hp)
        | none => none else none
      | none => none
    | none => none
  | _ => none
theorem atI_rps {K : PySem.W.Frag} {H : Hp} {μ : List Addr} {ds : List D} {vs : List V} {i : Int} {d : D} (r : Rps K H μ ds vs) (h : atI ds i = some d) : ∃ v, atI vs i = some v ∧ Rp K H μ d v := by
  unfold atI at h ⊢
  rw [r.len]
  cases e : ixN ds.length i with
  | none => rw [e] at h; cases h
  | some j =>
    rw [e] at h
    obtain ⟨v, e2, r2⟩ := r.get h
    exact ⟨v, e2, r2⟩
theorem atI_map {α β : Type} (f : α → β) {xs : List α} {i : Int} {x : α} (h : atI xs i = some x) : atI (xs.map f) i = some (f x) := by
  unfold atI at h ⊢
  rw [List.length_map]
  cases e : ixN xs.length i with
  | none => rw [e] at h; cases h
  | some j =>
    rw [e] at h
    show (xs.map f)[j]? = _
    rw [List.getElem?_map, show xs[j]? = some x from h]
    rfl
section
variable {X : Cx} {e a b : Expr} {es : List Expr} {fa fb : AE} {fl : AA} {ft : AT} {fr : AA} {pos : Pos}
theorem m2_some {g : D → D → Hd → Option (D × Hd)} {ls : Ls} {hp hp' : Hd} {d : D} (h : m2 fa fb g ls hp = some (d, hp')) : ∃ d1 hp1 d2 hp2, fa ls hp = some (d1, hp1) ∧ fb ls hp1 = some (d2, hp2) ∧ g d1 d2 hp2 = some (d, hp') := by
  unfold m2 at h
  cases e1 : fa ls hp with
  | none => rw [e1] at h; cases h
  | some p1 =>
    obtain ⟨d1, hp1⟩ := p1
    rw [e1] at h
    dsimp only at h
    cases e2 : fb ls hp1 with
    | none => rw [e2] at h; cases h
    | some p2 =>
      obtain ⟨d2, hp2⟩ := p2
      rw [e2] at h
      exact ⟨d1, hp1, d2, hp2, rfl, e2, h⟩
theorem de_ix (hu : X.A.units + 1 < cLine) (ha : DE X a fa) (hb : DE X b fb) (hs : PlainIx b := by intro _ _; rfl) : DE X (.Subscript a b pos) (m2 fa fb gIx) :=
  PE.imp (PE.or (pe_ix ix_seq ha hb hs) (pe_dget hu ha hb hs)) fun σ H Q ⟨ls, hp, μ, d, hp', rl, rh, e, q⟩ => by
    obtain ⟨d1, hp1, d2, hp2, e1, e2, e3⟩ := m2_some e
    unfold gIx at e3
    cases d1 <;> try (cases e3; done)
    · rename_i z
      dsimp only at e3
      cases d2 <;> try (cases e3; done)
      rename_i i
      dsimp only at e3
      split at e3
      · rename_i hz
        split at e3
        · rename_i c ec
          cases e3
          refine .inl ⟨ls, hp, μ, _, hp1, rl, rh, e1, fun v1 H1 μ1 x1 rh1 r1 => ⟨ls, hp1, μ1, _, _, rl.ext x1, rh1, e2, fun v2 H2 μ2 x2 rh2 r2 => .inr (.inr ⟨z, i, c, r1.strE, r2.intE, hz, ec, q _ H2 μ2 (x1.trans x2) rh2 Rp.str⟩)⟩⟩
        · cases e3
      · cases e3
    · rename_i ds
      dsimp only at e3
      cases d2 <;> try (cases e3; done)
      rename_i i
      dsimp only at e3
      split at e3
      · rename_i d' ed
        cases e3
        refine .inl ⟨ls, hp, μ, _, hp1, rl, rh, e1, fun v1 H1 μ1 x1 rh1 r1 => ⟨ls, hp1, μ1, _, _, rl.ext x1, rh1, e2, fun v2 H2 μ2 x2 rh2 r2 => ?_⟩⟩
        obtain ⟨p, vs, rfl, t, rs⟩ := (r1.ext x2).tupE
        obtain ⟨v, ev, rv⟩ := atI_rps rs ed
        exact .inr (.inl ⟨p, vs, i, v, rfl, r2.intE, t.sq, ev, q _ H2 μ2 (x1.trans x2) rh2 rv⟩)
      · cases e3
    · rename_i n
      dsimp only at e3
      split at e3
      · rename_i ds eh
        cases d2 <;> try (cases e3; done)
        rename_i i
        dsimp only at e3
        split at e3
        · rename_i d' ed
          cases e3
          refine .inl ⟨ls, hp, μ, _, hp1, rl, rh, e1, fun v1 H1 μ1 x1 rh1 r1 => ⟨ls, hp1, μ1, _, _, rl.ext x1, rh1, e2, fun v2 H2 μ2 x2 rh2 r2 => ?_⟩⟩
          obtain ⟨p, ep, rfl⟩ := (r1.ext x2).refE
          obtain ⟨vs, evs, rs⟩ := rh2.lst ep eh
          obtain ⟨v, ev, rv⟩ := atI_rps rs ed
          exact .inl ⟨p, vs, i, v, rfl, r2.intE, .inl (.inl evs), ev, q _ H2 μ2 (x1.trans x2) rh2 rv⟩
        · cases e3
      · rename_i o _ eh
        split at e3
        · rename_i kvs eo
          split at e3
          · rename_i hk
            split at e3
            · rename_i d' ed
              cases e3
              refine .inr ⟨ls, hp, μ, _, hp1, rl, rh, e1, fun v1 H1 μ1 x1 rh1 r1 => ⟨ls, hp1, μ1, _, _, rl.ext x1, rh1, e2, fun v2 H2 μ2 x2 rh2 r2 => ?_⟩⟩
              obtain ⟨p, ep, rfl⟩ := (r1.ext x2).refE
              have ne : kvs ≠ [] := fun z => by
                subst z
                simp [look] at ed
              have key : ∃ v, DGet H2 p v2 (some v) ∧ Rp X.K H2 μ2 d v := by
                cases o with
                | lst xs => simp [dicOf] at eo
                | dicN ks => simp [dicOf] at eo
                | dicM ks => simp [dicOf] at eo
                | ins c kvs => simp [dicOf] at eo
                | exc c => simp [dicOf] at eo
                | tab c => simp [dicOf] at eo
                | dic kvs' =>
                  simp only [dicOf] at eo
                  cases eo
                  obtain ⟨nd, qd⟩ := rh2.dic ep eh
                  cases kvs with
                  | nil => exact absurd rfl ne
                  | cons pr kr =>
                    by_cases hkt : ∃ ks, d2 = .tup ks
                    · obtain ⟨ks, rfl⟩ := hkt
                      obtain ⟨⟨k', ek⟩, h2⟩ := dKind_tup hk
                      rcases qd with ⟨vs, ev, r⟩ | ⟨vs, ev, r⟩
                      · obtain ⟨ds, e5⟩ := h2 pr kr rfl
                        exact (r.tupNot rfl e5).elim
                      · obtain ⟨b, ws, rfl, hb, rs⟩ := r2.tupE
                        have := rs.keysV ek
                        subst this
                        have ro := r.look ek
                        rw [ed] at ro
                        cases h : valV vs k' with
                        | none => rw [h] at ro; exact ro.elim
                        | some v =>
                          rw [h] at ro
                          exact ⟨v, .inr ⟨vs, k', b, .inl ev, rfl, hb, h.symm⟩, ro⟩
                    · have nt : ∀ ks, d2 ≠ .tup ks := fun ks z => hkt ⟨ks, z⟩
                      obtain ⟨k', ek⟩ := dKind_leaf hk nt
                      rcases qd with ⟨vs, ev, r⟩ | ⟨vs, ev, r⟩
                      · have ro := r.look ek
                        rw [ed] at ro
                        cases h : valV vs k' with
                        | none => rw [h] at ro; exact ro.elim
                        | some v =>
                          rw [h] at ro
                          exact ⟨v, .inl ⟨vs, k', .inl ev, r2.keyV ek, h.symm⟩, ro⟩
                      · exact (r.leafNot rfl (dKind_leaf2 hk nt)).elim
                | dicL kvs' =>
                  simp only [dicOf] at eo
                  split at eo
                  · cases eo
                  · cases eo
                    obtain ⟨nd, qd⟩ := rh2.dicL ep eh
                    cases kvs with
                    | nil => exact absurd rfl ne
                    | cons pr kr =>
                      by_cases hkt : ∃ ks, d2 = .tup ks
                      · obtain ⟨ks, rfl⟩ := hkt
                        obtain ⟨⟨k', ek⟩, h2⟩ := dKind_tup hk
                        rcases qd with ⟨ob, vs, ev, r⟩ | ⟨ob, vs, ev, r⟩
                        · obtain ⟨ds, e5⟩ := h2 pr kr rfl
                          exact (r.tupNot rfl e5).elim
                        · obtain ⟨b, ws, rfl, hb, rs⟩ := r2.tupE
                          have := rs.keysV ek
                          subst this
                          have ro := r.look ek
                          rw [ed] at ro
                          cases h : valV vs k' with
                          | none => rw [h] at ro; exact ro.elim
                          | some v =>
                            rw [h] at ro
                            exact ⟨v, .inr ⟨vs, k', b, .inr ⟨ob, ev⟩, rfl, hb, h.symm⟩, ro⟩
                      · have nt : ∀ ks, d2 ≠ .tup ks := fun ks z => hkt ⟨ks, z⟩
                        obtain ⟨k', ek⟩ := dKind_leaf hk nt
                        rcases qd with ⟨ob, vs, ev, r⟩ | ⟨ob, vs, ev, r⟩
                        · have ro := r.look ek
                          rw [ed] at ro
                          cases h : valV vs k' with
                          | none => rw [h] at ro; exact ro.elim
                          | some v =>
                            rw [h] at ro
                            exact ⟨v, .inl ⟨vs, k', .inr ⟨ob, ev⟩, r2.keyV ek, h.symm⟩, ro⟩
                        · exact (r.leafNot rfl (dKind_leaf2 hk nt)).elim
              obtain ⟨v, g, rv⟩ := key
              exact ⟨p, v, rfl, g, q v H2 μ2 (x1.trans x2) rh2 rv⟩
            · cases e3
          · cases e3
        · cases e3
      · cases e3
    · rename_i ns
      dsimp only at e3
      cases d2 <;> try (cases e3; done)
      rename_i i
      dsimp only at e3
      split at e3
      · rename_i d' ed
        cases e3
        refine .inl ⟨ls, hp, μ, _, hp1, rl, rh, e1, fun v1 H1 μ1 x1 rh1 r1 => ⟨ls, hp1, μ1, _, _, rl.ext x1, rh1, e2, fun v2 H2 μ2 x2 rh2 r2 => ?_⟩⟩
        obtain ⟨p, rfl, sc⟩ := (r1.ext x2).scrE
        exact .inl ⟨p, _, i, .int d', rfl, r2.intE, sc.sq, atI_map V.int ed, q _ H2 μ2 (x1.trans x2) rh2 Rp.int⟩
      · cases e3
    · rename_i ds
      dsimp only at e3
      cases d2 <;> try (cases e3; done)
      rename_i i
      dsimp only at e3
      split at e3
      · rename_i d' ed
        cases e3
        refine .inl ⟨ls, hp, μ, _, hp1, rl, rh, e1, fun v1 H1 μ1 x1 rh1 r1 => ⟨ls, hp1, μ1, _, _, rl.ext x1, rh1, e2, fun v2 H2 μ2 x2 rh2 r2 => ?_⟩⟩
        obtain ⟨p, vs, rfl, t, rs⟩ := (r1.ext x2).wtE
        obtain ⟨v, ev, rv⟩ := atI_rps rs ed
        exact .inr (.inl ⟨p, vs, i, v, rfl, r2.intE, t.sq, ev, q _ H2 μ2 (x1.trans x2) rh2 rv⟩)
      · cases e3
def gSet (x y v : D) (hp : Hd) : Option Hd := match x with
  | .ref n => match hp[n]? with
    | some (.lst ds) => match y with
      | .int i => match ixN ds.length i with
        | some j => some (hp.set n (.lst (ds.set j v)))
        | none => none
      | _ => none
    | some (.dic kvs) => if (dKind kvs y && decide (kvs.length < sizeLine)) = true then some (hp.set n (.dic (putD kvs y v))) else none
    | _ => none
  | _ => none
def rSetD (K : PySem.W.Frag) : TSet := fun x y v H Q => ∃ hp μ dx dy dv hp', RelH K H μ hp ∧ Rp K H μ dx x ∧ Rp K H μ dy y ∧ Rp K H μ dv v ∧ gSet dx dy dv hp = some hp' ∧
  ∀ H', Ext μ H μ H' → RelH K H' μ hp' → Q H'
theorem Rps.set {K : PySem.W.Frag} {H : Hp} {μ : List Addr} {d : D} {v : V} (rv : Rp K H μ d v) : ∀ {ds : List D} {vs : List V} (j : Nat), Rps K H μ ds vs → Rps K H μ (ds.set j d) (vs.set j v)
  | [], vs, j, h => by
    rw [Rps] at h
    subst h
    exact Rps.nil
  | x :: xs, vs, j, h => by
    rw [Rps] at h
    obtain ⟨w, r, rfl, h1, h2⟩ := h
    cases j with
    | zero =>
      rw [List.set_cons_zero, List.set_cons_zero, Rps]
      exact ⟨v, r, rfl, rv, h2⟩
    | succ j =>
      rw [List.set_cons_succ, List.set_cons_succ, Rps]
      exact ⟨w, _, rfl, h1, Rps.set rv j h2⟩
theorem set_any (hu : X.A.units + 1 < cLine) : PSet X (rSetD X.K) := by
  intro pins s σ H o i v ov iv u Q I ro ri rv h
  obtain ⟨hp, μ, dx, dy, dv, hp', rh, rx, ry, rw', e, q⟩ := h
  unfold gSet at e
  cases dx <;> try (cases e; done)
  rename_i n
  dsimp only at e
  obtain ⟨a, ea, rfl⟩ := rx.refE
  split at e
  · rename_i ds eh
    cases dy <;> try (cases e; done)
    rename_i k
    dsimp only at e
    split at e
    · rename_i j ej
      cases e
      obtain ⟨vs, ev, rs⟩ := rh.lst ea eh
      have x0 : Mon μ H μ (upd H a (.lst (vs.set j v))) := Mon.loose ev
      obtain ⟨r1, x1⟩ := rh.put (o := .lst (ds.set j dv)) (u := .lst (vs.set j v)) ea ⟨_, rfl, (rs.set rw' j).mon x0⟩
      exact set_list pins s σ H _ i v ov iv u Q I ro ri rv ⟨a, vs, k, j, rfl, ry.intE, ev, by rw [rs.len]; exact ej, q _ x1 r1⟩
    · cases e
  · rename_i kvs eh
    split at e
    · rename_i hk
      rw [Bool.and_eq_true] at hk
      have hl := of_decide_eq_true hk.2
      cases e
      obtain ⟨H1, I1, x1, rh1, nd, c⟩ := dic_kind I rh ea eh hk.1
      obtain rfl : ov = Value.ref a := ro
      rcases c with ⟨nt, vs, ev, r⟩ | ⟨⟨ks, rfl⟩, vs, ev, r⟩
      · obtain ⟨k', ek⟩ := dKind_leaf hk.1 nt
        have hv := ry.keyV ek
        subst hv
        have x0 : Mon μ H1 μ (upd H1 a (.dK (putK vs k' v))) := ⟨⟨[], by simp⟩, fun b xs e => by rw [upd_ne (fun z => by subst z; rw [ev] at e; cases e)]; exact e, fun b ob xs _ e => by rw [upd_ne (fun z => by subst z; rw [ev] at e; cases e)]; exact e⟩
        obtain ⟨r2, x2⟩ := rh1.put (o := .dic (putD kvs dy dv)) (u := .dK (putK vs k' v)) ea ⟨nd.put, .inl ⟨_, rfl, (r.put ek (rw'.ext x1) nd).mon x0⟩⟩
        exact d_setItem hu I1 (DPut.k ev (by rw [r.len]; exact hl)) ri rv fun s' I2 => ⟨_, I2, q _ (x1.trans x2) r2⟩
      · obtain ⟨⟨k', ek⟩, _⟩ := dKind_tup hk.1
        obtain ⟨b, ws, rfl, hb, rs⟩ := (ry.ext x1).tupE
        have := rs.keysV ek
        subst this
        have x0 : Mon μ H1 μ (upd H1 a (.dT (putK vs k' v))) := ⟨⟨[], by simp⟩, fun b xs e => by rw [upd_ne (fun z => by subst z; rw [ev] at e; cases e)]; exact e, fun b ob xs _ e => by rw [upd_ne (fun z => by subst z; rw [ev] at e; cases e)]; exact e⟩
        obtain ⟨r2, x2⟩ := rh1.put (o := .dic (putD kvs (.tup ks) dv)) (u := .dT (putK vs k' v)) ea ⟨nd.put, .inr ⟨_, rfl, (r.put ek (rw'.ext x1) nd).mon x0⟩⟩
        exact d_setItem hu I1 (DPut.t ev hb (by rw [r.len]; exact hl)) ri rv fun s' I2 => ⟨_, I2, q _ (x1.trans x2) r2⟩
    · cases e
  · cases e
def sStore (fe fo fi : AE) : AS := fun ls hp => match fe ls hp with
  | some (v, hp1) => match fo ls hp1 with
    | some (x, hp2) => match fi ls hp2 with
      | some (y, hp3) => match gSet x y v hp3 with
        | some hp4 => some (.nx, ls, hp4)
        | none => none
      | none => none
    | none => none
  | none => none
theorem ds_store {o i : Expr} {fe fo fi : AE} {pos' : Pos} (hu : X.A.units + 1 < cLine) (he : DE X e fe) (ho : DE X o fo) (hi : DE X i fi) (hs : swapsWithSole [.Subscript o i pos'] e pos.line X.env = pure false := by rfl)
    (hsw : swappedStores [.Subscript o i pos'] e X.env = pure none := by rfl) (h1 : (assignEach [.Subscript o i pos'] X.env).map (·.2) = [assign (.Subscript o i pos') X.env] := by rfl)
    (ha : ∀ v, assign (.Subscript o i pos') X.env v = (do
      let ov ← holding [v] (eval o X.env)
      let iv ← holding [v, ov] (eval i X.env)
      standAt pos'
      holding [v, ov, iv] (setItem ov iv v)
      release [v, ov, iv] []) := by intro _; rfl) : DS X (.Assign [.Subscript o i pos'] e pos) (sStore fe fo fi) :=
  PS.imp (ps_asg he (pg_sub ho hi (set_any hu) ha) hs hsw h1) fun Dn σ H ⟨ls, hp, μ, fl, ls', hp', rl, rh, e, q⟩ => by
    unfold sStore at e
    split at e
    · rename_i v hp1 e1
      split at e
      · rename_i x hp2 e2
        split at e
        · rename_i y hp3 e3
          split at e
          · rename_i hp4 e4
            cases e
            exact ⟨ls, hp, μ, v, hp1, rl, rh, e1, fun v1 H1 μ1 x1 rh1 r1 => ⟨ls, hp1, μ1, x, hp2, rl.ext x1, rh1, e2, fun v2 H2 μ2 x2 rh2 r2 => ⟨ls, hp2, μ2, y, hp3, (rl.ext x1).ext x2, rh2, e3, fun v3 H3 μ3 x3 rh3 r3 =>
              ⟨hp3, μ3, x, y, v, hp', rh3, r2.ext x3, r3, (r1.ext x2).ext x3, e4, fun H4 x4 rh4 => q H4 μ3 (((x1.trans x2).trans x3).trans x4) rh4 σ ((((rl.ext x1).ext x2).ext x3).ext x4)⟩⟩⟩⟩
          · cases e
        · cases e
      · cases e
    · cases e
end
end Ve
namespace Ve
open PySem PySem.Spec L2
def mAnd (f g : AT) : AT := fun ls hp => match f ls hp with
  | some (true, hp1) => g ls hp1
  | r => r
def mOr (f g : AT) : AT := fun ls hp => match f ls hp with
  | some (false, hp1) => g ls hp1
  | r => r
def mNot (f : AT) : AT := fun ls hp => match f ls hp with
  | some (b, hp1) => some (!b, hp1)
  | none => none
def mAndV (f g : AE) : AE := fun ls hp => match f ls hp with
  | some (.bl true, hp1) => g ls hp1
  | some (.bl false, hp1) => some (.bl false, hp1)
  | _ => none
def mNotV (f : AE) : AE := fun ls hp => match f ls hp with
  | some (.bl b, hp1) => some (.bl (!b), hp1)
  | _ => none
def mIfE (c : AT) (f g : AE) : AE := fun ls hp => match c ls hp with
  | some (true, hp1) => f ls hp1
  | some (false, hp1) => g ls hp1
  | none => none
section
variable {X : Cx} {e a b c : Expr} {es rest : List Expr} {fa fb fc : AE} {fl fm : AA} {ft fu : AT} {fr : AA} {pos : Pos}
theorem dt_val (h : DE X e fa) (he : ∀ whole, isTrue e X.env whole = (do let v ← whole; standAt e.pos; holding [v] (truthy v)) := by intro _; rfl) : DT X e (mT fa) :=
  PT.imp (pt_val h he) fun σ H Q ⟨ls, hp, μ, b, hp', rl, rh, e, q⟩ => by
    unfold mT at e
    split at e
    · rename_i b' hp1 e1
      cases e
      exact ⟨ls, hp, μ, .bl b, hp', rl, rh, e1, fun v H' μ' x1 rh1 r1 => ⟨b, r1.blE, q H' μ' x1 rh1⟩⟩
    · cases e
theorem dw_and1 (ha : DT X a ft) : DW X (.BoolOp .And [a] pos) ft := pw_and1 ha
theorem dw_or1 (ha : DT X a ft) : DW X (.BoolOp .Or [a] pos) ft := pw_or1 ha
theorem dw_and (ha : DT X a ft) (hb : DW X (.BoolOp .And (b :: rest) pos) fu) : DW X (.BoolOp .And (a :: b :: rest) pos) (mAnd ft fu) :=
  PW.imp (pw_and ha hb) fun σ H Q ⟨ls, hp, μ, r, hp', rl, rh, e, q⟩ => by
    unfold mAnd at e
    cases e1 : ft ls hp with
    | none => rw [e1] at e; cases e
    | some p =>
      obtain ⟨k, hp1⟩ := p
      rw [e1] at e
      refine ⟨ls, hp, μ, k, hp1, rl, rh, e1, fun H1 μ1 x1 rh1 => ?_⟩
      cases k with
      | true => exact iteT ⟨ls, hp1, μ1, r, hp', rl.ext x1, rh1, e, fun H2 μ2 x2 rh2 => q H2 μ2 (x1.trans x2) rh2⟩
      | false =>
        cases e
        exact iteF (q H1 μ1 x1 rh1)
theorem dw_or (ha : DT X a ft) (hb : DW X (.BoolOp .Or (b :: rest) pos) fu) : DW X (.BoolOp .Or (a :: b :: rest) pos) (mOr ft fu) :=
  PW.imp (pw_or ha hb) fun σ H Q ⟨ls, hp, μ, r, hp', rl, rh, e, q⟩ => by
    unfold mOr at e
    cases e1 : ft ls hp with
    | none => rw [e1] at e; cases e
    | some p =>
      obtain ⟨k, hp1⟩ := p
      rw [e1] at e
      refine ⟨ls, hp, μ, k, hp1, rl, rh, e1, fun H1 μ1 x1 rh1 => ?_⟩
      cases k with
      | false => exact iteF ⟨ls, hp1, μ1, r, hp', rl.ext x1, rh1, e, fun H2 μ2 x2 rh2 => q H2 μ2 (x1.trans x2) rh2⟩
      | true =>
        cases e
        exact iteT (q H1 μ1 x1 rh1)
theorem dt_w (h : DW X e ft) : DT X e ft := h.pt
theorem dt_not (ha : DT X a ft) : DT X (.UnaryOp .Not a pos) (mNot ft) :=
  PT.imp (pt_not ha) fun σ H Q ⟨ls, hp, μ, r, hp', rl, rh, e, q⟩ => by
    unfold mNot at e
    split at e
    · rename_i b hp1 e1
      cases e
      exact ⟨ls, hp, μ, b, hp', rl, rh, e1, fun H1 μ1 x1 rh1 => q H1 μ1 x1 rh1⟩
    · cases e
theorem de_one {op} (h : DE X a fa) : DE X (.BoolOp op [a] pos) fa := pe_one h
theorem de_and (ha : DE X a fa) (hb : DE X (.BoolOp .And (b :: rest) pos) fb) : DE X (.BoolOp .And (a :: b :: rest) pos) (mAndV fa fb) :=
  PE.imp (pe_and ha hb) fun σ H Q ⟨ls, hp, μ, r, hp', rl, rh, e, q⟩ => by
    unfold mAndV at e
    split at e
    · rename_i hp1 e1
      exact ⟨ls, hp, μ, _, hp1, rl, rh, e1, fun v H1 μ1 x1 rh1 r1 => ⟨true, r1.blE, iteT ⟨ls, hp1, μ1, r, hp', rl.ext x1, rh1, e, fun v H2 μ2 x2 rh2 r2 => q v H2 μ2 (x1.trans x2) rh2 r2⟩⟩⟩
    · rename_i hp1 e1
      cases e
      exact ⟨ls, hp, μ, _, hp', rl, rh, e1, fun v H1 μ1 x1 rh1 r1 => ⟨false, r1.blE, iteF (q _ H1 μ1 x1 rh1 Rp.bl)⟩⟩
    · cases e
theorem de_not (ha : DE X a fa) : DE X (.UnaryOp .Not a pos) (mNotV fa) :=
  PE.imp (pe_not ha) fun σ H Q ⟨ls, hp, μ, r, hp', rl, rh, e, q⟩ => by
    unfold mNotV at e
    split at e
    · rename_i b hp1 e1
      cases e
      exact ⟨ls, hp, μ, _, hp', rl, rh, e1, fun v H1 μ1 x1 rh1 r1 => ⟨b, r1.blE, q _ H1 μ1 x1 rh1 Rp.bl⟩⟩
    · cases e
theorem de_ifExp (hc : DT X c ft) (ha : DE X a fa) (hb : DE X b fb) : DE X (.IfExp c a b pos) (mIfE ft fa fb) :=
  PE.imp (pe_ifExp hc ha hb) fun σ H Q ⟨ls, hp, μ, r, hp', rl, rh, e, q⟩ => by
    unfold mIfE at e
    split at e
    · rename_i hp1 e1
      exact ⟨ls, hp, μ, true, hp1, rl, rh, e1, fun H1 μ1 x1 rh1 => iteT ⟨ls, hp1, μ1, r, hp', rl.ext x1, rh1, e, fun v H2 μ2 x2 rh2 r2 => q v H2 μ2 (x1.trans x2) rh2 r2⟩⟩
    · rename_i hp1 e1
      exact ⟨ls, hp, μ, false, hp1, rl, rh, e1, fun H1 μ1 x1 rh1 => iteF ⟨ls, hp1, μ1, r, hp', rl.ext x1, rh1, e, fun v H2 μ2 x2 rh2 r2 => q v H2 μ2 (x1.trans x2) rh2 r2⟩⟩
    · cases e
def mChain (fa fb fc : AE) (g g' : D → D → Hd → Option (D × Hd)) : AE := fun ls hp => match fa ls hp with
  | some (x, hp1) => match fb ls hp1 with
    | some (y, hp2) => match g x y hp2 with
      | some (.bl true, hp3) => match fc ls hp3 with
        | some (z, hp4) => g' y z hp4
        | none => none
      | some (.bl false, hp3) => some (.bl false, hp3)
      | _ => none
    | none => none
  | none => none
theorem tChain_of {K : PySem.W.Frag} {g g' : D → D → Hd → Option (D × Hd)} {σ : St} {H : Hp} {Q : VK} (h : tD K (mChain fa fb fc g g') σ H Q) : tChain (RD K g) (RD K g') (tD K fa) (tD K fb) (tD K fc) σ H Q := by
  obtain ⟨ls, hp, μ, d, hp', rl, rh, e, q⟩ := h
  unfold mChain at e
  split at e
  · rename_i x hp1 e1
    split at e
    · rename_i y hp2 e2
      split at e
      · rename_i hp3 e3
        split at e
        · rename_i z hp4 e4
          exact ⟨ls, hp, μ, x, hp1, rl, rh, e1, fun v1 H1 μ1 x1 rh1 r1 => ⟨ls, hp1, μ1, y, hp2, rl.ext x1, rh1, e2, fun v2 H2 μ2 x2 rh2 r2 => ⟨hp2, μ2, x, y, _, hp3, rh2, r1.ext x2, r2, e3, fun v3 H3 μ3 x3 rh3 r3 =>
            ⟨true, r3.blE, iteT ⟨ls, hp3, μ3, z, hp4, ((rl.ext x1).ext x2).ext x3, rh3, e4, fun v4 H4 μ4 x4 rh4 r4 => ⟨hp4, μ4, y, z, d, hp', rh4, (r2.ext x3).ext x4, r4, e, fun v H5 μ5 x5 rh5 r5 => q v H5 μ5 ((((x1.trans x2).trans x3).trans x4).trans x5) rh5 r5⟩⟩⟩⟩⟩⟩
        · cases e
      · rename_i hp3 e3
        cases e
        exact ⟨ls, hp, μ, x, hp1, rl, rh, e1, fun v1 H1 μ1 x1 rh1 r1 => ⟨ls, hp1, μ1, y, hp2, rl.ext x1, rh1, e2, fun v2 H2 μ2 x2 rh2 r2 => ⟨hp2, μ2, x, y, _, hp', rh2, r1.ext x2, r2, e3, fun v3 H3 μ3 x3 rh3 r3 =>
            ⟨false, r3.blE, iteF (q _ H3 μ3 ((x1.trans x2).trans x3) rh3 Rp.bl)⟩⟩⟩⟩
      · cases e
    · cases e
  · cases e
def gIs (x y : D) (hp : Hd) : Option (D × Hd) := match y with
  | .non => match x with
    | .non => some (.bl true, hp)
    | _ => some (.bl false, hp)
  | .bl b => match x with
    | .bl a => some (.bl (decide (a = b)), hp)
    | _ => none
  | _ => none
def gIsNot (x y : D) (hp : Hd) : Option (D × Hd) := match y with
  | .non => match x with
    | .non => some (.bl false, hp)
    | _ => some (.bl true, hp)
  | .bl b => match x with
    | .bl a => some (.bl (!decide (a = b)), hp)
    | _ => none
  | _ => none
theorem Rp.notNon {K : PySem.W.Frag} {H : Hp} {μ : List Addr} {d : D} {v : V} (r : Rp K H μ d v) (h : d ≠ .non) : v ≠ .non := by
  intro e
  subst e
  cases d with
  | non => exact h rfl
  | bl b => exact nomatch r.blE
  | int i => exact nomatch r.intE
  | str x => exact nomatch r.strE
  | tup ds => obtain ⟨a, vs, e, _⟩ := r.tupE; exact nomatch e
  | wt ds => obtain ⟨a, vs, e, _⟩ := r.wtE; exact nomatch e
  | ref n => obtain ⟨a, _, e⟩ := r.refE; exact nomatch e
  | scr ns => obtain ⟨a, e, _⟩ := r.scrE; exact nomatch e
theorem o_is : OpR X (compareOp .Is) (RD X.K gIs) := fun pins s σ H x y v u Q I rx ry ⟨hp, μ, d1, d2, d, hp', rh, r1, r2, e, q⟩ => by
  unfold gIs at e
  split at e
  · split at e
    · cases e
      cases r1.nonE
      cases r2.nonE
      exact op_isN pins s σ H .non .non v u Q I rx ry ⟨rfl, q _ H μ Ext.refl rh Rp.bl⟩
    · rename_i hne
      cases e
      refine op_isN pins s σ H x y v u Q I rx ry ⟨r2.nonE, ?_⟩
      rw [decide_eq_false (r1.notNon fun z => hne z)]
      exact q _ H μ Ext.refl rh Rp.bl
  · split at e
    · cases e
      exact op_is_bl pins s σ H x y v u Q I rx ry ⟨_, _, r1.blE, r2.blE, q _ H μ Ext.refl rh Rp.bl⟩
    · cases e
  · cases e
theorem o_isNot : OpR X (compareOp .IsNot) (RD X.K gIsNot) := fun pins s σ H x y v u Q I rx ry ⟨hp, μ, d1, d2, d, hp', rh, r1, r2, e, q⟩ => by
  unfold gIsNot at e
  split at e
  · split at e
    · cases e
      cases r1.nonE
      cases r2.nonE
      exact op_notN pins s σ H .non .non v u Q I rx ry ⟨rfl, q _ H μ Ext.refl rh Rp.bl⟩
    · rename_i hne
      cases e
      refine op_notN pins s σ H x y v u Q I rx ry ⟨r2.nonE, ?_⟩
      rw [decide_eq_false (r1.notNon fun z => hne z)]
      exact q _ H μ Ext.refl rh Rp.bl
  · split at e
    · cases e
      exact op_isnot_bl pins s σ H x y v u Q I rx ry ⟨_, _, r1.blE, r2.blE, q _ H μ Ext.refl rh Rp.bl⟩
    · cases e
  · cases e
theorem de_glob {x : Str} {v : V} {u : Value} {d : D} (hg : Gl X x) (hm : X.mg x = some u) (r : RelV v u) (hr : ∀ H μ, Rp X.K H μ d v) (hd : (x == ("__debug__" : Str)) = false := by decide) : DE X (.Name x pos) (mC d) := de_c (pe_glob hg hm r hd) hr
theorem de_callB {x : Str} {p : Pos} {id : String} {g : List D → Hd → Option (D × Hd)} (hc : CallR X (.builtin id) (RDs X.K g)) (hg : Gl X x) (hm : X.mg x = none) (hv : bootBuiltins x = some (.builtin id)) (ha : DA X (e :: es) fr) (hn : x ≠ "__name__" := by decide)
    (hdb : (x == ("__debug__" : Str)) = false := by decide) (he : starEach (e :: es) X.env = (false, eval e X.env) :: starEach es X.env := by rfl) (hpl : (backTo pos (starEach es X.env)).any (·.1) = false := by rfl) : DE X (.Call (.Name x p) (e :: es) [] pos) (mAs fr g) :=
  PE.imp (pe_callB hc hg hm hv ha hn hdb he hpl) fun _ _ _ h => tCB_of h
theorem de_callTy {x : Str} {p : Pos} {T : String} {g : List D → Hd → Option (D × Hd)} (hc : CallR X (.type T) (RDs X.K g)) (hg : Gl X x) (hm : X.mg x = none) (hv : bootBuiltins x = some (.type T)) (ha : DA X (e :: es) fr) (hn : x ≠ "__name__" := by decide)
    (hdb : (x == ("__debug__" : Str)) = false := by decide) (he : starEach (e :: es) X.env = (false, eval e X.env) :: starEach es X.env := by rfl) (hpl : (backTo pos (starEach es X.env)).any (·.1) = false := by rfl) : DE X (.Call (.Name x p) (e :: es) [] pos) (mAs fr g) :=
  PE.imp (pe_callTy hc hg hm hv ha hn hdb he hpl) fun _ _ _ h => tCB_of h
def gLen : List D → Hd → Option (D × Hd)
  | [.tup ds], hp => some (.int ds.length, hp)
  | [.wt ds], hp => some (.int ds.length, hp)
  | [.scr ns], hp => some (.int ns.length, hp)
  | [.str z], hp => if z.length ≤ sizeLine then some (.int z.length, hp) else none
  | [.ref n], hp => match hp[n]? with
    | some (.lst ds) => some (.int ds.length, hp)
    | some (.dic ds) => some (.int ds.length, hp)
    | _ => none
  | _, _ => none
theorem Rps.one {K : PySem.W.Frag} {H : Hp} {μ : List Addr} {d : D} {xs : List V} (h : Rps K H μ [d] xs) : ∃ v, xs = [v] ∧ Rp K H μ d v := by
  rw [Rps] at h
  obtain ⟨v, r, rfl, h1, h2⟩ := h
  rw [Rps] at h2
  subst h2
  exact ⟨v, rfl, h1⟩
theorem Rps.two {K : PySem.W.Frag} {H : Hp} {μ : List Addr} {d e : D} {xs : List V} (h : Rps K H μ [d, e] xs) : ∃ v w, xs = [v, w] ∧ Rp K H μ d v ∧ Rp K H μ e w := by
  rw [Rps] at h
  obtain ⟨v, r, rfl, h1, h2⟩ := h
  obtain ⟨w, rfl, h3⟩ := h2.one
  exact ⟨v, w, rfl, h1, h3⟩
theorem c_len : CallR X (.builtin "len") (RDs X.K gLen) := fun pins s σ H xs us Q I r ⟨hp, μ, ds, d, hp', rh, rs, e, q⟩ => by
  unfold gLen at e
  split at e
  · cases e
    obtain ⟨v, rfl, r1⟩ := rs.one
    obtain ⟨a, vs, rfl, t, r2⟩ := r1.tupE
    rw [← r2.len] at q
    exact call_len_seq pins s σ H _ us Q I r ⟨a, vs, rfl, .inr t.sq, q _ H μ Ext.refl rh Rp.int⟩
  · cases e
    obtain ⟨v, rfl, r1⟩ := rs.one
    obtain ⟨a, vs, rfl, t, r2⟩ := r1.wtE
    rw [← r2.len] at q
    exact call_len_seq pins s σ H _ us Q I r ⟨a, vs, rfl, .inr t.sq, q _ H μ Ext.refl rh Rp.int⟩
  · rename_i ns
    cases e
    obtain ⟨v, rfl, r1⟩ := rs.one
    obtain ⟨a, rfl, t⟩ := r1.scrE
    have hl : ((ns.length : Nat) : Int) = ((ns.map V.int).length : Nat) := by rw [List.length_map]
    rw [hl] at q
    exact call_len_seq pins s σ H _ us Q I r ⟨a, _, rfl, .inl t.sq, q _ H μ Ext.refl rh Rp.int⟩
  · split at e
    · rename_i hz
      cases e
      obtain ⟨v, rfl, r1⟩ := rs.one
      cases r1.strE
      exact call_len_str pins s σ H _ us Q I r ⟨_, rfl, hz, q _ H μ Ext.refl rh Rp.int⟩
    · cases e
  · rename_i n
    obtain ⟨v, rfl, r1⟩ := rs.one
    obtain ⟨a, ea, rfl⟩ := r1.refE
    split at e
    · rename_i ds eh
      cases e
      obtain ⟨vs, ev, r2⟩ := rh.lst ea eh
      rw [← r2.len] at q
      exact call_len_seq pins s σ H _ us Q I r ⟨a, vs, rfl, .inl (.inl (.inl ev)), q _ H μ Ext.refl rh Rp.int⟩
    · rename_i kvs eh
      cases e
      obtain ⟨nd, ⟨vs, ev, r2⟩ | ⟨vs, ev, r2⟩⟩ := rh.dic ea eh
      · rw [← r2.len] at q
        obtain ⟨u, rfl, rx⟩ := vals1 r
        obtain rfl : u = .ref a := rx
        exact d_len I (.inl ev) fun t s' I2 => ⟨.int vs.length, H, I2, ⟨_, rfl⟩, q _ H μ Ext.refl rh Rp.int⟩
      · rw [← r2.len] at q
        exact call_len_dT pins s σ H _ us Q I r ⟨a, vs, rfl, ev, q _ H μ Ext.refl rh Rp.int⟩
    · cases e
  · cases e
def gInt : List D → Hd → Option (D × Hd)
  | [.int i], hp => some (.int i, hp)
  | [.bl b], hp => some (.int (if b then 1 else 0), hp)
  | _, _ => none
theorem c_int : CallR X (.type "int") (RDs X.K gInt) := fun pins s σ H xs us Q I r ⟨hp, μ, ds, d, hp', rh, rs, e, q⟩ => by
  unfold gInt at e
  split at e
  · cases e
    obtain ⟨v, rfl, r1⟩ := rs.one
    cases r1.intE
    exact call_int1 pins s σ H _ us Q I r (.inl ⟨_, rfl, q _ H μ Ext.refl rh Rp.int⟩)
  · cases e
    obtain ⟨v, rfl, r1⟩ := rs.one
    cases r1.blE
    exact call_int1 pins s σ H _ us Q I r (.inr ⟨_, rfl, q _ H μ Ext.refl rh Rp.int⟩)
  · cases e
def gMax2 : List D → Hd → Option (D × Hd)
  | [.int i, .int j], hp => some (.int (if j > i then j else i), hp)
  | _, _ => none
def gMin2 : List D → Hd → Option (D × Hd)
  | [.int i, .int j], hp => some (.int (if j < i then j else i), hp)
  | _, _ => none
theorem c_max2 (hc : X.calm = true) : CallR X (.builtin "max") (RDs X.K gMax2) := fun pins s σ H xs us Q I r ⟨hp, μ, ds, d, hp', rh, rs, e, q⟩ => by
  unfold gMax2 at e
  split at e
  · cases e
    obtain ⟨v, w, rfl, r1, r2⟩ := rs.two
    cases r1.intE
    cases r2.intE
    exact call_max2 hc pins s σ H _ us Q I r ⟨_, _, rfl, q _ H μ Ext.refl rh Rp.int⟩
  · cases e
theorem c_min2 (hc : X.calm = true) : CallR X (.builtin "min") (RDs X.K gMin2) := fun pins s σ H xs us Q I r ⟨hp, μ, ds, d, hp', rh, rs, e, q⟩ => by
  unfold gMin2 at e
  split at e
  · cases e
    obtain ⟨v, w, rfl, r1, r2⟩ := rs.two
    cases r1.intE
    cases r2.intE
    exact call_min2 hc pins s σ H _ us Q I r ⟨_, _, rfl, q _ H μ Ext.refl rh Rp.int⟩
  · cases e
def mL (fl : AA) (g : List D → Hd → Option (D × Hd)) : AE := fun ls hp => match fl ls hp with
  | some (ds, hp1) => g ds hp1
  | none => none
def RN (K : PySem.W.Frag) (g : List D → Hd → Option (D × Hd)) : List V → Hp → VK → Prop := fun xs H Q => ∃ hp μ ds vs p d hp', RelH K H μ hp ∧ xs = [.ref p] ∧ p ∉ μ ∧ H p = some (.lst vs) ∧ Rps K H μ ds vs ∧ g ds hp = some (d, hp') ∧
  ∀ v H' μ', Ext μ H μ' H' → RelH K H' μ' hp' → Rp K H' μ' d v → Q v H'
theorem tN_of {K : PySem.W.Frag} {g : List D → Hd → Option (D × Hd)} {σ : St} {H : Hp} {Q : VK} (h : tD K (mL fl g) σ H Q) : tCB (RN K g) (tCons (tL K fl) tNil) σ H Q := by
  obtain ⟨ls, hp, μ, d, hp', rl, rh, e, q⟩ := h
  unfold mL at e
  split at e
  · rename_i ds hp1 e1
    exact ⟨ls, hp, μ, ds, hp1, rl, rh, e1, fun p vs H1 μ1 x1 rh1 h0 hn hl r1 => ⟨hp1, μ1, ds, vs, p, d, hp', rh1, rfl, hn, hl, r1, e, fun v H2 μ2 x2 rh2 r2 => q v H2 μ2 (x1.trans x2) rh2 r2⟩⟩
  · cases e
theorem de_callBL {x : Str} {p : Pos} {id : String} {g : List D → Hd → Option (D × Hd)} (hc : CallR X (.builtin id) (RN X.K g)) (hg : Gl X x) (hm : X.mg x = none) (hv : bootBuiltins x = some (.builtin id)) (ha : LE X e fl) (hn : x ≠ "__name__" := by decide)
    (hdb : (x == ("__debug__" : Str)) = false := by decide) (he : starEach [e] X.env = (false, eval e X.env) :: starEach [] X.env := by rfl) : DE X (.Call (.Name x p) [e] [] pos) (mL fl g) :=
  PE.imp (pe_callB hc hg hm hv (pa_cons ha pa_nil he) hn hdb he rfl) fun _ _ _ h => tN_of h
theorem de_callTyL {x : Str} {p : Pos} {T : String} {g : List D → Hd → Option (D × Hd)} (hc : CallR X (.type T) (RN X.K g)) (hg : Gl X x) (hm : X.mg x = none) (hv : bootBuiltins x = some (.type T)) (ha : LE X e fl) (hn : x ≠ "__name__" := by decide)
    (hdb : (x == ("__debug__" : Str)) = false := by decide) (he : starEach [e] X.env = (false, eval e X.env) :: starEach [] X.env := by rfl) : DE X (.Call (.Name x p) [e] [] pos) (mL fl g) :=
  PE.imp (pe_callTy hc hg hm hv (pa_cons ha pa_nil he) hn hdb he rfl) fun _ _ _ h => tN_of h
def bls? : List D → Option (List Bool)
  | [] => some []
  | .bl b :: r => (bls? r).map (b :: ·)
  | _ :: _ => none
theorem Rps.bls {K : PySem.W.Frag} {H : Hp} {μ : List Addr} : ∀ {ds : List D} {bs : List Bool} {vs : List V}, bls? ds = some bs → Rps K H μ ds vs → vs = bs.map V.bl
  | [], bs, vs, e, h => by
    simp only [bls?] at e
    cases e
    rw [Rps] at h
    rw [h]
    rfl
  | d :: ds, bs, vs, e, h => by
    rw [Rps] at h
    obtain ⟨v, r, rfl, h1, h2⟩ := h
    cases d <;> simp only [bls?] at e <;> try (cases e; done)
    cases e2 : bls? ds with
    | none => rw [e2] at e; cases e
    | some b2 =>
      rw [e2] at e
      cases e
      rw [h1.blE, Rps.bls e2 h2]
      rfl
def gAll (ds : List D) (hp : Hd) : Option (D × Hd) := match bls? ds with
  | some bs => some (.bl (bs.all id), hp)
  | none => none
theorem n_all (hc : X.calm = true) : CallR X (.builtin "all") (RN X.K gAll) := fun pins s σ H xs us Q I r ⟨hp, μ, ds, vs, p, d, hp', rh, ex, hn, hl, rs, e, q⟩ => by
  unfold gAll at e
  split at e
  · rename_i bs eb
    cases e
    subst ex
    have := Rps.bls eb rs
    subst this
    exact cr_all hc pins s σ H _ us Q I r ⟨p, bs, rfl, .inl (.inl hl), q _ H μ Ext.refl rh Rp.bl⟩
  · cases e
def gTup (ds : List D) (hp : Hd) : Option (D × Hd) := some (.tup ds, hp)
theorem n_tuple : CallR X (.type "tuple") (RN X.K gTup) := fun pins s σ H xs us Q I r ⟨hp, μ, ds, vs, p, d, hp', rh, ex, hn, hl, rs, e, q⟩ => by
  unfold gTup at e
  cases e
  subst ex
  refine call_tuple_of pins s σ H _ us Q I r ⟨p, vs, rfl, .inl ⟨.inl (.inl hl), fun l h0 => ?_⟩⟩
  have x2 := Ext.laid rh (o := .tup vs) h0
  exact q _ _ μ x2 (rh.laid h0) (Rp.tup upd_same (rs.ext x2))
def tyN : D → Hd → Option String
  | .non, _ => some "NoneType"
  | .bl _, _ => some "bool"
  | .int _, _ => some "int"
  | .str _, _ => some "str"
  | .tup _, _ => some "tuple"
  | .wt _, _ => some "tuple"
  | .scr _, _ => none
  | .ref n, hp => match hp[n]? with
    | some (.lst _) => some "list"
    | some (.dic _) => some "dict"
    | _ => none
def gIsi (T : String) : List D → Hd → Option (D × Hd)
  | [x], hp => match tyN x hp with
    | some t => match kitB t T with
      | some b => some (.bl b, hp)
      | none => none
    | none => none
  | _, _ => none
def mIsi (T : String) (fa : AE) : AE := fun ls hp => match fa ls hp with
  | some (x, hp1) => gIsi T [x] hp1
  | none => none
theorem de_isi {T : String} {x t : Str} {p p2 : Pos} (hg : Gl X x) (hm : X.mg x = none) (hv : bootBuiltins x = some (.builtin "isinstance")) (ha : DE X e fa) (hgt : Gl X t) (hmt : X.mg t = none) (hvt : bootBuiltins t = some (.type T))
    (hn : x ≠ "__name__" := by decide) (hdb : (x == ("__debug__" : Str)) = false := by decide) (hnt : t ≠ "__name__" := by decide) (hdt : (t == ("__debug__" : Str)) = false := by decide)
    (he : starEach [e, .Name t p2] X.env = (false, eval e X.env) :: starEach [.Name t p2] X.env := by rfl) (he2 : starEach [.Name t p2] X.env = (false, eval (.Name t p2) X.env) :: starEach [] X.env := by rfl)
    (hpl : (backTo pos (starEach [.Name t p2] X.env)).any (·.1) = false := by rfl) : DE X (.Call (.Name x p) [e, .Name t p2] [] pos) (mIsi T fa) :=
  PE.imp (pe_callB call_isi hg hm hv (pa_cons ha (pa_cons (pe_bltn (v := .ty T) hgt hmt hvt rfl hnt hdt) pa_nil he2) he) hn hdb he hpl) fun σ H Q ⟨ls, hp, μ, d, hp', rl, rh, e, q⟩ => by
    unfold mIsi at e
    split at e
    · rename_i x hp1 e1
      unfold gIsi at e
      dsimp only at e
      split at e
      · rename_i t et
        split at e
        · rename_i b eb
          cases e
          refine ⟨ls, hp, μ, x, hp', rl, rh, e1, fun v H1 μ1 x1 rh1 r1 => ?_⟩
          have ty : TyX X.K H1 v (.type t) := by
            cases x <;> simp only [tyN] at et <;> try (cases et; done)
            · cases et; cases r1.nonE; exact .base .non
            · cases et; cases r1.blE; exact .base (.bl _)
            · cases et; cases r1.intE; exact .base (.int _)
            · cases et; cases r1.strE; exact .base (.str _)
            · cases et
              obtain ⟨a, vs, rfl, t, _⟩ := r1.tupE
              exact .base (.tup t)
            · obtain ⟨a, ea, rfl⟩ := r1.refE
              split at et
              · rename_i xs eh
                cases et
                obtain ⟨vs, ev, _⟩ := rh1.lst ea eh
                exact .base (.lst ev)
              · rename_i xs eh
                cases et
                obtain ⟨nd, ⟨vs, ev, r2⟩ | ⟨vs, ev, r2⟩⟩ := rh1.dic ea eh
                · exact .base (.dK ev)
                · exact .base (.dT ev)
              · cases et
            · cases et
              obtain ⟨a, vs, rfl, ⟨o, _, h1⟩ | ⟨o, its, n, h1, h2, _⟩, _⟩ := r1.wtE
              · exact .fTuple h1
              · exact .kTuple h1 h2
          exact ⟨v, .ty T, .type t, .type T, b, rfl, .ty T, ty, kit_ty eb, q _ H1 μ1 x1 rh1 Rp.bl⟩
        · cases e
      · cases e
    · cases e
def isL : D → Hd → Bool
  | .ref n, hp => match hp[n]? with
    | some (.lst _) => true
    | _ => false
  | _, _ => false
theorem isL_some {d : D} {hp : Hd} (h : isL d hp = true) : ∃ n xs, d = .ref n ∧ hp[n]? = some (.lst xs) := by
  unfold isL at h
  split at h
  · rename_i n
    split at h
    · rename_i xs e
      exact ⟨n, _, rfl, e⟩
    · cases h
  · cases h
def mMet (ck : D → Hd → Bool) (fo : AE) (fr : AA) (g : D → List D → Hd → Option (D × Hd)) : AE := fun ls hp => match fo ls hp with
  | some (x, hp1) => if ck x hp1 = true then match fr ls hp1 with
    | some (ds, hp2) => g x ds hp2
    | none => none else none
  | none => none
def RM (K : PySem.W.Frag) (g : D → List D → Hd → Option (D × Hd)) : V → List V → Hp → VK → Prop := fun x xs H Q => ∃ hp μ dx ds d hp', RelH K H μ hp ∧ Rp K H μ dx x ∧ Rps K H μ ds xs ∧ g dx ds hp = some (d, hp') ∧
  ∀ v H' μ', Ext μ H μ' H' → RelH K H' μ' hp' → Rp K H' μ' d v → Q v H'
theorem isL_ty {K : PySem.W.Frag} {H : Hp} {μ : List Addr} {hp : Hd} {d : D} {v : V} (rh : RelH K H μ hp) (r : Rp K H μ d v) (h : isL d hp = true) : tyV K "list" v H := by
  obtain ⟨n, xs, rfl, e⟩ := isL_some h
  obtain ⟨a, ea, rfl⟩ := r.refE
  obtain ⟨vs, ev, _⟩ := rh.lst ea e
  exact .inl ⟨rfl, vs, .inl (.inl ev)⟩
theorem de_lm {name : Str} {id : String} {o : Expr} {fo : AE} {apos cpos : Pos} {g : D → List D → Hd → Option (D × Hd)} (slot : Slot "list" name id) (hty : typeOf (.builtin id) = pure (.type "method_descriptor")) (hm : MtR X id (RM X.K g)) (ho : DE X o fo) (ha : DA X (e :: es) fr)
    (hbase : attributeBase o name X.env (eval o X.env) = eval o X.env := by rfl)
    (hfew : ((backTo cpos (starEach (e :: es) X.env)).all (fun x => !x.1) && (backToKw cpos (keywordEach [] X.env)).all (fun x => x.1.isSome)
      && decide ((e :: es).length + ([] : List Keyword).length + (if ([] : List Keyword).isEmpty then 0 else 1) < 30)) = true := by rfl)
    (hline : (apos.endLine == cpos.line) = true := by rfl) (hs : starEach (e :: es) X.env = (false, eval e X.env) :: starEach es X.env := by rfl) (hplain : (backTo cpos (starEach es X.env)).any (·.1) = false := by rfl) :
    DE X (.Call (.Attribute o name apos) (e :: es) [] cpos) (mMet isL fo fr g) :=
  PE.imp (pe_bm PySem.F.plainAttrs_list slot hty hm ho ha hbase hfew hline hs hplain) fun σ H Q ⟨ls, hp, μ, d, hp', rl, rh, e, q⟩ => by
    unfold mMet at e
    split at e
    · rename_i x hp1 e1
      split at e
      · rename_i hck
        split at e
        · rename_i ds hp2 e2
          exact ⟨ls, hp, μ, x, hp1, rl, rh, e1, fun v1 H1 μ1 x1 rh1 r1 => ⟨isL_ty rh1 r1 hck, ls, hp1, μ1, ds, hp2, rl.ext x1, rh1, e2, fun vs H2 μ2 x2 rh2 r2 =>
            ⟨hp2, μ2, x, ds, d, hp', rh2, r1.ext x2, r2, e, fun v H3 μ3 x3 rh3 r3 => q v H3 μ3 ((x1.trans x2).trans x3) rh3 r3⟩⟩⟩
        · cases e
      · cases e
    · cases e
theorem de_lm0 {name : Str} {id : String} {o : Expr} {fo : AE} {apos cpos : Pos} {g : D → List D → Hd → Option (D × Hd)} (slot : Slot "list" name id) (hty : typeOf (.builtin id) = pure (.type "method_descriptor")) (hm : MtR X id (RM X.K g)) (ho : DE X o fo)
    (hbase : attributeBase o name X.env (eval o X.env) = eval o X.env := by rfl) (hline : (apos.endLine == cpos.line) = true := by rfl) : DE X (.Call (.Attribute o name apos) [] [] cpos) (mMet isL fo mNil g) :=
  PE.imp (pe_bm0 PySem.F.plainAttrs_list slot hty hm ho hbase hline) fun σ H Q ⟨ls, hp, μ, d, hp', rl, rh, e, q⟩ => by
    simp only [mMet, mNil] at e
    split at e
    · rename_i x hp1 e1
      split at e
      · rename_i hck
        exact ⟨ls, hp, μ, x, hp1, rl, rh, e1, fun v1 H1 μ1 x1 rh1 r1 => ⟨isL_ty rh1 r1 hck, ⟨hp1, μ1, x, [], d, hp', rh1, r1, Rps.nil, e, fun v H3 μ3 x3 rh3 r3 => q v H3 μ3 (x1.trans x3) rh3 r3⟩⟩⟩
      · cases e
    · cases e
def onL (x : D) (hp : Hd) (g : List D → Option (D × List D)) : Option (D × Hd) := match x with
  | .ref n => match hp[n]? with
    | some (.lst xs) => match g xs with
      | some (d, ys) => some (d, hp.set n (.lst ys))
      | none => none
    | _ => none
  | _ => none
theorem onL_some {x : D} {hp hp' : Hd} {g : List D → Option (D × List D)} {d : D} (h : onL x hp g = some (d, hp')) : ∃ n xs ys, x = .ref n ∧ hp[n]? = some (.lst xs) ∧ g xs = some (d, ys) ∧ hp' = hp.set n (.lst ys) := by
  unfold onL at h
  split at h
  · rename_i n
    split at h
    · rename_i xs e1
      split at h
      · rename_i d' ys e2
        cases h
        exact ⟨n, xs, ys, rfl, e1, e2, rfl⟩
      · cases h
    · cases h
  · cases h
def gAppend (x : D) (ds : List D) (hp : Hd) : Option (D × Hd) := match ds with
  | [d] => onL x hp fun xs => if xs.length < sizeLine then some (.non, xs ++ [d]) else none
  | _ => none
theorem t_append : MtR X "list.append" (RM X.K gAppend) := fun pins s σ H x xs v us Q I rx rxs ⟨hp, μ, dx, ds, d, hp', rh, r1, rs, e, q⟩ => by
  unfold gAppend at e
  split at e
  · rename_i y
    obtain ⟨n, ws, ys, rfl, e1, e2, rfl⟩ := onL_some e
    split at e2
    · rename_i hl
      cases e2
      obtain ⟨w, rfl, r2⟩ := rs.one
      obtain ⟨a, ea, rfl⟩ := r1.refE
      obtain ⟨vs, ev, r3⟩ := rh.lst ea e1
      have x0 : Mon μ H μ (upd H a (.lst (vs ++ [w]))) := Mon.loose ev
      obtain ⟨r4, x1⟩ := rh.put (o := .lst (ws ++ [y])) (u := .lst (vs ++ [w])) ea ⟨_, rfl, (r3.append (by rw [Rps]; exact ⟨w, [], rfl, r2, Rps.nil⟩)).mon x0⟩
      exact mt_append pins s σ H _ _ v us Q I rx rxs ⟨a, vs, w, rfl, rfl, ev, by rw [r3.len]; exact hl, q _ _ μ x1 r4 Rp.non⟩
    · cases e2
  · cases e
def gPop (x : D) (ds : List D) (hp : Hd) : Option (D × Hd) := match ds with
  | [] => onL x hp fun xs => match xs[xs.length - 1]? with
    | some y => some (y, xs.dropLast)
    | none => none
  | _ => none
theorem Rps.take {K : PySem.W.Frag} {H : Hp} {μ : List Addr} : ∀ {ds : List D} {vs : List V} (n : Nat), Rps K H μ ds vs → Rps K H μ (ds.take n) (vs.take n)
  | _, _, 0, _ => by simp [Rps.nil]
  | [], _, n + 1, h => by
    rw [Rps] at h
    subst h
    exact Rps.nil
  | d :: ds, _, n + 1, h => by
    rw [Rps] at h
    obtain ⟨v, r, rfl, h1, h2⟩ := h
    rw [List.take_succ_cons, List.take_succ_cons, Rps]
    exact ⟨v, _, rfl, h1, Rps.take n h2⟩
theorem Rps.drop {K : PySem.W.Frag} {H : Hp} {μ : List Addr} : ∀ {ds : List D} {vs : List V} (n : Nat), Rps K H μ ds vs → Rps K H μ (ds.drop n) (vs.drop n)
  | _, _, 0, h => by simpa using h
  | [], _, n + 1, h => by
    rw [Rps] at h
    subst h
    exact Rps.nil
  | d :: ds, _, n + 1, h => by
    rw [Rps] at h
    obtain ⟨v, r, rfl, h1, h2⟩ := h
    exact Rps.drop n h2
theorem Rps.dropLast {K : PySem.W.Frag} {H : Hp} {μ : List Addr} {ds : List D} {vs : List V} (h : Rps K H μ ds vs) : Rps K H μ ds.dropLast vs.dropLast := by
  rw [List.dropLast_eq_take, List.dropLast_eq_take, h.len]
  exact h.take _
theorem t_pop : MtR X "list.pop" (RM X.K gPop) := fun pins s σ H x xs v us Q I rx rxs ⟨hp, μ, dx, ds, d, hp', rh, r1, rs, e, q⟩ => by
  unfold gPop at e
  split at e
  · obtain ⟨n, ws, ys, rfl, e1, e2, rfl⟩ := onL_some e
    split at e2
    · rename_i y ey
      cases e2
      rw [Rps] at rs
      subst rs
      obtain ⟨a, ea, rfl⟩ := r1.refE
      obtain ⟨vs, ev, r3⟩ := rh.lst ea e1
      obtain ⟨w, ew, rw'⟩ := r3.get ey
      have x0 : Mon μ H μ (upd H a (.lst vs.dropLast)) := Mon.loose ev
      obtain ⟨r4, x1⟩ := rh.put (o := .lst ws.dropLast) (u := .lst vs.dropLast) ea ⟨_, rfl, r3.dropLast.mon x0⟩
      exact mt_pop pins s σ H _ _ v us Q I rx rxs ⟨a, vs, w, rfl, rfl, ev, by rw [r3.len]; exact ew, q _ _ μ x1 r4 (rw'.mon x0)⟩
    · cases e2
  · cases e
end
end Ve
namespace Ve
open PySem PySem.Spec L2
mutual
def D.lt (n : Nat) : D → Bool
  | .ref k => decide (k < n)
  | .tup ds => D.lts n ds
  | .wt ds => D.lts n ds
  | _ => true
def D.lts (n : Nat) : List D → Bool
  | [] => true
  | d :: ds => D.lt n d && D.lts n ds
end
mutual
def D.ren (ρ : List Nat) : D → D
  | .ref k => .ref (ρ.getD k 0)
  | .tup ds => .tup (D.rens ρ ds)
  | .wt ds => .wt (D.rens ρ ds)
  | .non => .non
  | .bl b => .bl b
  | .int i => .int i
  | .str x => .str x
  | .scr ns => .scr ns
def D.rens (ρ : List Nat) : List D → List D
  | [] => []
  | d :: ds => D.ren ρ d :: D.rens ρ ds
end
def kvLt (n : Nat) : List (D × D) → Bool
  | [] => true
  | p :: r => D.lt n p.1 && D.lt n p.2 && kvLt n r
def kvRen (ρ : List Nat) : List (D × D) → List (D × D)
  | [] => []
  | p :: r => (p.1, D.ren ρ p.2) :: kvRen ρ r
def O.lt (n : Nat) : O → Bool
  | .lst xs => D.lts n xs
  | .dic kvs => kvLt n kvs
  | .dicL kvs => kvLt n kvs
  | .dicN ks => D.lts n ks
  | .dicM ks => D.lts n ks
  | .ins _ kvs => kvLt n kvs
  | .exc _ => true
  | .tab _ => true
def O.ren (ρ : List Nat) : O → O
  | .lst xs => .lst (D.rens ρ xs)
  | .dic kvs => .dic (kvRen ρ kvs)
  | .dicL kvs => .dicL (kvRen ρ kvs)
  | .dicN ks => .dicN ks
  | .dicM ks => .dicM ks
  | .ins c kvs => .ins c (kvRen ρ kvs)
  | .exc c => .exc c
  | .tab c => .tab c
def Sub (n : Nat) (d : D) (hp' : Hd) (r : Option (D × Hd)) : Prop :=
  ∃ d2 hp2, r = some (d2, hp2) ∧ ∃ ρ : List Nat, ρ.length = hp'.length ∧ ρ.Nodup ∧ n ≤ hp'.length ∧ (∀ i, i < n → ρ[i]? = some i) ∧ D.lt hp'.length d = true ∧ d2 = D.ren ρ d ∧
    ∀ (i : Nat) (o : O), hp'[i]? = some o → O.lt hp'.length o = true ∧ ∃ j : Nat, ρ[i]? = some j ∧ hp2[j]? = some (O.ren ρ o)
def Con (c m : List D → Hd → Option (D × Hd)) : Prop := ∀ ds hp d hp', (∀ (i : Nat) (o : O), hp[i]? = some o → O.lt hp.length o = true) → D.lts hp.length ds = true → c ds hp = some (d, hp') → Sub hp.length d hp' (m ds hp)
section
variable {K : PySem.W.Frag} {H : Hp} {μ μ2 : List Addr} {hp hp2 : Hd}
mutual
theorem Rp.below {n : Nat} (hn : μ.length = n) : ∀ {d : D} {v : V}, Rp K H μ d v → D.lt n d = true
  | .non, _, _ => rfl
  | .bl _, _, _ => rfl
  | .int _, _, _ => rfl
  | .str _, _, _ => rfl
  | .scr _, _, _ => rfl
  | .ref k, _, h => by
    obtain ⟨a, e, _⟩ := h.refE
    have := (List.getElem?_eq_some_iff.mp e).1
    simp only [D.lt, decide_eq_true_eq]
    omega
  | .tup ds, _, h => by
    obtain ⟨a, vs, _, _, r⟩ := h.tupE
    rw [D.lt]
    exact Rps.below hn r
  | .wt ds, _, h => by
    obtain ⟨a, vs, _, _, r⟩ := h.wtE
    rw [D.lt]
    exact Rps.below hn r
theorem Rps.below {n : Nat} (hn : μ.length = n) : ∀ {ds : List D} {vs : List V}, Rps K H μ ds vs → D.lts n ds = true
  | [], _, _ => by rw [D.lts]
  | d :: ds, _, h => by
    rw [Rps] at h
    obtain ⟨v, r, _, h1, h2⟩ := h
    rw [D.lts, Rp.below hn h1, Rps.below hn h2]
    rfl
end
theorem toKey_lt {n : Nat} {d : D} {k : Key} (h : toKey d = some k) : D.lt n d = true := by
  cases d <;> simp [toKey] at h <;> rfl
theorem toKeys_lt {n : Nat} : ∀ {ds : List D} {k : List Key}, toKeys ds = some k → D.lts n ds = true
  | [], _, _ => by rw [D.lts]
  | d :: ds, k, h => by
    simp only [toKeys] at h
    split at h
    · rename_i k1 ks e1 e2
      rw [D.lts, toKey_lt e1, toKeys_lt e2]
      rfl
    · cases h
theorem RpK.below {n : Nat} (hn : μ.length = n) : ∀ {kvs : List (D × D)} {vs : List (Key × V)}, RpK K H μ kvs vs → kvLt n kvs = true
  | [], _, _ => rfl
  | p :: r, _, h => by
    rw [RpK] at h
    obtain ⟨k, v, rs, _, h1, h2, h3⟩ := h
    simp only [kvLt, toKey_lt h1, Rp.below hn h2, RpK.below hn h3, Bool.and_self]
theorem RpT.below {n : Nat} (hn : μ.length = n) : ∀ {kvs : List (D × D)} {vs : List (List Key × V)}, RpT K H μ kvs vs → kvLt n kvs = true
  | [], _, _ => rfl
  | p :: r, _, h => by
    rw [RpT] at h
    obtain ⟨ds, k, v, rs, e0, _, h1, h2, h3⟩ := h
    simp only [kvLt, e0, D.lt, toKeys_lt h1, Rp.below hn h2, RpT.below hn h3, Bool.and_self]
mutual
theorem toNK_lt {n : Nat} : ∀ {d : D} {k : NestedKey}, toNK d = some k → D.lt n d = true
  | .int _, _, _ => rfl
  | .tup ds, k, h => by
    rw [toNK] at h
    cases e : toNKs ds with
    | none => rw [e] at h; cases h
    | some ks =>
      rw [D.lt]
      exact toNKs_lt e
  | .non, _, h => by simp [toNK] at h
  | .bl _, _, h => by simp [toNK] at h
  | .str _, _, h => by simp [toNK] at h
  | .ref _, _, h => by simp [toNK] at h
  | .scr _, _, h => by simp [toNK] at h
  | .wt _, _, h => by simp [toNK] at h
theorem toNKs_lt {n : Nat} : ∀ {ds : List D} {ks : List NestedKey}, toNKs ds = some ks → D.lts n ds = true
  | [], _, _ => rfl
  | d :: ds, k, h => by
    rw [toNKs] at h
    cases e : toNK d with
    | none => rw [e] at h; cases h
    | some k1 =>
      cases e2 : toNKs ds with
      | none => rw [e, e2] at h; cases h
      | some ks =>
        rw [D.lts, toNK_lt e, toNKs_lt e2]
        rfl
end
theorem RpN.below {n : Nat} : ∀ {ds : List D} {as : List (NestedKey × Addr)}, RpN K H μ ds as → D.lts n ds = true
  | [], _, _ => rfl
  | d :: ds, _, h => by
    rw [RpN] at h
    obtain ⟨k, a, r, e, h1, h2, h3, h4⟩ := h
    rw [D.lts, toNK_lt h1, RpN.below h4]
    rfl
theorem RelH.below (r : RelH K H μ hp) (i : Nat) (o : O) (h : hp[i]? = some o) : O.lt hp.length o = true := by
  obtain ⟨a, ea, q⟩ := r.at_ h
  cases o with
  | lst xs => obtain ⟨vs, _, q⟩ := q; exact q.below r.len
  | dic kvs =>
    obtain ⟨_, ⟨vs, _, q⟩ | ⟨vs, _, q⟩⟩ := q
    · exact q.below r.len
    · exact q.below r.len
  | dicL kvs =>
    obtain ⟨_, ⟨_, vs, _, q⟩ | ⟨_, vs, _, q⟩⟩ := q
    · exact q.below r.len
    · exact q.below r.len
  | dicN ks => obtain ⟨a, kas, _, q⟩ := q; exact q.below
  | dicM ks => obtain ⟨a, kas, _, _, q⟩ := q; exact q.below
  | ins c kvs => obtain ⟨C, dx, vs, _, _, q⟩ := q; exact q.below r.len
  | exc c => rfl
  | tab c => rfl
def pick (μ2 : List Addr) (ρ : List Nat) : List Addr := ρ.map fun j => μ2.getD j 0
mutual
theorem Rp.pick {ρ : List Nat} (hρ : ∀ j ∈ ρ, j < μ2.length) : ∀ {d : D} {v : V}, D.lt ρ.length d = true → Rp K H μ2 (D.ren ρ d) v → Rp K H (Ve.pick μ2 ρ) d v
  | .non, _, _, h => by rw [D.ren] at h; exact h.nonE ▸ Rp.non
  | .bl _, _, _, h => by rw [D.ren] at h; exact h.blE ▸ Rp.bl
  | .int _, _, _, h => by rw [D.ren] at h; exact h.intE ▸ Rp.int
  | .str _, _, _, h => by rw [D.ren] at h; exact h.strE ▸ Rp.str
  | .scr ns, _, _, h => by
    rw [D.ren] at h
    obtain ⟨a, rfl, s⟩ := h.scrE
    rw [Rp]
    exact ⟨a, rfl, s⟩
  | .ref k, v, hl, h => by
    rw [D.ren] at h
    obtain ⟨a, e, rfl⟩ := h.refE
    have hk : k < ρ.length := by simpa [D.lt] using hl
    rw [Rp]
    refine ⟨a, ?_, rfl⟩
    unfold Ve.pick
    rw [List.getElem?_map, List.getElem?_eq_getElem hk]
    have e2 : ρ.getD k 0 = ρ[k] := by simp [List.getD, hk]
    rw [e2] at e
    show some (μ2.getD ρ[k] 0) = some a
    rw [List.getD, e]
    rfl
  | .tup ds, _, hl, h => by
    rw [D.ren] at h
    obtain ⟨a, vs, rfl, t, r⟩ := h.tupE
    rw [D.lt] at hl
    rw [Rp]
    exact ⟨a, vs, rfl, t, Rps.pick hρ hl r⟩
  | .wt ds, _, hl, h => by
    rw [D.ren] at h
    obtain ⟨a, vs, rfl, t, r⟩ := h.wtE
    rw [D.lt] at hl
    rw [Rp]
    exact ⟨a, vs, rfl, t, Rps.pick hρ hl r⟩
theorem Rps.pick {ρ : List Nat} (hρ : ∀ j ∈ ρ, j < μ2.length) : ∀ {ds : List D} {vs : List V}, D.lts ρ.length ds = true → Rps K H μ2 (D.rens ρ ds) vs → Rps K H (Ve.pick μ2 ρ) ds vs
  | [], _, _, h => by
    rw [D.rens, Rps] at h
    rw [Rps]
    exact h
  | d :: ds, _, hl, h => by
    rw [D.lts, Bool.and_eq_true] at hl
    rw [D.rens, Rps] at h
    obtain ⟨v, r, rfl, h1, h2⟩ := h
    rw [Rps]
    exact ⟨v, r, rfl, Rp.pick hρ hl.1 h1, Rps.pick hρ hl.2 h2⟩
end
theorem RpK.pick {ρ : List Nat} (hρ : ∀ j ∈ ρ, j < μ2.length) : ∀ {ds : List (D × D)} {vs : List (Key × V)}, kvLt ρ.length ds = true → RpK K H μ2 (kvRen ρ ds) vs → RpK K H (Ve.pick μ2 ρ) ds vs
  | [], _, _, h => by
    rw [kvRen, RpK] at h
    rw [RpK]
    exact h
  | d :: ds, _, hl, h => by
    rw [kvLt, Bool.and_eq_true, Bool.and_eq_true] at hl
    rw [kvRen, RpK] at h
    obtain ⟨k, v, r, rfl, h0, h1, h2⟩ := h
    rw [RpK]
    exact ⟨k, v, r, rfl, h0, Rp.pick hρ hl.1.2 h1, RpK.pick hρ hl.2 h2⟩
theorem RpT.pick {ρ : List Nat} (hρ : ∀ j ∈ ρ, j < μ2.length) : ∀ {ds : List (D × D)} {vs : List (List Key × V)}, kvLt ρ.length ds = true → RpT K H μ2 (kvRen ρ ds) vs → RpT K H (Ve.pick μ2 ρ) ds vs
  | [], _, _, h => by
    rw [kvRen, RpT] at h
    rw [RpT]
    exact h
  | d :: ds, _, hl, h => by
    rw [kvLt, Bool.and_eq_true, Bool.and_eq_true] at hl
    rw [kvRen, RpT] at h
    obtain ⟨ks, k, v, r, e0, rfl, h0, h1, h2⟩ := h
    rw [RpT]
    exact ⟨ks, k, v, r, e0, rfl, h0, Rp.pick hρ hl.1.2 h1, RpT.pick hρ hl.2 h2⟩
theorem KNd.ren {ρ : List Nat} : ∀ {kvs : List (D × D)}, KNd (kvRen ρ kvs) → KNd kvs
  | [], _ => True.intro
  | p :: r, h => by
    refine ⟨fun q hq => ?_, KNd.ren h.2⟩
    have hm : ∀ {l : List (D × D)}, q ∈ l → (q.1, D.ren ρ q.2) ∈ kvRen ρ l := by
      intro l
      induction l with
      | nil => intro h; cases h
      | cons x xs ih =>
        intro h
        rcases List.mem_cons.mp h with z | z
        · rw [z]; exact List.mem_cons_self
        · exact List.mem_cons_of_mem _ (ih z)
    exact h.1 (q.1, D.ren ρ q.2) (hm hq)
mutual
theorem Rp.keyAny {μ3 : List Addr} : ∀ {d : D} {k : NestedKey} {v : V}, toNK d = some k → Rp K H μ2 d v → Rp K H μ3 d v
  | .int _, _, _, _, h => h.intE ▸ Rp.int
  | .tup ds, k, v, e, h => by
    rw [toNK] at e
    cases e2 : toNKs ds with
    | none => rw [e2] at e; cases e
    | some ks =>
      rw [Rp] at *
      obtain ⟨a, vs, h1, h2, h3⟩ := h
      exact ⟨a, vs, h1, h2, Rps.keyAny e2 h3⟩
  | .non, _, _, h, _ => by simp [toNK] at h
  | .bl _, _, _, h, _ => by simp [toNK] at h
  | .str _, _, _, h, _ => by simp [toNK] at h
  | .ref _, _, _, h, _ => by simp [toNK] at h
  | .scr _, _, _, h, _ => by simp [toNK] at h
  | .wt _, _, _, h, _ => by simp [toNK] at h
theorem Rps.keyAny {μ3 : List Addr} : ∀ {ds : List D} {ks : List NestedKey} {vs : List V}, toNKs ds = some ks → Rps K H μ2 ds vs → Rps K H μ3 ds vs
  | [], _, _, _, h => by rw [Rps] at *; exact h
  | d :: ds, k, vs, e, h => by
    rw [toNKs] at e
    cases e1 : toNK d with
    | none => rw [e1] at e; cases e
    | some k1 =>
      cases e2 : toNKs ds with
      | none => rw [e1, e2] at e; cases e
      | some ks =>
        rw [Rps] at *
        obtain ⟨v, r, h1, h2, h3⟩ := h
        exact ⟨v, r, h1, Rp.keyAny e1 h2, Rps.keyAny e2 h3⟩
end
theorem RpN.any {μ3 : List Addr} : ∀ {ds : List D} {as : List (NestedKey × Addr)}, RpN K H μ2 ds as → RpN K H μ3 ds as
  | [], _, h => by rw [RpN] at *; exact h
  | d :: ds, _, h => by
    rw [RpN] at *
    obtain ⟨k, a, r, e, h1, h2, h3, h4⟩ := h
    exact ⟨k, a, r, e, h1, h2, h3.keyAny h1, RpN.any h4⟩
theorem Ro.pick {ρ : List Nat} (hρ : ∀ j ∈ ρ, j < μ2.length) {o : O} {h : Option HO} (hl : O.lt ρ.length o = true) (r : Ro K H μ2 (O.ren ρ o) h) : Ro K H (Ve.pick μ2 ρ) o h := by
  cases o with
  | lst xs => obtain ⟨vs, e, q⟩ := r; exact ⟨vs, e, q.pick hρ hl⟩
  | dic kvs =>
    obtain ⟨nd, ⟨vs, e, q⟩ | ⟨vs, e, q⟩⟩ := r
    · exact ⟨KNd.ren nd, .inl ⟨vs, e, q.pick hρ hl⟩⟩
    · exact ⟨KNd.ren nd, .inr ⟨vs, e, q.pick hρ hl⟩⟩
  | dicL kvs =>
    obtain ⟨nd, ⟨o, vs, e, q⟩ | ⟨o, vs, e, q⟩⟩ := r
    · exact ⟨KNd.ren nd, .inl ⟨o, vs, e, q.pick hρ hl⟩⟩
    · exact ⟨KNd.ren nd, .inr ⟨o, vs, e, q.pick hρ hl⟩⟩
  | dicN ks => obtain ⟨a, kas, e, q⟩ := r; exact ⟨a, kas, e, q.any⟩
  | dicM ks => obtain ⟨a, kas, od, e, q⟩ := r; exact ⟨a, kas, od, e, q.any⟩
  | ins c kvs => obtain ⟨C, dx, vs, e, hc, q⟩ := r; exact ⟨C, dx, vs, e, hc, q.pick hρ hl⟩
  | exc c => exact r
  | tab c => exact r
theorem sub_sound {H' : Hp} {d : D} {hp' : Hd} {r : Option (D × Hd)} (rh : RelH K H μ hp) (s : Sub hp.length d hp' r) : ∃ d2 hp2, r = some (d2, hp2) ∧ ∀ v H' μ2, Ext μ H μ2 H' → RelH K H' μ2 hp2 → Rp K H' μ2 d2 v →
    ∃ μ', Ext μ H μ' H' ∧ RelH K H' μ' hp' ∧ Rp K H' μ' d v := by
  obtain ⟨d2, hp2, rfl, ρ, hl, nd, hn, hid, hd, rfl, ho⟩ := s
  refine ⟨_, hp2, rfl, fun v H' μ2 x rh2 rv => ?_⟩
  have hρ : ∀ j ∈ ρ, j < μ2.length := fun j hj => by
    obtain ⟨i, hi, e⟩ := List.mem_iff_getElem.mp hj
    have hi' : i < hp'.length := by rw [← hl]; exact hi
    obtain ⟨_, j2, e2, e3⟩ := ho i hp'[i] (List.getElem?_eq_getElem hi')
    rw [List.getElem?_eq_getElem hi, e] at e2
    cases e2
    rw [rh2.len]
    exact (List.getElem?_eq_some_iff.mp e3).1
  have hpk : ∀ (i : Nat) j, ρ[i]? = some j → (pick μ2 ρ)[i]? = μ2[j]? := fun i j e => by
    unfold pick
    rw [List.getElem?_map, e]
    have hj : j < μ2.length := hρ j (List.mem_of_getElem? e)
    show some (μ2.getD j 0) = _
    rw [List.getElem?_eq_getElem hj]
    simp [List.getD, hj]
  have sub : ∀ a ∈ pick μ2 ρ, a ∈ μ2 := fun a ha => by
    obtain ⟨j, hj, e⟩ := List.mem_map.mp ha
    have := hρ j hj
    rw [← e]
    simp [List.getD, this]
  have rl : RelH K H' (pick μ2 ρ) hp' := by
    refine ⟨by simp [pick, hl], ?_, fun i o a e1 e2 => ?_, fun i x a e1 e2 => ?_⟩
    · refine List.pairwise_iff_getElem.mpr fun i j hi hj hij => ?_
      have hi' : i < ρ.length := by simpa [pick] using hi
      have hj' : j < ρ.length := by simpa [pick] using hj
      have a1 := hρ _ (List.getElem_mem hi')
      have a2 := hρ _ (List.getElem_mem hj')
      have g1 : (pick μ2 ρ)[i] = μ2[ρ[i]] := by simp [pick, List.getD, a1]
      have g2 : (pick μ2 ρ)[j] = μ2[ρ[j]] := by simp [pick, List.getD, a2]
      rw [g1, g2]
      intro z
      have := (List.getElem_inj rh2.nd).mp z
      have := (List.getElem_inj nd).mp this
      omega
    · obtain ⟨hlt, j, e3, e4⟩ := ho i o e1
      rw [hpk i j e3] at e2
      exact (rh2.obj j _ a e4 e2).pick hρ (by rw [hl]; exact hlt)
    · obtain ⟨hlt, j, e3, e4⟩ := ho i _ e1
      rw [hpk i j e3] at e2
      exact rh2.tabs j x a e4 e2
  refine ⟨pick μ2 ρ, ⟨?_, fun a o hn e hm => x.new a o hn e (sub a hm), x.keep, x.tups, x.scrs⟩, rl, rv.pick hρ (by rw [hl]; exact hd)⟩
  obtain ⟨ν, e⟩ := x.pre
  refine ⟨(pick μ2 ρ).drop μ.length, ?_⟩
  have hlen : μ.length ≤ (pick μ2 ρ).length := by
    rw [rh.len]
    simp [pick, hl]
    exact hn
  have ht : (pick μ2 ρ).take μ.length = μ := by
    refine List.ext_getElem? fun i => ?_
    by_cases hi : i < μ.length
    · rw [List.getElem?_take_of_lt hi, hpk i i (hid i (by rw [← rh.len]; exact hi)), e, List.getElem?_append_left hi]
    · rw [List.getElem?_eq_none (by simp; omega), List.getElem?_eq_none (by omega)]
  rw [← List.take_append_drop μ.length (pick μ2 ρ), ht]
  simp
end
structure Fn (P : Program) (w : World) (K : PySem.W.Frag) (mg : Str → Option Value) (base : Heap) (k : Nat) (x : Str) (n : Nat) (g : List D → Hd → Option (D × Hd)) : Prop where
  ex : ∃ (f : Addr) (fd : FuncData) (ps : List Str), FnG P w K mg base CX0 k f fd ps (spD K n g) ∧ mg x = some (.ref f) ∧ PySem.W.keepIn K (.ref f) = true ∧ Binds K fd ps []
section
variable {P : Program} {w : World} {K : PySem.W.Frag} {mg : Str → Option Value} {base : Heap} {k j n : Nat} {x : Str} {g c : List D → Hd → Option (D × Hd)}
theorem Fn.mono (F : Fn P w K mg base j x n g) (h : j ≤ k) : Fn P w K mg base k x n g := by
  obtain ⟨f, fd, ps, F, a, b, c⟩ := F.ex
  exact ⟨f, fd, ps, F.mono h, a, b, c⟩
theorem Fn.con (F : Fn P w K mg base k x n g) (h : Con c g) : Fn P w K mg base k x n c := by
  obtain ⟨f, fd, ps, F, a, b, e⟩ := F.ex
  refine ⟨f, fd, ps, F.imp fun vs H Q E q => ?_, a, b, e⟩
  obtain ⟨hp, μ, ds, d, hp', hn, rh, r, ec, q⟩ := q
  obtain ⟨d2, hp2, e2, s⟩ := sub_sound (H' := H) rh (h ds hp d hp' (fun i o => rh.below i o) (r.below rh.len) ec)
  exact ⟨hp, μ, ds, d2, hp2, hn, rh, r, e2, fun v H' μ2 x rh2 rv => by
    obtain ⟨μ', x', rh', rv'⟩ := s v H' μ2 x rh2 rv
    exact q v H' μ' x' rh' rv'⟩
theorem fn_mk {qual : Str} {st : Stmt} {f : Addr} {fd : FuncData} {N ps : List Str} {fb : AS} (F : Fun K x qual st f fd) (S : FnScope N ps (defScope st)) (hm : mg x = some (.ref f)) (hb : Binds K fd ps [])
    (body : ∀ (cdv : Value) (A : Around) (outer : List Env) (s : Shared) (H : Hp) (E : XK), RoomG k (A.deeper (PyProof.Rows.envOfC qual (defScope st) s.heap.objs.size f cdv)) →
      DSs (cxOf CX0 P w K mg base N qual (defScope st) f cdv A outer s H E).nox (defBody st) fb) : Fn P w K mg base (k + 1) x ps.length (mDef N.length fb) :=
  ⟨f, fd, ps, fn_def F S body, hm, F.kp, hb⟩
end
section
variable {X : Cx} {e : Expr} {es : List Expr} {fr : AA} {pos : Pos}
theorem de_callF {k : Nat} {n : Nat} {g : List D → Hd → Option (D × Hd)} {x : Str} {p : Pos} (F : Fn X.prog X.w X.K X.mg X.base k x n g) (hr : RoomG k X.A) (hg : Gl X x) (ha : DA X (e :: es) fr)
    (hdb : (x == ("__debug__" : Str)) = false := by decide) (he : starEach (e :: es) X.env = (false, eval e X.env) :: starEach es X.env := by rfl) (hpl : (backTo pos (starEach es X.env)).any (·.1) = false := by rfl) :
    DE X (.Call (.Name x p) (e :: es) [] pos) (mAs fr (ar n g)) := by
  obtain ⟨f, fd, ps, F, a, b, c⟩ := F.ex
  exact de_call F hr hg a b c ha hdb he hpl
end
end Ve
theorem L2.Room.units65 {k : Nat} {A : PySem.Around} (r : L2.Room k A) : A.units + 65 < PySem.cLine := by
  have := r.un
  omega
namespace Ve
open PySem PySem.Spec L2
theorem bb_len : bootBuiltins "len" = some (.builtin "len") := by decide +kernel
theorem bb_max : bootBuiltins "max" = some (.builtin "max") := by decide +kernel
theorem bb_min : bootBuiltins "min" = some (.builtin "min") := by decide +kernel
theorem bb_all : bootBuiltins "all" = some (.builtin "all") := by decide +kernel
theorem bb_sorted : bootBuiltins "sorted" = some (.builtin "sorted") := by decide +kernel
theorem bb_isinstance : bootBuiltins "isinstance" = some (.builtin "isinstance") := by decide +kernel
theorem bb_int : bootBuiltins "int" = some (.type "int") := by decide +kernel
theorem bb_bool : bootBuiltins "bool" = some (.type "bool") := by decide +kernel
theorem bb_str : bootBuiltins "str" = some (.type "str") := by decide +kernel
theorem bb_list : bootBuiltins "list" = some (.type "list") := by decide +kernel
theorem bb_tuple : bootBuiltins "tuple" = some (.type "tuple") := by decide +kernel
theorem bb_dict : bootBuiltins "dict" = some (.type "dict") := by decide +kernel
section
variable {X : Cx} {a b c : Expr} {fa fb fc : AE} {fl : AA} {pos : Pos}
theorem dt_chain {op op' : CmpOp} {g g' : D → D → Hd → Option (D × Hd)} (ho : OpR X (compareOp op) (RD X.K g)) (ho' : OpR X (compareOp op') (RD X.K g')) (ha : DE X a fa) (hb : DE X b fb) (hc : DE X c fc)
    (hm : lastMarks [op, op'] [b, c] = false := by with_unfolding_all rfl) : DT X (.Compare a [op, op'] [b, c] pos) (mT (mChain fa fb fc g g')) :=
  PT.imp (pt_chain ho ho' ha hb hc hm) fun _ _ _ h => tTest_of (fun _ _ _ h => tChain_of h) h
end
theorem scAt_of {K : PySem.W.Frag} {H : Hp} {a : Addr} {xs : List V} (ho : Only H) (h : SqL K H a xs) : ScAt K H a xs := by
  rcases h with (h | ⟨o, h⟩) | h
  · rcases ho a with z | ⟨o, ys, z⟩
    · rw [h] at z
      cases z
    · rw [h] at z
      cases z
  · exact .inl ⟨o, h⟩
  · exact .inr h
theorem Rps.mk {K : PySem.W.Frag} {H : Hp} {μ : List Addr} {d : D} {ds : List D} {v : V} {vs : List V} (r : Rp K H μ d v) (rs : Rps K H μ ds vs) : Rps K H μ (d :: ds) (v :: vs) := by
  rw [Rps]
  exact ⟨v, vs, rfl, r, rs⟩
theorem Rp.wt {K : PySem.W.Frag} {H : Hp} {μ : List Addr} {ds : List D} {a : Addr} {its : Array Value} {n : Nat} {sl : Array (Option Value)} {vs : List V} (h : K.lookup a = some ⟨.type "tuple", none, .seq its n, sl⟩) (hl : its.size ≤ sizeLine) (hv : Vals vs its.toList)
    (r : Rps K H μ ds vs) : Rp K H μ (.wt ds) (.ref a) := by
  rw [Rp]
  exact ⟨a, vs, rfl, .inr ⟨_, its, n, h, rfl, rfl, rfl, hl, hv⟩, r⟩
end Ve
namespace Ve
open PySem PySem.Spec L2
mutual
def D.all (p : Nat → Bool) : D → Bool
  | .ref k => p k
  | .tup ds => D.alls p ds
  | .wt ds => D.alls p ds
  | .non => true
  | .bl _ => true
  | .int _ => true
  | .str _ => true
  | .scr _ => true
def D.alls (p : Nat → Bool) : List D → Bool
  | [] => true
  | d :: ds => D.all p d && D.alls p ds
end
mutual
def D.map (f : Nat → Nat) : D → D
  | .ref k => .ref (f k)
  | .tup ds => .tup (D.maps f ds)
  | .wt ds => .wt (D.maps f ds)
  | .non => .non
  | .bl b => .bl b
  | .int i => .int i
  | .str x => .str x
  | .scr ns => .scr ns
def D.maps (f : Nat → Nat) : List D → List D
  | [] => []
  | d :: ds => D.map f d :: D.maps f ds
end
def kvAll (p : Nat → Bool) : List (D × D) → Bool
  | [] => true
  | x :: r => D.all p x.1 && D.all p x.2 && kvAll p r
def kvMap (f : Nat → Nat) : List (D × D) → List (D × D)
  | [] => []
  | p :: r => (p.1, D.map f p.2) :: kvMap f r
def O.all (p : Nat → Bool) : O → Bool
  | .lst xs => D.alls p xs
  | .dic kvs => kvAll p kvs
  | .dicL kvs => kvAll p kvs
  | .dicN ks => D.alls p ks
  | .dicM ks => D.alls p ks
  | .ins _ kvs => kvAll p kvs
  | .exc _ => true
  | .tab _ => true
def O.map (f : Nat → Nat) : O → O
  | .lst xs => .lst (D.maps f xs)
  | .dic kvs => .dic (kvMap f kvs)
  | .dicL kvs => .dicL (kvMap f kvs)
  | .dicN ks => .dicN ks
  | .dicM ks => .dicM ks
  | .ins c kvs => .ins c (kvMap f kvs)
  | .exc c => .exc c
  | .tab c => .tab c
section
variable {K : PySem.W.Frag} {H : Hp} {μ μ2 : List Addr}
mutual
theorem Rp.mapped {f : Nat → Nat} {p : Nat → Bool} (hf : ∀ k, p k = true → k < μ2.length → μ[f k]? = μ2[k]?) : ∀ {d : D} {v : V}, D.all p d = true → Rp K H μ2 d v → Rp K H μ (D.map f d) v
  | .non, _, _, h => by rw [D.map]; exact h.nonE ▸ Rp.non
  | .bl _, _, _, h => by rw [D.map]; exact h.blE ▸ Rp.bl
  | .int _, _, _, h => by rw [D.map]; exact h.intE ▸ Rp.int
  | .str _, _, _, h => by rw [D.map]; exact h.strE ▸ Rp.str
  | .scr ns, _, _, h => by
    obtain ⟨a, rfl, s⟩ := h.scrE
    rw [D.map, Rp]
    exact ⟨a, rfl, s⟩
  | .ref k, v, hl, h => by
    obtain ⟨a, e, rfl⟩ := h.refE
    rw [D.all] at hl
    rw [D.map, Rp]
    exact ⟨a, by rw [hf k hl (List.getElem?_eq_some_iff.mp e).1]; exact e, rfl⟩
  | .tup ds, _, hl, h => by
    obtain ⟨a, vs, rfl, t, r⟩ := h.tupE
    rw [D.all] at hl
    rw [D.map, Rp]
    exact ⟨a, vs, rfl, t, Rps.mapped hf hl r⟩
  | .wt ds, _, hl, h => by
    obtain ⟨a, vs, rfl, t, r⟩ := h.wtE
    rw [D.all] at hl
    rw [D.map, Rp]
    exact ⟨a, vs, rfl, t, Rps.mapped hf hl r⟩
theorem Rps.mapped {f : Nat → Nat} {p : Nat → Bool} (hf : ∀ k, p k = true → k < μ2.length → μ[f k]? = μ2[k]?) : ∀ {ds : List D} {vs : List V}, D.alls p ds = true → Rps K H μ2 ds vs → Rps K H μ (D.maps f ds) vs
  | [], _, _, h => by
    rw [Rps] at h
    rw [D.maps, Rps]
    exact h
  | d :: ds, _, hl, h => by
    rw [D.alls, Bool.and_eq_true] at hl
    rw [Rps] at h
    obtain ⟨v, r, rfl, h1, h2⟩ := h
    rw [D.maps, Rps]
    exact ⟨v, r, rfl, Rp.mapped hf hl.1 h1, Rps.mapped hf hl.2 h2⟩
end
theorem RpK.mapped {f : Nat → Nat} {p : Nat → Bool} (hf : ∀ k, p k = true → k < μ2.length → μ[f k]? = μ2[k]?) : ∀ {ds : List (D × D)} {vs : List (Key × V)}, kvAll p ds = true → RpK K H μ2 ds vs → RpK K H μ (kvMap f ds) vs
  | [], _, _, h => by
    rw [RpK] at h
    rw [kvMap, RpK]
    exact h
  | d :: ds, _, hl, h => by
    rw [kvAll, Bool.and_eq_true, Bool.and_eq_true] at hl
    rw [RpK] at h
    obtain ⟨k, v, r, rfl, h0, h1, h2⟩ := h
    rw [kvMap, RpK]
    exact ⟨k, v, r, rfl, h0, Rp.mapped hf hl.1.2 h1, RpK.mapped hf hl.2 h2⟩
theorem RpT.mapped {f : Nat → Nat} {p : Nat → Bool} (hf : ∀ k, p k = true → k < μ2.length → μ[f k]? = μ2[k]?) : ∀ {ds : List (D × D)} {vs : List (List Key × V)}, kvAll p ds = true → RpT K H μ2 ds vs → RpT K H μ (kvMap f ds) vs
  | [], _, _, h => by
    rw [RpT] at h
    rw [kvMap, RpT]
    exact h
  | d :: ds, _, hl, h => by
    rw [kvAll, Bool.and_eq_true, Bool.and_eq_true] at hl
    rw [RpT] at h
    obtain ⟨ks, k, v, r, e0, rfl, h0, h1, h2⟩ := h
    rw [kvMap, RpT]
    exact ⟨ks, k, v, r, e0, rfl, h0, Rp.mapped hf hl.1.2 h1, RpT.mapped hf hl.2 h2⟩
theorem KNd.mapped {f : Nat → Nat} : ∀ {kvs : List (D × D)}, KNd kvs → KNd (kvMap f kvs)
  | [], _ => True.intro
  | p :: r, h => by
    refine ⟨fun q hq => ?_, KNd.mapped h.2⟩
    have hm : ∀ {l : List (D × D)}, q ∈ kvMap f l → ∃ q2 ∈ l, q2.1 = q.1 := by
      intro l
      induction l with
      | nil => intro h; cases h
      | cons x xs ih =>
        intro h
        rcases List.mem_cons.mp h with z | z
        · exact ⟨x, List.mem_cons_self, by rw [z]⟩
        · obtain ⟨q2, h2, e⟩ := ih z
          exact ⟨q2, List.mem_cons_of_mem _ h2, e⟩
    obtain ⟨q2, h2, e⟩ := hm hq
    rw [← e]
    exact h.1 q2 h2
theorem Ro.mapped {f : Nat → Nat} {p : Nat → Bool} (hf : ∀ k, p k = true → k < μ2.length → μ[f k]? = μ2[k]?) {o : O} {h : Option HO} (hl : O.all p o = true) (r : Ro K H μ2 o h) : Ro K H μ (O.map f o) h := by
  cases o with
  | lst xs => obtain ⟨vs, e, q⟩ := r; exact ⟨vs, e, q.mapped hf hl⟩
  | dic kvs =>
    obtain ⟨nd, ⟨vs, e, q⟩ | ⟨vs, e, q⟩⟩ := r
    · exact ⟨nd.mapped, .inl ⟨vs, e, q.mapped hf hl⟩⟩
    · exact ⟨nd.mapped, .inr ⟨vs, e, q.mapped hf hl⟩⟩
  | dicL kvs =>
    obtain ⟨nd, ⟨o, vs, e, q⟩ | ⟨o, vs, e, q⟩⟩ := r
    · exact ⟨nd.mapped, .inl ⟨o, vs, e, q.mapped hf hl⟩⟩
    · exact ⟨nd.mapped, .inr ⟨o, vs, e, q.mapped hf hl⟩⟩
  | dicN ks => obtain ⟨a, kas, e, q⟩ := r; exact ⟨a, kas, e, q.any⟩
  | dicM ks => obtain ⟨a, kas, od, e, q⟩ := r; exact ⟨a, kas, od, e, q.any⟩
  | ins c kvs => obtain ⟨C, dx, vs, e, hc, q⟩ := r; exact ⟨C, dx, vs, e, hc, q.mapped hf hl⟩
  | exc c => exact r
  | tab c => exact r
end
structure Run (m : List D → Hd → Option (D × Hd)) (ds : List D) (hp : Hd) (d : D) (hp' : Hd) (σ κ : List Nat) (dsS : List D) (os : Hd) (d2 : D) (g : Hd) (f : Nat → Nat) (kp : Nat → Bool) : Prop where
  run : m dsS os = some (d2, g)
  nd : σ.Nodup
  lt : ∀ i ∈ σ, i < hp.length
  len : os.length = σ.length
  args : ds = D.rens σ dsS
  argsLt : D.lts σ.length dsS = true
  objs : ∀ (i : Nat) (o : O), os[i]? = some o → O.lt σ.length o = true ∧ hp[σ.getD i 0]? = some (O.ren σ o)
  kNd : κ.Nodup
  kLt : ∀ k ∈ κ, σ.length ≤ k ∧ k < g.length
  fOld : ∀ i, i < σ.length → f i = σ.getD i 0
  fNew : ∀ (t : Nat) (k : Nat), κ[t]? = some k → f k = hp.length + t
  kpIs : ∀ i, kp i = true → i < σ.length ∨ i ∈ κ
  res : D.all kp d2 = true ∧ d = D.map f d2
  len' : hp'.length = hp.length + κ.length
  rest : ∀ j, j < hp.length → j ∉ σ → hp'[j]? = hp[j]?
  old : ∀ i, i < σ.length → ∃ o, g[i]? = some o ∧ O.all kp o = true ∧ hp'[σ.getD i 0]? = some (O.map f o)
  new : ∀ (t : Nat) (k : Nat), κ[t]? = some k → ∃ o, g[k]? = some o ∧ O.all kp o = true ∧ hp'[hp.length + t]? = some (O.map f o)
def Cl (c m : List D → Hd → Option (D × Hd)) : Prop := ∀ ds hp d hp', c ds hp = some (d, hp') → ∃ σ κ dsS os d2 g f kp, Run m ds hp d hp' σ κ dsS os d2 g f kp
section
variable {K : PySem.W.Frag} {H : Hp} {μ : List Addr} {hp hp' : Hd} {m : List D → Hd → Option (D × Hd)} {ds dsS : List D} {d d2 : D} {σ κ : List Nat} {os g : Hd} {f : Nat → Nat} {kp : Nat → Bool}
theorem Run.start (R : Run m ds hp d hp' σ κ dsS os d2 g f kp) (rh : RelH K H μ hp) : RelH K H (pick μ σ) os := by
  have hσ : ∀ j ∈ σ, j < μ.length := fun j hj => by rw [rh.len]; exact R.lt j hj
  have hg : ∀ (i : Nat), i < σ.length → (pick μ σ)[i]? = μ[σ.getD i 0]? := fun i hi => by
    unfold pick
    have h1 : σ.getD i 0 = σ[i] := by simp [List.getD, hi]
    have h2 := hσ _ (List.getElem_mem hi)
    rw [List.getElem?_map, List.getElem?_eq_getElem hi, h1, List.getElem?_eq_getElem h2]
    simp [List.getD, h2]
  refine ⟨by simp [pick, R.len], ?_, fun i o a e1 e2 => ?_, fun i x a e1 e2 => ?_⟩
  · refine List.pairwise_iff_getElem.mpr fun i j hi hj hij => ?_
    have hi' : i < σ.length := by simpa [pick] using hi
    have hj' : j < σ.length := by simpa [pick] using hj
    have a1 := hσ _ (List.getElem_mem hi')
    have a2 := hσ _ (List.getElem_mem hj')
    have g1 : (pick μ σ)[i] = μ[σ[i]] := by simp [pick, List.getD, a1]
    have g2 : (pick μ σ)[j] = μ[σ[j]] := by simp [pick, List.getD, a2]
    rw [g1, g2]
    intro z
    have := (List.getElem_inj rh.nd).mp z
    have := (List.getElem_inj R.nd).mp this
    omega
  · obtain ⟨h1, h2⟩ := R.objs i o e1
    have hi : i < σ.length := by rw [← R.len]; exact (List.getElem?_eq_some_iff.mp e1).1
    rw [hg i hi] at e2
    exact (rh.obj _ _ a h2 e2).pick hσ h1
  · obtain ⟨h1, h2⟩ := R.objs i _ e1
    have hi : i < σ.length := by rw [← R.len]; exact (List.getElem?_eq_some_iff.mp e1).1
    rw [hg i hi] at e2
    exact rh.tabs _ x a h2 e2
theorem Run.sound (R : Run m ds hp d hp' σ κ dsS os d2 g f kp) (rh : RelH K H μ hp) {v : V} {H' : Hp} {μ2 : List Addr} (x : Ext (pick μ σ) H μ2 H') (rh2 : RelH K H' μ2 g) (rv : Rp K H' μ2 d2 v) :
    ∃ μ', Ext μ H μ' H' ∧ RelH K H' μ' hp' ∧ Rp K H' μ' d v := by
  have hσ : ∀ j ∈ σ, j < μ.length := fun j hj => by rw [rh.len]; exact R.lt j hj
  have hpl : (pick μ σ).length = σ.length := by simp [pick]
  have hg : ∀ (i : Nat), i < σ.length → (pick μ σ)[i]? = μ[σ.getD i 0]? := fun i hi => by
    unfold pick
    have h1 : σ.getD i 0 = σ[i] := by simp [List.getD, hi]
    have h2 := hσ _ (List.getElem_mem hi)
    rw [List.getElem?_map, List.getElem?_eq_getElem hi, h1, List.getElem?_eq_getElem h2]
    simp [List.getD, h2]
  have hsub : ∀ a ∈ pick μ σ, a ∈ μ := fun a ha => by
    obtain ⟨j, hj, e⟩ := List.mem_map.mp ha
    have := hσ j hj
    rw [← e]
    simp [List.getD, this]
  have h2i : ∀ (i : Nat), i < σ.length → μ2[i]? = μ[σ.getD i 0]? := fun i hi => by
    rw [← hg i hi]
    obtain ⟨ν, e⟩ := x.pre
    rw [e, List.getElem?_append_left (by rw [hpl]; exact hi)]
  let N := κ.map fun k => μ2.getD k 0
  have hN : ∀ (t k : Nat), κ[t]? = some k → N[t]? = μ2[k]? := fun t k e => by
    show (κ.map fun k => μ2.getD k 0)[t]? = _
    rw [List.getElem?_map, e]
    have hk : k < μ2.length := by rw [rh2.len]; exact (R.kLt k (List.mem_of_getElem? e)).2
    show some (μ2.getD k 0) = _
    rw [List.getElem?_eq_getElem hk]
    simp [List.getD, hk]
  have hnew : ∀ a ∈ N, a ∉ μ ∧ ∃ k ∈ κ, μ2[k]? = some a := fun a ha => by
    obtain ⟨k, hk, e⟩ := List.mem_map.mp ha
    obtain ⟨hk1, hk2⟩ := R.kLt k hk
    have hk2' : k < μ2.length := by rw [rh2.len]; exact hk2
    have e2 : μ2[k]? = some a := by
      rw [← e, List.getElem?_eq_getElem hk2']
      simp [List.getD, hk2']
    refine ⟨fun hm => ?_, k, hk, e2⟩
    by_cases hp1 : a ∈ pick μ σ
    · obtain ⟨i, hi, e3⟩ := List.mem_iff_getElem.mp hp1
      obtain ⟨ν, e4⟩ := x.pre
      have hi2 : i < μ2.length := by rw [e4, List.length_append]; omega
      have e5 : μ2[i]? = some a := by rw [e4, List.getElem?_append_left hi, List.getElem?_eq_getElem hi, e3]
      rw [List.getElem?_eq_getElem hi2] at e5
      rw [List.getElem?_eq_getElem hk2'] at e2
      have := (List.getElem_inj rh2.nd).mp ((Option.some.inj e5).trans (Option.some.inj e2).symm)
      rw [hpl] at hi
      omega
    · obtain ⟨u, eu, _⟩ := rh.taken hm
      exact x.new a u hp1 eu (List.mem_of_getElem? e2)
  have hf : ∀ k, kp k = true → k < μ2.length → (μ ++ N)[f k]? = μ2[k]? := fun k hk hl => by
    rcases R.kpIs k hk with h | h
    · rw [R.fOld k h, List.getElem?_append_left (hσ _ (by simp [List.getD, h])), h2i k h]
    · obtain ⟨t, ht, e⟩ := List.mem_iff_getElem.mp h
      have e' : κ[t]? = some k := by rw [List.getElem?_eq_getElem ht, e]
      rw [R.fNew t k e', List.getElem?_append_right (by rw [rh.len]; omega), rh.len, Nat.add_sub_cancel_left, hN t k e']
  have xx : Ext μ H (μ ++ N) H' := by
    refine ⟨⟨N, rfl⟩, fun a o hn e hm => ?_, fun a o hn e => x.keep a o (fun z => hn (hsub a z)) e, x.tups, x.scrs⟩
    rcases List.mem_append.mp hm with z | z
    · exact hn z
    · obtain ⟨_, k, hk, e2⟩ := hnew a z
      exact x.new a o (fun z => hn (hsub a z)) e (List.mem_of_getElem? e2)
  refine ⟨μ ++ N, xx, ⟨by rw [List.length_append, R.len', rh.len]; simp [N], ?_, fun j o a e1 e2 => ?_, fun j x1 a e1 e2 => ?_⟩, ?_⟩
  · refine List.nodup_append.mpr ⟨rh.nd, ?_, fun a ha b hb z => ?_⟩
    · refine List.pairwise_iff_getElem.mpr fun i j hi hj hij z => ?_
      have hi' : i < κ.length := by simpa [N] using hi
      have hj' : j < κ.length := by simpa [N] using hj
      have e1 := hN i κ[i] (List.getElem?_eq_getElem hi')
      have e2 := hN j κ[j] (List.getElem?_eq_getElem hj')
      rw [List.getElem?_eq_getElem hi] at e1
      rw [List.getElem?_eq_getElem hj] at e2
      have k1 : κ[i] < μ2.length := by rw [rh2.len]; exact (R.kLt _ (List.getElem_mem hi')).2
      have k2 : κ[j] < μ2.length := by rw [rh2.len]; exact (R.kLt _ (List.getElem_mem hj')).2
      rw [List.getElem?_eq_getElem k1] at e1
      rw [List.getElem?_eq_getElem k2] at e2
      have := (List.getElem_inj rh2.nd).mp (((Option.some.inj e1).symm.trans z).trans (Option.some.inj e2))
      have := (List.getElem_inj R.kNd).mp this
      omega
    · subst z
      exact (hnew a hb).1 ha
  · by_cases hj : j < hp.length
    · rw [List.getElem?_append_left (by rw [rh.len]; exact hj)] at e2
      by_cases hm : j ∈ σ
      · obtain ⟨i, hi, e⟩ := List.mem_iff_getElem.mp hm
        obtain ⟨o2, h1, h2, h3⟩ := R.old i hi
        have ej : σ.getD i 0 = j := by simp [List.getD, hi, e]
        rw [ej, e1] at h3
        cases h3
        have e3 := h2i i hi
        rw [ej, e2] at e3
        exact (rh2.obj i o2 a h1 e3).mapped hf h2
      · rw [R.rest j hj hm] at e1
        have q := rh.obj j o a e1 e2
        obtain ⟨u, eu, _⟩ := q.some
        have hna : a ∉ pick μ σ := fun z => by
          obtain ⟨k, hk, e⟩ := List.mem_map.mp z
          have hk2 := hσ k hk
          have e5 : μ[k]? = some a := by
            rw [← e, List.getElem?_eq_getElem hk2]
            simp [List.getD, hk2]
          obtain ⟨l1, e6⟩ := List.getElem?_eq_some_iff.mp e5
          obtain ⟨l2, e7⟩ := List.getElem?_eq_some_iff.mp e2
          have := (List.getElem_inj rh.nd).mp (e6.trans e7.symm)
          exact hm (this ▸ hk)
        rw [x.keep a u hna eu, ← eu]
        exact q.mon xx.m
    · have hj2 : j < hp'.length := (List.getElem?_eq_some_iff.mp e1).1
      have hlen' := R.len'
      have ht : j - hp.length < κ.length := by omega
      obtain ⟨o2, h1, h2, h3⟩ := R.new (j - hp.length) κ[j - hp.length] (List.getElem?_eq_getElem ht)
      have ej : hp.length + (j - hp.length) = j := by omega
      rw [ej, e1] at h3
      cases h3
      rw [List.getElem?_append_right (by rw [rh.len]; omega), rh.len, hN _ _ (List.getElem?_eq_getElem ht)] at e2
      exact (rh2.obj _ o2 a h1 e2).mapped hf h2
  · have tb : ∀ o : O, O.map f o = .tab x1 → o = .tab x1 := fun o z => by cases o <;> first | exact z | exact nomatch z
    by_cases hj : j < hp.length
    · rw [List.getElem?_append_left (by rw [rh.len]; exact hj)] at e2
      by_cases hm : j ∈ σ
      · obtain ⟨i, hi, e⟩ := List.mem_iff_getElem.mp hm
        obtain ⟨o2, h1, h2, h3⟩ := R.old i hi
        have ej : σ.getD i 0 = j := by simp [List.getD, hi, e]
        rw [ej, e1] at h3
        have e3 := h2i i hi
        rw [ej, e2] at e3
        rw [tb o2 (Option.some.inj h3).symm] at h1
        exact rh2.tabs i x1 a h1 e3
      · rw [R.rest j hj hm] at e1
        exact rh.tabs j x1 a e1 e2
    · have hj2 : j < hp'.length := (List.getElem?_eq_some_iff.mp e1).1
      have hlen' := R.len'
      have ht : j - hp.length < κ.length := by omega
      obtain ⟨o2, h1, h2, h3⟩ := R.new (j - hp.length) κ[j - hp.length] (List.getElem?_eq_getElem ht)
      have ej : hp.length + (j - hp.length) = j := by omega
      rw [ej, e1] at h3
      rw [List.getElem?_append_right (by rw [rh.len]; omega), rh.len, hN _ _ (List.getElem?_eq_getElem ht)] at e2
      rw [tb o2 (Option.some.inj h3).symm] at h1
      exact rh2.tabs _ x1 a h1 e2
  · rw [R.res.2]
    exact rv.mapped hf R.res.1
end
theorem Fn.cl {P : Program} {w : World} {K : PySem.W.Frag} {mg : Str → Option Value} {base : Heap} {k n : Nat} {x : Str} {m c : List D → Hd → Option (D × Hd)} (F : Fn P w K mg base k x n m) (h : Cl c m) : Fn P w K mg base k x n c := by
  obtain ⟨f, fd, ps, F, a, b, e⟩ := F.ex
  refine ⟨f, fd, ps, F.imp fun vs H Q E q => ?_, a, b, e⟩
  obtain ⟨hp, μ, ds, d, hp', hn, rh, r, ec, q⟩ := q
  obtain ⟨σ, κ, dsS, os, d2, g, f, kp, R⟩ := h ds hp d hp' ec
  have hσ : ∀ j ∈ σ, j < μ.length := fun j hj => by rw [rh.len]; exact R.lt j hj
  have ra : Rps K H (pick μ σ) dsS vs := Rps.pick hσ R.argsLt (by rw [← R.args]; exact r)
  refine ⟨os, pick μ σ, dsS, d2, g, ?_, R.start rh, ra, R.run, fun v H' μ2 x rh2 rv => ?_⟩
  · rw [← hn, R.args]
    have : ∀ l : List D, (D.rens σ l).length = l.length := by
      intro l
      induction l with
      | nil => rfl
      | cons y ys ih => rw [D.rens, List.length_cons, List.length_cons, ih]
    rw [this]
  · obtain ⟨μ', x', rh', rv'⟩ := R.sound rh x rh2 rv
    exact q v H' μ' x' rh' rv'
end Ve
namespace Ve
open PySem PySem.Spec L2
def cutD {α : Type} (xs : List α) (lo hi : Option Int) : List α := (xs.drop (HT.sIx xs.length 0 lo)).take (HT.sIx xs.length xs.length hi - HT.sIx xs.length 0 lo)
theorem Rps.cut {K : PySem.W.Frag} {H : Hp} {μ : List Addr} {ds : List D} {vs : List V} (r : Rps K H μ ds vs) (lo hi : Option Int) : Rps K H μ (cutD ds lo hi) (cutV vs lo hi) := by
  unfold cutD cutV
  rw [r.len]
  exact (r.drop _).take _
def gSl (x : D) (lo hi : Option Int) (hp : Hd) : Option (D × Hd) := match x with
  | .tup ds => some (.tup (cutD ds lo hi), hp)
  | .wt ds => if HT.sIx ds.length 0 lo = 0 ∧ HT.sIx ds.length ds.length hi = ds.length then some (.wt ds, hp) else some (.tup (cutD ds lo hi), hp)
  | .str z => if z.length ≤ sizeLine then some (.str (cutS z lo hi), hp) else none
  | .ref n => match hp[n]? with
    | some (.lst ds) => some (.ref hp.length, hp ++ [.lst (cutD ds lo hi)])
    | _ => none
  | _ => none
def mPo : Option AE → Ls → Hd → Option (Option Int × Hd)
  | none, _, hp => some (none, hp)
  | some f, ls, hp => match f ls hp with
    | some (.int i, hp1) => some (some i, hp1)
    | _ => none
def tOp' (K : PySem.W.Frag) (f : Option AE) : TO := fun σ H Q => ∃ ls hp μ o hp', Rl K H μ ls σ ∧ RelH K H μ hp ∧ mPo f ls hp = some (o, hp') ∧ ∀ H' μ', Ext μ H μ' H' → RelH K H' μ' hp' → Q o H'
abbrev DPO (X : Cx) (e : Option Expr) (f : Option AE) : Prop := PO X e (tOp' X.K f)
theorem PO.imp {X : Cx} {e : Option Expr} {t t' : TO} (h : PO X e t) (i : ∀ σ H Q, t' σ H Q → t σ H Q) : PO X e t' := ⟨fun pins s σ H Q I q => h.run pins s σ H Q I (i σ H Q q)⟩
def mSl (fa : AE) (fl fu : Option AE) : AE := fun ls hp => match fa ls hp with
  | some (x, hp1) => match mPo fl ls hp1 with
    | some (l, hp2) => match mPo fu ls hp2 with
      | some (u, hp3) => gSl x l u hp3
      | none => none
    | none => none
  | none => none
section
variable {X : Cx} {e a b : Expr} {es : List Expr} {fa fb : AE} {fl fm : AA} {fr : AA} {pos p2 : Pos} {lo hi : Option Expr} {ol oh : Option AE}
theorem dpo_none : DPO X none none := PO.imp po_none fun σ H Q ⟨ls, hp, μ, o, hp', rl, rh, e, q⟩ => by
  simp only [mPo] at e
  cases e
  exact q H μ Ext.refl rh
theorem dpo_some (h : DE X e fa) : DPO X (some e) (some fa) := PO.imp (po_some h) fun σ H Q ⟨ls, hp, μ, o, hp', rl, rh, e, q⟩ => by
  simp only [mPo] at e
  split at e
  · rename_i i hp1 e1
    cases e
    exact ⟨ls, hp, μ, .int i, hp', rl, rh, e1, fun v H1 μ1 x1 rh1 r1 => ⟨i, r1.intE, q H1 μ1 x1 rh1⟩⟩
  · cases e
theorem de_slice (ha : DE X a fa) (hl : DPO X lo ol) (hu : DPO X hi oh) : DE X (.Subscript a (.Slice lo hi none p2) pos) (mSl fa ol oh) :=
  PE.imp (pe_slice (SlR.or (SlR.or sl_tupA sl_list) sl_str) ha hl hu) fun σ H Q ⟨ls, hp, μ, d, hp', rl, rh, e, q⟩ => by
    unfold mSl at e
    split at e
    · rename_i x hp1 e1
      split at e
      · rename_i l hp2 e2
        split at e
        · rename_i u hp3 e3
          refine ⟨ls, hp, μ, x, hp1, rl, rh, e1, fun v H1 μ1 x1 rh1 r1 => ⟨ls, hp1, μ1, l, hp2, rl.ext x1, rh1, e2, fun H2 μ2 x2 rh2 => ⟨ls, hp2, μ2, u, hp3, (rl.ext x1).ext x2, rh2, e3, fun H3 μ3 x3 rh3 => ?_⟩⟩⟩
          have r3 := (r1.ext x2).ext x3
          have x13 := (x1.trans x2).trans x3
          unfold gSl at e
          split at e
          · rename_i ds
            cases e
            obtain ⟨p, vs, rfl, t, rs⟩ := r3.tupE
            refine .inl (.inl ⟨p, vs, rfl, t.sq, fun hw => ?_, fun _ p' hp0 => ?_⟩)
            · have hc : cutD ds l u = ds := by
                unfold cutD
                rw [← rs.len, hw.1, hw.2]
                simp
                rw [rs.len]
                exact List.take_length
              refine q _ H3 μ3 x13 rh3 ?_
              rw [hc]
              exact Rp.tup' t rs
            · have x4 := Ext.laid rh3 (o := .tup (cutV vs l u)) hp0
              exact q _ _ μ3 (x13.trans x4) (rh3.laid hp0) (Rp.tup upd_same ((rs.cut l u).ext x4))
          · rename_i ds
            obtain ⟨p, vs, rfl, t, rs⟩ := r3.wtE
            have r4 := r3
            split at e
            · rename_i hw
              cases e
              refine .inl (.inl ⟨p, vs, rfl, t.sq, fun _ => q _ H3 μ3 x13 rh3 r4, fun hn => absurd (by rw [rs.len]; exact hw) hn⟩)
            · rename_i hw
              cases e
              refine .inl (.inl ⟨p, vs, rfl, t.sq, fun hw2 => absurd (by rw [rs.len] at hw2; exact hw2) hw, fun _ p' hp0 => ?_⟩)
              have x4 := Ext.laid rh3 (o := .tup (cutV vs l u)) hp0
              exact q _ _ μ3 (x13.trans x4) (rh3.laid hp0) (Rp.tup upd_same ((rs.cut l u).ext x4))
          · split at e
            · rename_i z hz
              cases e
              exact .inr ⟨_, r3.strE, hz, q _ H3 μ3 x13 rh3 Rp.str⟩
            · cases e
          · rename_i n
            split at e
            · rename_i ds eh
              cases e
              obtain ⟨p, ep, rfl⟩ := r3.refE
              obtain ⟨vs, ev, rs⟩ := rh3.lst ep eh
              refine .inl (.inr ⟨p, vs, rfl, .inl (.inl ev), fun p' hp0 => ?_⟩)
              have x4 := Ext.laid rh3 (o := .lst (cutV vs l u)) hp0
              have rh4 := rh3.laid (o := .lst (cutV vs l u)) hp0
              have hn := rh3.notIn hp0
              refine q (.ref p') _ (μ3 ++ [p']) ((x13.trans x4).place (x13.back rh3 hp0)) (rh4.place hn ⟨_, upd_same, ((rs.cut l u).ext x4).mon Mon.grow⟩) ?_
              rw [Rp]
              refine ⟨p', ?_, rfl⟩
              rw [List.getElem?_append_right (by rw [rh3.len]; exact Nat.le_refl _), rh3.len]
              simp
            · cases e
          · cases e
        · cases e
      · cases e
    · cases e
def lstOf (d : D) (hp : Hd) : Option (List D) := match d with
  | .ref n => match hp[n]? with
    | some (.lst xs) => some xs
    | _ => none
  | _ => none
theorem lstOf_some {d : D} {hp : Hd} {xs : List D} (h : lstOf d hp = some xs) : ∃ n, d = .ref n ∧ hp[n]? = some (.lst xs) := by
  unfold lstOf at h
  split at h
  · rename_i n
    split at h
    · rename_i xs' e
      cases h
      exact ⟨n, rfl, e⟩
    · cases h
  · cases h
def mRep (fl : AA) (fb : AE) : AA := fun ls hp => match fl ls hp with
  | some (xs, hp1) => match fb ls hp1 with
    | some (.int k, hp2) => if 0 ≤ k ∧ k < 2 ^ 40 ∧ xs.length * k.toNat ≤ sizeLine then some ((List.replicate k.toNat xs).flatten, hp2) else none
    | _ => none
  | none => none
theorem Rps.rep {K : PySem.W.Frag} {H : Hp} {μ : List Addr} {ds : List D} {vs : List V} (r : Rps K H μ ds vs) : ∀ n : Nat, Rps K H μ (List.replicate n ds).flatten (List.replicate n vs).flatten
  | 0 => Rps.nil
  | n + 1 => by
    rw [List.replicate_succ, List.replicate_succ, List.flatten_cons, List.flatten_cons]
    exact r.append (Rps.rep r n)
theorem le_rep (ha : LE X a fl) (hb : DE X b fb) : LE X (.BinOp a .Mult b pos) (mRep fl fb) :=
  PE.imp (pe_op op_rep ha hb) fun σ H Q ⟨ls, hp, μ, ds, hp', rl, rh, e, q⟩ => by
    unfold mRep at e
    split at e
    · rename_i xs hp1 e1
      split at e
      · rename_i k hp2 e2
        split at e
        · rename_i hz
          cases e
          refine ⟨ls, hp, μ, xs, hp1, rl, rh, e1, fun p vs H1 μ1 x1 rh1 h0 hn hl r1 => ⟨ls, hp1, μ1, _, hp', rl.ext x1, rh1, e2, fun v2 H2 μ2 x2 rh2 r2 => ?_⟩⟩
          refine ⟨p, k, vs, rfl, r2.intE, x2.keep _ _ hn hl, by omega, by omega, by rw [r1.len]; exact hz.2.2, fun p' hp0 => ?_⟩
          have x4 := Ext.laid rh2 (o := .lst (List.replicate k.toNat vs).flatten) hp0
          exact q p' _ _ μ2 ((x1.trans x2).trans x4) (rh2.laid hp0) ((x1.trans x2).back rh2 hp0) (rh2.notIn hp0) upd_same (((r1.ext x2).rep k.toNat).ext x4)
        · cases e
      · cases e
    · cases e
end
end Ve
namespace Ve
open PySem PySem.Spec L2
def maxI : Int → List Int → Int
  | a, [] => a
  | a, b :: r => maxI (if a < b then b else a) r
def minI : Int → List Int → Int
  | a, [] => a
  | a, b :: r => minI (if b < a then b else a) r
theorem maxI_is : ∀ (r : List Int) (a : Int), (maxI a r = a ∨ maxI a r ∈ r) ∧ a ≤ maxI a r ∧ ∀ y ∈ r, y ≤ maxI a r
  | [], a => ⟨.inl rfl, Int.le_refl _, fun _ h => nomatch h⟩
  | b :: r, a => by
    obtain ⟨h1, h2, h3⟩ := maxI_is r (if a < b then b else a)
    unfold maxI
    refine ⟨?_, by split at h2 <;> rename_i h <;> simp only [h, if_true, if_false, ite_true, ite_false] <;> omega, fun y hy => ?_⟩
    · rcases h1 with h1 | h1
      · by_cases h : a < b
        · rw [if_pos h] at h1 ⊢
          exact .inr (by rw [h1]; exact List.mem_cons_self)
        · rw [if_neg h] at h1 ⊢
          exact .inl h1
      · exact .inr (List.mem_cons_of_mem _ h1)
    · rcases List.mem_cons.mp hy with e | e
      · subst e
        by_cases h : a < y
        · rw [if_pos h] at h2 ⊢
          exact h2
        · rw [if_neg h] at h2 ⊢
          omega
      · exact h3 y e
theorem minI_is : ∀ (r : List Int) (a : Int), (minI a r = a ∨ minI a r ∈ r) ∧ minI a r ≤ a ∧ ∀ y ∈ r, minI a r ≤ y
  | [], a => ⟨.inl rfl, Int.le_refl _, fun _ h => nomatch h⟩
  | b :: r, a => by
    obtain ⟨h1, h2, h3⟩ := minI_is r (if b < a then b else a)
    unfold minI
    refine ⟨?_, by split at h2 <;> rename_i h <;> simp only [h, if_true, if_false, ite_true, ite_false] <;> omega, fun y hy => ?_⟩
    · rcases h1 with h1 | h1
      · by_cases h : b < a
        · rw [if_pos h] at h1 ⊢
          exact .inr (by rw [h1]; exact List.mem_cons_self)
        · rw [if_neg h] at h1 ⊢
          exact .inl h1
      · exact .inr (List.mem_cons_of_mem _ h1)
    · rcases List.mem_cons.mp hy with e | e
      · subst e
        by_cases h : y < a
        · rw [if_pos h] at h2 ⊢
          exact h2
        · rw [if_neg h] at h2 ⊢
          omega
      · exact h3 y e
def maxD (ds : List D) : Option Int := match ints? ds with
  | some (a :: r) => some (maxI a r)
  | _ => none
def minD (ds : List D) : Option Int := match ints? ds with
  | some (a :: r) => some (minI a r)
  | _ => none
theorem maxD_some {ds : List D} {m : Int} (h : maxD ds = some m) : ∃ ns : List Int, ds = ns.map .int ∧ 0 < ns.length ∧ ∀ x, x ∈ ns → (∀ y, y ∈ ns → y ≤ x) → x = m := by
  unfold maxD at h
  split at h
  · rename_i a r e
    cases h
    obtain ⟨h1, h2, h3⟩ := maxI_is r a
    refine ⟨a :: r, ints?_eq e, Nat.succ_pos _, fun x hx hb => ?_⟩
    have := hb (maxI a r) (by rcases h1 with z | z; · rw [z]; exact List.mem_cons_self
                              · exact List.mem_cons_of_mem _ z)
    rcases List.mem_cons.mp hx with z | z
    · subst z
      omega
    · have := h3 x z
      omega
  · cases h
theorem minD_some {ds : List D} {m : Int} (h : minD ds = some m) : ∃ ns : List Int, ds = ns.map .int ∧ 0 < ns.length ∧ ∀ x, x ∈ ns → (∀ y, y ∈ ns → x ≤ y) → x = m := by
  unfold minD at h
  split at h
  · rename_i a r e
    cases h
    obtain ⟨h1, h2, h3⟩ := minI_is r a
    refine ⟨a :: r, ints?_eq e, Nat.succ_pos _, fun x hx hb => ?_⟩
    have := hb (minI a r) (by rcases h1 with z | z; · rw [z]; exact List.mem_cons_self
                              · exact List.mem_cons_of_mem _ z)
    rcases List.mem_cons.mp hx with z | z
    · subst z
      omega
    · have := h3 x z
      omega
  · cases h
def gMaxL (ds : List D) (hp : Hd) : Option (D × Hd) := match maxD ds with
  | some m => some (.int m, hp)
  | none => none
def gMinL (ds : List D) (hp : Hd) : Option (D × Hd) := match minD ds with
  | some m => some (.int m, hp)
  | none => none
section
variable {X : Cx}
theorem n_max (hc : X.calm = true) : CallR X (.builtin "max") (RN X.K gMaxL) := fun pins s σ H xs us Q I r ⟨hp, μ, ds, vs, p, d, hp', rh, ex, hn, hl, rs, e, q⟩ => by
  unfold gMaxL at e
  split at e
  · rename_i m em
    cases e
    subst ex
    obtain ⟨ns, rfl, h1, h2⟩ := maxD_some em
    have := rs.ints
    subst this
    exact cr_max hc pins s σ H _ us Q I r ⟨p, ns, rfl, .inl (.inl hl), h1, fun x hx hb => by rw [h2 x hx hb]; exact q _ H μ Ext.refl rh Rp.int⟩
  · cases e
theorem n_min (hc : X.calm = true) : CallR X (.builtin "min") (RN X.K gMinL) := fun pins s σ H xs us Q I r ⟨hp, μ, ds, vs, p, d, hp', rh, ex, hn, hl, rs, e, q⟩ => by
  unfold gMinL at e
  split at e
  · rename_i m em
    cases e
    subst ex
    obtain ⟨ns, rfl, h1, h2⟩ := minD_some em
    have := rs.ints
    subst this
    exact cr_min hc pins s σ H _ us Q I r ⟨p, ns, rfl, .inl (.inl hl), h1, fun x hx hb => by rw [h2 x hx hb]; exact q _ H μ Ext.refl rh Rp.int⟩
  · cases e
def seqOfL (d : D) (hp : Hd) : Option (List D) := match d with
  | .scr ns => some (ns.map .int)
  | d => lstOf d hp
theorem seqOfL_some {K : PySem.W.Frag} {H : Hp} {μ : List Addr} {hp : Hd} {d : D} {v : V} {ds : List D} (rh : RelH K H μ hp) (r : Rp K H μ d v) (h : seqOfL d hp = some ds) : ∃ a vs, v = .ref a ∧ SqL K H a vs ∧ Rps K H μ ds vs := by
  unfold seqOfL at h
  split at h
  · rename_i ns
    cases h
    obtain ⟨a, rfl, t⟩ := r.scrE
    refine ⟨a, _, rfl, t.sq, ?_⟩
    have go : ∀ ns : List Int, Rps K H μ (ns.map .int) (ns.map V.int) := by
      intro ns
      induction ns with
      | nil => exact Rps.nil
      | cons n ns ih => exact Rps.mk Rp.int ih
    exact go ns
  · obtain ⟨n, rfl, e⟩ := lstOf_some h
    obtain ⟨a, ea, rfl⟩ := r.refE
    obtain ⟨vs, ev, rs⟩ := rh.lst ea e
    exact ⟨a, vs, rfl, .inl (.inl ev), rs⟩
theorem Rps.erase {K : PySem.W.Frag} {H : Hp} {μ : List Addr} {ds : List D} {vs : List V} (h : Rps K H μ ds vs) (k : Nat) : Rps K H μ (ds.eraseIdx k) (vs.eraseIdx k) := by
  rw [List.eraseIdx_eq_take_drop_succ, List.eraseIdx_eq_take_drop_succ]
  exact (h.take _).append (h.drop _)
end
end Ve
namespace Ve
open PySem PySem.Spec L2 PyProof.Rows
def encD (hp : Hd) (d : D) : PyData := (pyF hp 15 d).getD .none
def isTupC : PyData → Bool
  | .tuple (_ :: _) => true
  | _ => false
def notTN : PyData → Bool
  | .tuple _ => false
  | .none => false
  | _ => true
def srtOk (hp : Hd) (ds : List D) : Bool := (ds.all fun d => (pyF hp 15 d).isSome) && ((ds.all fun a => ds.all fun b => PySem.W.alike (encD hp a) (encD hp b)) && (((ds.all fun d => isTupC (encD hp d)) || ds.all fun d => notTN (encD hp d)) && ds.all fun d => decide ((encD hp d).depth ≤ 40)))
def srt (hp : Hd) (ds : List D) : List D := ds.mergeSort (PySem.W.dataLe false (encD hp))
def RelD (K : PySem.W.Frag) (H : Hp) (μ : List Addr) (u : Value) (d : D) : Prop := ∃ v, RelV v u ∧ Rp K H μ d v
section
variable {K : PySem.W.Frag} {H : Hp} {μ : List Addr} {hp : Hd}
theorem each_of : ∀ {ds : List D} {vs : List V} {us : List Value}, Rps K H μ ds vs → Vals vs us → PySem.W.EachIs (RelD K H μ) us ds
  | [], vs, us, h, r => by
    rw [Rps] at h
    subst h
    cases r
    exact .nil
  | d :: ds, vs, us, h, r => by
    rw [Rps] at h
    obtain ⟨v, w, rfl, h1, h2⟩ := h
    cases r with
    | cons r1 r2 => exact .cons ⟨v, r1, h1⟩ (each_of h2 r2)
theorem each_back : ∀ {ds : List D} {us : List Value}, PySem.W.EachIs (RelD K H μ) us ds → ∃ vs, Vals vs us ∧ Rps K H μ ds vs
  | _, _, .nil => ⟨[], .nil, Rps.nil⟩
  | _, _, .cons ⟨v, r1, h1⟩ t => by
    obtain ⟨vs, r2, h2⟩ := each_back t
    exact ⟨v :: vs, .cons r1 r2, Rps.mk h1 h2⟩
theorem each_at {α β : Type} {R : α → β → Prop} : ∀ {us : List α} {ds : List β}, us.length = ds.length → (∀ (j : Nat) u d, us[j]? = some u → ds[j]? = some d → R u d) → PySem.W.EachIs R us ds
  | [], [], _, _ => .nil
  | [], _ :: _, h, _ => by simp at h
  | _ :: _, [], h, _ => by simp at h
  | u :: us, d :: ds, h, f => .cons (f 0 u d rfl rfl) (each_at (by simpa using h) fun j a b e1 e2 => f (j + 1) a b (by simpa using e1) (by simpa using e2))
theorem srtOk_parts {ds : List D} (h : srtOk hp ds = true) : (∀ d ∈ ds, ∃ p, pyF hp 15 d = some p) ∧ PySem.W.AllAlike (ds.map (encD hp)) ∧ PySem.W.Sortable (ds.map (encD hp)) ∧ ∀ d ∈ ds, (encD hp d).depth ≤ 40 := by
  unfold srtOk at h
  rw [Bool.and_eq_true, Bool.and_eq_true, Bool.and_eq_true] at h
  obtain ⟨h1, h2, h3, h4⟩ := h
  refine ⟨fun d hd => Option.isSome_iff_exists.mp (List.all_eq_true.mp h1 d hd), fun a ha b hb => ?_, ?_, fun d hd => of_decide_eq_true (List.all_eq_true.mp h4 d hd)⟩
  · obtain ⟨x, hx, rfl⟩ := List.mem_map.mp ha
    obtain ⟨y, hy, rfl⟩ := List.mem_map.mp hb
    exact List.all_eq_true.mp (List.all_eq_true.mp h2 x hx) y hy
  · rcases Bool.or_eq_true _ _ ▸ h3 with h3 | h3
    · refine .inl fun d hd => ?_
      obtain ⟨x, hx, rfl⟩ := List.mem_map.mp hd
      have := List.all_eq_true.mp h3 x hx
      unfold isTupC at this
      split at this
      · rename_i e
        exact ⟨_, _, e⟩
      · cases this
    · refine .inr fun d hd => ?_
      obtain ⟨x, hx, rfl⟩ := List.mem_map.mp hd
      have := List.all_eq_true.mp h3 x hx
      refine ⟨fun e => ?_, fun xs e => ?_⟩ <;> rw [e] at this <;> cases this
end
section
variable {X : Cx} {pins : List (Addr × Obj)} {σ : L2.St} {H : Hp} {s : Shared} {μ : List Addr} {hp : Hd}
theorem each_reads (I : Inv X pins σ H s) (rh : RelH X.K H μ hp) {us : List Value} {ds : List D} (h : ∀ d ∈ ds, ∃ p, pyF hp 15 d = some p) (e : PySem.W.EachIs (RelD X.K H μ) us ds) : PySem.W.EachIs (fun u d => ∃ as, Reads s.heap u (encD hp d) as) us ds := by
  induction e with
  | nil => exact .nil
  | @cons u d us ds h1 t ih =>
    obtain ⟨v, r, rv⟩ := h1
    refine .cons ?_ (ih fun d hd => h d (List.mem_cons_of_mem _ hd))
    obtain ⟨p, e⟩ := h d List.mem_cons_self
    have := pyF_dp rh 15 d p v e rv
    unfold encD
    rw [e]
    exact Dp.reads I p v _ this r
theorem sorted_core {us : List Value} {ds : List D} {A : Around} {h' : Heap} {a : Addr} {tk : Nat} (I1 : Inv X pins σ H { s with heap := h', toks := tk }) (rh : RelH X.K H μ hp) (er : PySem.W.EachIs (RelD X.K H μ) us ds) (hs : srtOk hp ds = true) (hu : A.units + 44 < cLine) (ha : h'.get? a = none) (hh : ∀ b o, h'.get? b = some o → b ≠ a) (h2 : Heap) (k2 : ∀ b o, h'.get? b = some o → h2.get? b = some o) :
    PySem.W.SortsAt X.prog X.w A { s with heap := PySem.W.sortingHeap h2 a us, toks := tk } (PySem.W.dataKind (PySem.W.sortingHeap h2 a us) (ds.map (encD hp))) us ∧
      PySem.W.EachIs (RelD X.K H μ) (PySem.W.sortVals (PySem.W.dataKind (PySem.W.sortingHeap h2 a us) (ds.map (encD hp))) false us us) (srt hp ds) := by
  obtain ⟨h1, hal, hk, hdep⟩ := srtOk_parts hs
  have er1 := each_reads I1 rh h1 er
  have er2 : PySem.W.EachIs (fun u d => ∃ as, Reads (PySem.W.sortingHeap h2 a us) u (encD hp d) as) us ds := er1.mono fun _ _ ⟨as, r⟩ => ⟨as, PyProof.Rows.Reads.keeps (fun b o e => PySem.W.sortingHeap_old (hh b o e) (k2 b o e)) r⟩
  refine ⟨PySem.W.SortsAt.data (s := { s with heap := PySem.W.sortingHeap h2 a us, toks := tk }) (PySem.W.each_map (R := fun v d => ∃ as, Reads (PySem.W.sortingHeap h2 a us) v d as) (encD hp) er2) hal hk fun d hd => ?_, PySem.W.sortVals_data false er er2 hal⟩
  obtain ⟨x, hx, rfl⟩ := List.mem_map.mp hd
  have := hdep x hx
  omega
theorem sorted_of_src {T : String} {r d : Addr} {n : Nat} {P : Nat → Value → Prop} {OK : Heap → Prop} (KS : PySem.W.KdlSrc X.prog X.w T r d n P OK) (I : Inv X pins σ H s) (hc : X.calm = true) (hok : OK s.heap) (hn : n ≤ sizeLine) {ds : List D} (rh : RelH X.K H μ hp) (hs : srtOk hp ds = true) (hu : X.A.units + 64 < cLine) {Q : VK}
    (hacc : ∀ acc : Array Value, ItemsOf P acc n → PySem.W.EachIs (RelD X.K H μ) acc.toList ds) (q : ∀ p vs, H p = none → Rps X.K H μ (srt hp ds) vs → Q (.ref p) (upd H p (.lst vs))) :
    wpAny (model X.prog X.w) X.A (call (.builtin "sorted") [.ref r]) (EP X pins σ Q) X.xe s := by
  refine Calls.call_function_entry PyProof.Rows.kind_sorted PyProof.Rows.plain_sorted PyProof.Rows.entry_sorted (PyProof.Rows.args_sorted1 _) ?_
  unfold Builtin.«sorted»
  refine wpAny_bind (m := checkCount "sorted" 1 1 _) (wpAny_pure ?_)
  refine wpAny_bind (PySem.W.kdu_collect (A := X.A.in1) KS (I.ok.hd hc) hok hn fun h' tk acc hk hit => ?_)
  have er := hacc acc hit
  have I1 : Inv X pins σ H { s with heap := h', toks := tk } := I.kept hk
  have hz : acc.toList.length ≤ sizeLine := by rw [Array.length_toList, hit.1]; exact hn
  refine wpAny_bind (wpAny_newList ?_ hz)
  have hoL : (h'.push (seqObj "list" acc.toList.toArray 0)).get? h'.objs.size = some (seqObj "list" acc.toList.toArray 0) := Heap.get?_push_size _ rfl
  have hlt : ∀ b o, h'.get? b = some o → b ≠ h'.objs.size := fun b o e => Nat.ne_of_lt (Heap.lt_size e)
  have h0 : h'.get? h'.objs.size = none := by
    cases hh : h'.get? h'.objs.size with
    | none => rfl
    | some o => exact absurd rfl (hlt _ o hh)
  obtain ⟨S, eo⟩ := sorted_core (A := X.A.in1.in1) I1 rh er hs (show X.A.units + 1 + 1 + 44 < cLine by omega) h0 hlt (h'.push (seqObj "list" acc.toList.toArray 0)) fun b o e => Heap.get?_push_of_some _ e
  show wpAny _ _ _ _ _ { s with heap := h'.push (seqObj "list" acc.toList.toArray 0), toks := tk }
  refine wpAny_bind (wpAny_holding (wpAny_call_entry PyProof.Rows.slot_list_sort ⟨_, hoL, rfl⟩ PyProof.Rows.entry_list_sort
    (PySem.W.list_sort_vals (s := { s with heap := h'.push (seqObj "list" acc.toList.toArray 0), toks := tk }) hoL S hz ⟨_, rfl, ?_⟩)
    (PyProof.Rows.args_list_sort _)))
  obtain ⟨vs', rv', rs'⟩ := each_back eo
  obtain ⟨e', he'⟩ := PyProof.Rows.sortedHeap_at (vs := acc.toList) (out := (PySem.W.sortVals (PySem.W.dataKind (PySem.W.sortingHeap (h'.push (seqObj "list" acc.toList.toArray 0)) h'.objs.size acc.toList) (ds.map (encD hp))) false acc.toList acc.toList).toArray) hoL
  have hlen : vs'.length ≤ sizeLine := by
    rw [rs'.len]
    unfold srt
    rw [List.length_mergeSort, ← er.length]
    exact hz
  refine wpAny_pure ⟨_, rfl, .ref h'.objs.size, upd H h'.objs.size (.lst vs'), I1.laid (t' := tk) (fun b u e => ?_) (Nat.le_refl _)
    (show ObjOk X.prog X.w _ _ _ (.lst vs') from ⟨hlen, _, e', rv', he'⟩), rfl, q _ vs' (I1.hok.fresh (Nat.le_refl _)) rs'⟩
  have hb : b < h'.objs.size := Heap.lt_size e
  rw [PyProof.Rows.sortedHeap_old (Nat.ne_of_lt hb) (by rw [size_push']; exact Nat.lt_succ_of_lt hb)]
  exact Heap.get?_push_of_some _ e
theorem sorted_of_list {a : Addr} {ds : List D} {vs : List V} (I : Inv X pins σ H s) (hq : SqL X.K H a vs) (rs : Rps X.K H μ ds vs) (rh : RelH X.K H μ hp) (hs : srtOk hp ds = true) (hu : X.A.units + 64 < cLine) {Q : VK}
    (q : ∀ p vs, H p = none → Rps X.K H μ (srt hp ds) vs → Q (.ref p) (upd H p (.lst vs))) :
    wpAny (model X.prog X.w) X.A (call (.builtin "sorted") [.ref a]) (EP X pins σ Q) X.xe s := by
  obtain ⟨its, rv, hl, hz⟩ := I.list hq
  have er := each_of rs rv
  obtain ⟨h1, hal, hk, hdep⟩ := srtOk_parts hs
  refine PySem.W.sorted_data (bs := ds) (enc := encD hp) hl.isList er (each_reads I rh h1 er) hal hk (by rw [← rs.len]; exact hz) (fun b hb => ?_) fun out ho eo => ?_
  · have := hdep b hb
    omega
  · obtain ⟨vs', rv', rs'⟩ := each_back (ds := srt hp ds) eo
    obtain ⟨ep, he'⟩ := PyProof.Rows.sortedAll_at s.heap its out.toArray
    have hlen : vs'.length ≤ sizeLine := by
      rw [rs'.len]
      unfold srt
      rw [List.length_mergeSort, ← rs.len]
      exact hz
    exact ⟨.ref _, upd H (s.heap.objs.size + 1) (.lst vs'), I.laid (t' := s.toks) (fun _ _ => PyProof.Rows.sortedAll_old) (Nat.le_succ _) ⟨hlen, out, ep, rv', he'⟩, rfl, q _ vs' (I.hok.fresh (Nat.le_succ _)) rs'⟩
end
end Ve
namespace Ve
open PySem PySem.Spec L2
def TLL (K : PySem.W.Frag) (hp' : Hd) (ds' : List D) (μ : List Addr) (H : Hp) (Q : VK) : Prop := ∀ a ws H' μ', Ext μ H μ' H' → RelH K H' μ' hp' → H a = none → a ∉ μ' → H' a = some (.lst ws) → Rps K H' μ' ds' ws → Q (.ref a) H'
def RNL (K : PySem.W.Frag) (g : List D → Hd → Option (List D × Hd)) : List V → Hp → VK → Prop := fun xs H Q => ∃ hp μ ds vs p ds' hp', RelH K H μ hp ∧ xs = [.ref p] ∧ SqL K H p vs ∧ Rps K H μ ds vs ∧ g ds hp = some (ds', hp') ∧ TLL K hp' ds' μ H Q
def gSrt (ds : List D) (hp : Hd) : Option (List D × Hd) := if srtOk hp ds = true then some (srt hp ds, hp) else none
section
variable {X : Cx} {e a b : Expr} {es : List Expr} {fa fb : AE} {fl fm : AA} {fr : AA} {pos : Pos}
theorem n_sorted (hu : X.A.units + 64 < cLine) : CallR X (.builtin "sorted") (RNL X.K gSrt) := fun pins s σ H xs us Q I r ⟨hp, μ, ds, vs, p, ds', hp', rh, ex, hq, rs, e, q⟩ => by
  unfold gSrt at e
  split at e
  · rename_i hs
    cases e
    subst ex
    rw [Vals.ref1 r]
    refine sorted_of_list I hq rs rh hs hu fun p' vs' h0 rs' => ?_
    have x := Ext.laid rh (o := .lst vs') h0
    exact q p' vs' _ μ x (rh.laid h0) h0 (rh.notIn h0) upd_same (rs'.ext x)
  · cases e
def mSortedL (fl : AA) : AA := fun ls hp => match fl ls hp with
  | some (ds, hp1) => gSrt ds hp1
  | none => none
theorem le_sortedL {x : Str} {p : Pos} (hu : X.A.units + 64 < cLine) (hg : Gl X x) (hm : X.mg x = none) (hv : bootBuiltins x = some (.builtin "sorted")) (ha : LE X e fl) (hn : x ≠ "__name__" := by decide)
    (hdb : (x == ("__debug__" : Str)) = false := by decide) (he : starEach [e] X.env = (false, eval e X.env) :: starEach [] X.env := by rfl) : LE X (.Call (.Name x p) [e] [] pos) (mSortedL fl) :=
  PE.imp (pe_callB (n_sorted hu) hg hm hv (pa_cons ha pa_nil he) hn hdb he rfl) fun σ H Q ⟨ls, hp, μ, ds, hp', rl, rh, e, q⟩ => by
    unfold mSortedL at e
    split at e
    · rename_i xs hp1 e1
      exact ⟨ls, hp, μ, xs, hp1, rl, rh, e1, fun p vs H1 μ1 x1 rh1 h0 hn hl r1 => ⟨hp1, μ1, xs, vs, p, ds, hp', rh1, rfl, .inl (.inl hl), r1, e, fun a ws H2 μ2 x2 rh2 h2 n2 l2 r2 =>
        q a ws H2 μ2 (x1.trans x2) rh2 (x1.back rh1 h2) n2 l2 r2⟩⟩
    · cases e
def keysOf : D → Hd → Option (List D)
  | .ref n, hp => match hp[n]? with
    | some (.dic kvs) => some (kvs.map (·.1))
    | _ => none
  | _, _ => none
theorem keysOf_some {d : D} {hp : Hd} {ds : List D} (h : keysOf d hp = some ds) : ∃ n kvs, d = .ref n ∧ hp[n]? = some (.dic kvs) ∧ ds = kvs.map (·.1) := by
  unfold keysOf at h
  split at h
  · split at h
    · rename_i e
      cases h
      exact ⟨_, _, rfl, e, rfl⟩
    · cases h
  · cases h
theorem Rp.ofKey {K : PySem.W.Frag} {H : Hp} {μ : List Addr} {d : D} {k : Key} (h : toKey d = some k) : Rp K H μ d (kV k) := by
  cases d <;> simp only [toKey] at h <;> try (cases h; done)
  · cases h
    exact Rp.int
  · cases h
    exact Rp.str
theorem Rps.ofKeys {K : PySem.W.Frag} {H : Hp} {μ : List Addr} : ∀ {ds : List D} {ks : List Key}, toKeys ds = some ks → Rps K H μ ds (ks.map kV)
  | [], ks, h => by
    simp only [toKeys] at h
    cases h
    exact Rps.nil
  | d :: ds, ks, h => by
    simp only [toKeys] at h
    split at h
    · rename_i k ks' e1 e2
      cases h
      exact Rps.mk (Rp.ofKey e1) (Rps.ofKeys e2)
    · cases h
theorem RpK.at_ {K : PySem.W.Frag} {H : Hp} {μ : List Addr} : ∀ {kvs : List (D × D)} {vs : List (Key × V)} {i : Nat} {k : Key} {v : V}, RpK K H μ kvs vs → vs[i]? = some (k, v) → ∃ p, kvs[i]? = some p ∧ toKey p.1 = some k ∧ Rp K H μ p.2 v
  | [], _, i, k, v, h, e => by
    rw [RpK] at h
    subst h
    simp at e
  | x :: xs, _, i, k, v, h, e => by
    rw [RpK] at h
    obtain ⟨ka, w, rs, rfl, h1, h2, h3⟩ := h
    cases i with
    | zero =>
      simp at e
      obtain ⟨rfl, rfl⟩ := e
      exact ⟨x, rfl, h1, h2⟩
    | succ i =>
      obtain ⟨p, e1, e2⟩ := RpK.at_ h3 (by simpa using e)
      exact ⟨p, by simpa using e1, e2⟩
theorem RpT.at_ {K : PySem.W.Frag} {H : Hp} {μ : List Addr} : ∀ {kvs : List (D × D)} {vs : List (List Key × V)} {i : Nat} {k : List Key} {v : V}, RpT K H μ kvs vs → vs[i]? = some (k, v) → ∃ p ds, kvs[i]? = some p ∧ p.1 = .tup ds ∧ toKeys ds = some k ∧ Rp K H μ p.2 v
  | [], _, i, k, v, h, e => by
    rw [RpT] at h
    subst h
    simp at e
  | x :: xs, _, i, k, v, h, e => by
    rw [RpT] at h
    obtain ⟨ds, ka, w, rs, e0, rfl, h1, h2, h3⟩ := h
    cases i with
    | zero =>
      simp at e
      obtain ⟨rfl, rfl⟩ := e
      exact ⟨x, ds, rfl, e0, h1, h2⟩
    | succ i =>
      obtain ⟨p, ds, e1, e2⟩ := RpT.at_ h3 (by simpa using e)
      exact ⟨p, ds, by simpa using e1, e2⟩
theorem paired_at {α β : Type} {R : α → β → Prop} : ∀ {xs : List α} {ys : List β} {i : Nat} {y : β}, Paired R xs ys → ys[i]? = some y → ∃ x, xs[i]? = some x ∧ R x y
  | _, _, _, _, .nil, e => by simp at e
  | _, _, 0, _, .cons r _, e => by
    simp at e
    subst e
    exact ⟨_, rfl, r⟩
  | _, _, i + 1, _, .cons _ t, e => by
    obtain ⟨x, e1, r⟩ := paired_at t (by simpa using e)
    exact ⟨x, by simpa using e1, r⟩
def RDL (K : PySem.W.Frag) (g : D → Hd → Option (List D × Hd)) : List V → Hp → VK → Prop := fun xs H Q => ∃ hp μ d v ds' hp', RelH K H μ hp ∧ xs = [v] ∧ Rp K H μ d v ∧ g d hp = some (ds', hp') ∧ TLL K hp' ds' μ H Q
def gSrtO (d : D) (hp : Hd) : Option (List D × Hd) := match seqOfL d hp with
  | some ds => gSrt ds hp
  | none => match keysOf d hp with
    | some ds => gSrt ds hp
    | none => none
theorem c_sorted (hc : X.calm = true) (hu : X.A.units + 64 < cLine) : CallR X (.builtin "sorted") (RDL X.K gSrtO) := fun pins s σ H xs us Q I r ⟨hp, μ, d, v, ds', hp', rh, ex, rd, e, q⟩ => by
  unfold gSrtO at e
  split at e
  · rename_i ds e1
    unfold gSrt at e
    split at e
    · rename_i hs
      cases e
      subst ex
      obtain ⟨a, vs, rfl, hq, rs⟩ := seqOfL_some rh rd e1
      rw [Vals.ref1 r]
      refine sorted_of_list I hq rs rh hs hu fun p' vs' h0 rs' => ?_
      have x := Ext.laid rh (o := .lst vs') h0
      exact q p' vs' _ μ x (rh.laid h0) h0 (rh.notIn h0) upd_same (rs'.ext x)
    · cases e
  · split at e
    · rename_i ds e1
      unfold gSrt at e
      split at e
      · rename_i hs
        cases e
        subst ex
        obtain ⟨n, kvs, rfl, eh, rfl⟩ := keysOf_some e1
        obtain ⟨a, ea, rfl⟩ := rd.refE
        rw [Vals.ref1 r]
        have fin : ∀ p vs, H p = none → Rps X.K H μ (srt hp (kvs.map (·.1))) vs → Q (.ref p) (upd H p (.lst vs)) := fun p' vs' h0 rs' => by
          have x := Ext.laid rh (o := .lst vs') h0
          exact q p' vs' _ μ x (rh.laid h0) h0 (rh.notIn h0) upd_same (rs'.ext x)
        obtain ⟨nd, ⟨vs, ev, rk⟩ | ⟨vs, ev, rk⟩⟩ := rh.dic ea eh
        · obtain ⟨z, lo, ws, rel, dd⟩ := dk_of I.hok ev
          obtain ⟨ep, hat⟩ := dd.dictAt
          have l1 : vs.length = ws.length := Paired.length rel
          refine sorted_of_src (PySem.W.kdl_dict (knd := mixKind X.prog X.w) (kvs := ws) (ep := ep) lo) I hc hat (by omega) rh hs hu (fun acc hit => ?_) fin
          have la : acc.toList.length = vs.length := by rw [Array.length_toList, hit.1]; exact l1.symm
          refine each_at (by rw [la, rk.len, List.length_map]) fun j u d hu' hd => ?_
          obtain ⟨k, x, e2, e3⟩ := hit.2 j u (by rw [← Array.getElem?_toList]; exact hu')
          obtain ⟨⟨k2, v2⟩, e4, e5, _⟩ := paired_at rel e2
          have e5 : k2 = k := e5
          subst e5
          obtain ⟨p, e6, e7, _⟩ := rk.at_ e4
          rw [List.getElem?_map, e6] at hd
          cases hd
          exact ⟨kV k2, keyIs_rel e3, Rp.ofKey e7⟩
        · obtain ⟨z, hsm, ks, pr, o, es, ep, ho, hx, hdt, he, hn⟩ := (show ObjOk X.prog X.w H s.heap a (.dT vs) from I.hok a _ ev)
          have l1 : es.size = ks.length := size_of_entries he
          have l2 : vs.length = ks.length := Paired.length pr
          refine sorted_of_src (kdl_raw hsm hx hdt) I hc ho (by omega) rh hs hu (fun acc hit => ?_) fin
          have la : acc.toList.length = vs.length := by rw [Array.length_toList, hit.1]; omega
          refine each_at (by rw [la, rk.len, List.length_map]) fun j u d hu' hd => ?_
          obtain ⟨en, hen, hv⟩ := hit.2 j u (by rw [← Array.getElem?_toList]; exact hu')
          have qe := entry_at he j
          rw [hen] at qe
          cases hb : ks[j]? with
          | none =>
            rw [hb] at qe
            exact nomatch (show some en = none from qe)
          | some b =>
            rw [hb] at qe
            have e2 : en = entryOfKey (tupleKind (mixKind X.prog X.w)) b := Option.some.inj qe
            obtain ⟨⟨k2, v2⟩, e4, e5, e6, _⟩ := paired_at pr hb
            obtain ⟨p, dks, e7, e8, e9, _⟩ := rk.at_ e4
            rw [List.getElem?_map, e7] at hd
            cases hd
            refine ⟨.ref b.2.1, ?_, ?_⟩
            · rw [hv, e2]
              rfl
            · show Rp X.K H μ p.1 _
              rw [e8]
              exact Rp.tup e6 (Rps.ofKeys e9)
      · cases e
    · cases e
def mSorted (fa : AE) : AA := fun ls hp => match fa ls hp with
  | some (d, hp1) => gSrtO d hp1
  | none => none
theorem le_sorted {x : Str} {p : Pos} (hc : X.calm = true) (hu : X.A.units + 64 < cLine) (hg : Gl X x) (hm : X.mg x = none) (hv : bootBuiltins x = some (.builtin "sorted")) (ha : DE X e fa) (hn : x ≠ "__name__" := by decide)
    (hdb : (x == ("__debug__" : Str)) = false := by decide) (he : starEach [e] X.env = (false, eval e X.env) :: starEach [] X.env := by rfl) : LE X (.Call (.Name x p) [e] [] pos) (mSorted fa) :=
  PE.imp (pe_callB (c_sorted hc hu) hg hm hv (pa_cons ha pa_nil he) hn hdb he rfl) fun σ H Q ⟨ls, hp, μ, ds, hp', rl, rh, e, q⟩ => by
    unfold mSorted at e
    split at e
    · rename_i d hp1 e1
      exact ⟨ls, hp, μ, d, hp1, rl, rh, e1, fun v H1 μ1 x1 rh1 r1 => ⟨hp1, μ1, d, v, ds, hp', rh1, rfl, r1, e, fun a ws H2 μ2 x2 rh2 h2 n2 l2 r2 =>
        q a ws H2 μ2 (x1.trans x2) rh2 (x1.back rh1 h2) n2 l2 r2⟩⟩
    · cases e
end
end Ve
namespace Ve
open PySem PySem.Spec L2
def prs? : List D → Option (List (D × D))
  | [] => some []
  | .tup [k, v] :: r => (prs? r).map ((k, v) :: ·)
  | _ :: _ => none
def putAll (acc : List (D × D)) : List (D × D) → List (D × D)
  | [] => acc
  | p :: r => putAll (putD acc p.1 p.2) r
def tupKey : D → Bool
  | .tup ks => (toKeys ks).isSome
  | _ => false
theorem prs?_cons {d : D} {ds : List D} {ps : List (D × D)} (h : prs? (d :: ds) = some ps) : ∃ k v ps', d = .tup [k, v] ∧ prs? ds = some ps' ∧ ps = (k, v) :: ps' := by
  unfold prs? at h
  split at h
  · rename_i e; cases e
  · rename_i k v r e
    cases e
    cases e2 : prs? ds with
    | none => rw [e2] at h; cases h
    | some ps' =>
      rw [e2] at h
      cases h
      exact ⟨k, v, ps', rfl, rfl, rfl⟩
  · cases h
section
variable {K : PySem.W.Frag} {H : Hp} {μ : List Addr}
theorem RpK.putAll : ∀ {ps : List (D × D)} {kvs : List (Key × V)} {acc : List (D × D)} {av : List (Key × V)}, RpK K H μ ps kvs → KNd acc → RpK K H μ acc av → KNd (Ve.putAll acc ps) ∧ RpK K H μ (Ve.putAll acc ps) (mergeK av kvs)
  | [], kvs, acc, av, h, nd, r => by
    rw [RpK] at h
    subst h
    exact ⟨nd, r⟩
  | p :: ps, kvs, acc, av, h, nd, r => by
    rw [RpK] at h
    obtain ⟨k, v, rs, rfl, h1, h2, h3⟩ := h
    have := RpK.putAll h3 nd.put (r.put h1 h2 nd)
    exact this
def mergeT (kvs more : List (List Key × V)) : List (List Key × V) := more.foldl (fun acc kv => putK acc kv.1 kv.2) kvs
theorem RpT.putAll : ∀ {ps : List (D × D)} {kvs : List (List Key × V)} {acc : List (D × D)} {av : List (List Key × V)}, RpT K H μ ps kvs → KNd acc → RpT K H μ acc av → KNd (Ve.putAll acc ps) ∧ RpT K H μ (Ve.putAll acc ps) (mergeT av kvs)
  | [], kvs, acc, av, h, nd, r => by
    rw [RpT] at h
    subst h
    exact ⟨nd, r⟩
  | p :: ps, kvs, acc, av, h, nd, r => by
    rw [RpT] at h
    obtain ⟨ks, k, v, rs, e0, rfl, h1, h2, h3⟩ := h
    obtain ⟨p1, p2⟩ := p
    have e0 : p1 = .tup ks := e0
    subst e0
    have := RpT.putAll h3 nd.put (r.put h1 h2 nd)
    exact this
theorem KT.putAll : ∀ {kvs : List (List Key × Addr × V)} {us : List (List Key × Addr × Value)} {acc : List (List Key × V)} {av : List (List Key × Addr × Value)}, Paired (fun p q => p.1 = q.1 ∧ p.2.1 = q.2.1 ∧ H p.2.1 = some (.tup (p.1.map kV)) ∧ RelV p.2.2 q.2.2) kvs us → KT H acc av →
    KT H (mergeT acc (kvs.map fun x => (x.1, x.2.2))) (storedAllH av us)
  | _, _, _, _, .nil, r => r
  | _, _, _, _, .cons (a := p) (b := q) h t, r => by
    obtain ⟨h1, h2, h3, h4⟩ := h
    obtain ⟨k, b, u⟩ := q
    obtain ⟨k', b', v⟩ := p
    cases h1
    cases h2
    have := KT.putAll t (r.put _ h3 h4)
    exact this
end
end Ve
namespace Ve
open PySem PySem.Spec L2
section
variable {K : PySem.W.Frag} {H H' : Hp} {μ : List Addr} {hp : Hd}
theorem Mon.looseD {D : Addr} {u o : HO} (h : H D = some u) (n1 : ∀ xs, u ≠ .tup xs) (n2 : ∀ ob xs, u ≠ .frz ob xs) : Mon μ H μ (upd H D o) :=
  ⟨⟨[], by simp⟩, fun a ys e => by rw [upd_ne (fun z => by subst z; rw [h] at e; exact n1 _ (Option.some.inj e))]; exact e, fun a ob ys _ e => by rw [upd_ne (fun z => by subst z; rw [h] at e; exact n2 _ _ (Option.some.inj e))]; exact e⟩
theorem RelH.looseD (r : RelH K H μ hp) {D : Addr} {u o : HO} (h : H D = some u) (n1 : ∀ xs, u ≠ .tup xs) (n2 : ∀ ob xs, u ≠ .frz ob xs) (hn : D ∉ μ) : RelH K (upd H D o) μ hp :=
  ⟨r.len, r.nd, fun n ob a e1 e2 => by
    rw [upd_ne (fun z => hn (by rw [← z]; exact List.mem_of_getElem? e2))]
    exact (r.obj n ob a e1 e2).mon (Mon.looseD h n1 n2), r.tabs⟩
theorem Rp.last {p : Addr} (rh : RelH K H μ hp) : Rp K H' (μ ++ [p]) (.ref hp.length) (.ref p) := by
  rw [Rp]
  refine ⟨p, ?_, rfl⟩
  rw [List.getElem?_append_right (by rw [rh.len]; exact Nat.le_refl _), rh.len]
  simp
end
def mPairs : List (AE × AE) → Ls → Hd → Option (List (D × D) × Hd)
  | [], _, hp => some ([], hp)
  | (fk, fv) :: r, ls, hp => match fk ls hp with
    | some (k, hp1) => match fv ls hp1 with
      | some (v, hp2) => match mPairs r ls hp2 with
        | some (ps, hp3) => some ((k, v) :: ps, hp3)
        | none => none
      | none => none
    | none => none
def mDict (m : List (AE × AE)) : AE := fun ls hp => match mPairs m ls hp with
  | some (ps, hp1) => if (((ps.all fun p => (toKey p.1).isSome) || ps.all fun p => tupKey p.1) && decide (ps.length ≤ 15)) = true then some (.ref hp1.length, hp1 ++ [.dic (putAll [] ps)]) else none
  | none => none
def RpP (K : PySem.W.Frag) (H : Hp) (μ : List Addr) : List (D × D) → List (V × V) → Prop
  | [], vs => vs = []
  | p :: ps, vs => ∃ x y r, vs = (x, y) :: r ∧ Rp K H μ p.1 x ∧ Rp K H μ p.2 y ∧ RpP K H μ ps r
def trsOf (K : PySem.W.Frag) (m : List (AE × AE)) : List (TE × TE) := m.map fun p => (tD K p.1, tD K p.2)
theorem tPairs_of {K : PySem.W.Frag} {σ : L2.St} : ∀ {m : List (AE × AE)} {ls : Ls} {hp hp' : Hd} {H : Hp} {μ : List Addr} {ps : List (D × D)} {Q : List (V × V) → Hp → Prop}, Rl K H μ ls σ → RelH K H μ hp → mPairs m ls hp = some (ps, hp') →
    (∀ vs H' μ', Ext μ H μ' H' → RelH K H' μ' hp' → RpP K H' μ' ps vs → Q vs H') → tPairs (trsOf K m) σ H Q
  | [], ls, hp, hp', H, μ, ps, Q, rl, rh, e, q => by
    simp only [mPairs] at e
    cases e
    exact q [] H μ Ext.refl rh rfl
  | (fk, fv) :: m, ls, hp, hp', H, μ, ps, Q, rl, rh, e, q => by
    simp only [mPairs] at e
    split at e
    · rename_i k hp1 e1
      split at e
      · rename_i v hp2 e2
        split at e
        · rename_i ps' hp3 e3
          cases e
          refine ⟨ls, hp, μ, k, hp1, rl, rh, e1, fun x H1 μ1 x1 rh1 r1 => ⟨ls, hp1, μ1, v, hp2, rl.ext x1, rh1, e2, fun y H2 μ2 x2 rh2 r2 => ?_⟩⟩
          exact tPairs_of (m := m) ((rl.ext x1).ext x2) rh2 e3 fun vs H3 μ3 x3 rh3 r3 => q _ H3 μ3 ((x1.trans x2).trans x3) rh3 ⟨x, y, vs, rfl, (r1.ext x2).ext x3, r2.ext x3, r3⟩
        · cases e
      · cases e
    · cases e
def tDispT (trs : List (TE × TE)) : TE := fun σ H Q => ∀ p, H p = none → tPairs trs σ (upd H p (.dT [])) fun ps H2 => H2 p = some (.dT []) ∧ ∃ kvs : List (List Key × Addr × V), ps = kvs.map (fun x => (V.ref x.2.1, x.2.2)) ∧ (∀ x ∈ kvs, H2 x.2.1 = some (.tup (x.1.map kV))) ∧ kvs.length ≤ 15 ∧
  Q (.ref p) (upd H2 p (.dT (mergeT [] (kvs.map fun x => (x.1, x.2.2)))))
section
variable {X : Cx} {pins : List (Addr × Obj)} {σ : L2.St}
theorem storeAllT {A : Around} {E : Value → Shared → Prop} (hu : A.units < cLine) {p : Addr} : ∀ {kvs : List (List Key × Addr × V)} {ws : List (Value × Value)} {s : Shared} {H : Hp} {acc : List (List Key × V)} {Q : PUnit → Shared → Prop}, Inv X pins σ H s → H p = some (.dT acc) →
    VV (kvs.map fun x => (V.ref x.2.1, x.2.2)) ws → (∀ x ∈ kvs, H x.2.1 = some (.tup (x.1.map kV))) → acc.length + kvs.length ≤ sizeLine → (∀ s', Inv X pins σ (upd H p (.dT (mergeT acc (kvs.map fun x => (x.1, x.2.2))))) s' → Q PUnit.unit s') →
    wpAny (model X.prog X.w) A (storeAll p ws) Q E s
  | [], ws, s, H, acc, Q, I, hp, r, hk, hz, q => by
    cases r
    have e : upd H p (.dT (mergeT acc [])) = H := by
      funext b
      by_cases hb : b = p
      · rw [hb, upd_same, hp]
        rfl
      · rw [upd_ne hb]
    unfold storeAll
    refine wpAny_pure (q s ?_)
    rw [List.map_nil, e]
    exact I
  | x :: kvs, ws, s, H, acc, Q, I, hp, r, hk, hz, q => by
    rw [List.map_cons] at r
    cases r with
    | @cons _ b _ ws' h t =>
      obtain ⟨u1, u2⟩ := b
      obtain ⟨r1, r2⟩ := h
      obtain rfl : u1 = Value.ref x.2.1 := r1
      have eb := hk x List.mem_cons_self
      obtain ⟨z, hd, xs, rel, dd⟩ := dt_of I.hok hp
      have hz' : xs.length ≤ sizeLine := by rw [← Paired.length rel]; exact z
      have hlp := length_putK acc x.1 x.2.2
      rw [List.length_cons] at hz
      have hl : (putK acc x.1 x.2.2).length ≤ sizeLine := by omega
      unfold storeAll
      rw [List.forIn_cons]
      refine wpAny_bind (wpAny_bind (wpAny_dictSet_heap (hsz := hz') (knd := tupleKind (mixKind X.prog X.w)) hu (key_of I.hok eb) dd fun h' dd' hs => wpAny_pure ?_))
      obtain ⟨o, es, ep, ho, h2, h3, h4, _, h5⟩ := dd'
      have I2 : Inv X pins σ (upd H p (.dT (putK acc x.1 x.2.2))) { s with heap := h', toks := s.toks + (tupleKind (mixKind X.prog X.w)).draws x.1 } :=
        d_write I (by rw [hp]; exact True.intro) hs ⟨o, ho⟩ ⟨hl, hd, _, (rel.put x.1 eb r2).keeps fun c ys ec => by
          rw [upd_ne (ne_of ec hp (fun z => nomatch z))]
          exact ec, o, es, ep, ho, h2, h3, h4, h5⟩
      have ih := storeAllT (A := A) (E := E) hu (p := p) (kvs := kvs) (acc := putK acc x.1 x.2.2) (Q := Q) I2 upd_same t (fun y hy => by
        have ec := hk y (List.mem_cons_of_mem _ hy)
        rw [upd_ne (ne_of ec hp (fun z => nomatch z))]
        exact ec) (by omega) fun s' I3 => q s' (by
          have e : upd (upd H p (.dT (putK acc x.1 x.2.2))) p (.dT (mergeT (putK acc x.1 x.2.2) (kvs.map fun x => (x.1, x.2.2)))) = upd H p (.dT (mergeT acc ((x :: kvs).map fun x => (x.1, x.2.2)))) := by
            funext b
            by_cases hb : b = p
            · rw [hb, upd_same, upd_same]
              rfl
            · rw [upd_ne hb, upd_ne hb, upd_ne hb]
          rw [← e]
          exact I3)
      exact ih
theorem pe_dispT {pos : Pos} {keys : List (Option Expr)} {values : List Expr} {trs : List (TE × TE)} (h : PPs X pos keys values trs) (hu : X.A.units + 64 < cLine) (hall : keys.all (·.isSome) = true) (hl : keys.length = values.length) (h0 : keys ≠ [])
    (h15 : keys.length ≤ 15) : PE X (.Dict keys values pos) (tDispT trs) := by
  refine ⟨fun pins s σ H Q I q => ?_⟩
  have hn := I.hok.fresh (Nat.le_refl s.heap.objs.size)
  have I1 := I.laid (a := s.heap.objs.size) (o := .dT []) (h' := s.heap.push { cls := .type "dict", data := .dict #[] }) (t' := s.toks) (fun _ _ q => Heap.get?_push_of_some _ q) (Nat.le_refl _) (dt_empty s.heap I.big)
  refine wpAny_Dict_any hall hl h0 h15 (thn (h.run pins _ σ _ _ I1 (q _ hn)) fun ws s2 ⟨ps, H2, I2, rel, e, kvs, ep, hk, lk, q2⟩ => ?_)
  subst ep
  exact storeAllT (by omega) I2 e rel hk (by rw [List.length_nil, sizeLine_eq]; omega) fun s' I3 => ⟨.ref s.heap.objs.size, _, I3, rfl, q2⟩
abbrev DPs (X : Cx) (pos : Pos) (keys : List (Option Expr)) (values : List Expr) (m : List (AE × AE)) : Prop := PPs X pos keys values (trsOf X.K m)
theorem dp_nil {pos : Pos} : DPs X pos [] [] [] := pps_nil
theorem dp_cons {pos : Pos} {k v : Expr} {ks : List (Option Expr)} {vs : List Expr} {fk fv : AE} {m : List (AE × AE)} (hk : DE X k fk) (hv : DE X v fv) (hr : DPs X pos ks vs m) : DPs X pos (some k :: ks) (v :: vs) ((fk, fv) :: m) := pps_cons hk hv hr
theorem RpP.leaf {K : PySem.W.Frag} {H : Hp} {μ : List Addr} : ∀ {ps : List (D × D)} {vs : List (V × V)}, (ps.all fun p => (toKey p.1).isSome) = true → RpP K H μ ps vs → ∃ kvs : List (Key × V), vs = kvs.map (fun kv => (kV kv.1, kv.2)) ∧ RpK K H μ ps kvs
  | [], vs, _, r => by
    have r : vs = [] := r
    subst r
    exact ⟨[], rfl, by rw [RpK]⟩
  | p :: ps, vs, hk, r => by
    obtain ⟨x, y, rs, rfl, r1, r2, r3⟩ := r
    rw [List.all_cons, Bool.and_eq_true] at hk
    obtain ⟨kvs, rfl, rk⟩ := RpP.leaf hk.2 r3
    obtain ⟨k, ek⟩ := Option.isSome_iff_exists.mp hk.1
    have := r1.keyV ek
    subst this
    refine ⟨(k, y) :: kvs, rfl, ?_⟩
    rw [RpK]
    exact ⟨k, y, kvs, rfl, ek, r2, rk⟩
theorem RpP.tup {K : PySem.W.Frag} {H : Hp} {μ : List Addr} : ∀ {ps : List (D × D)} {vs : List (V × V)}, (ps.all fun p => tupKey p.1) = true → RpP K H μ ps vs →
    ∃ kvs : List (List Key × Addr × V), vs = kvs.map (fun x => (V.ref x.2.1, x.2.2)) ∧ (∀ x ∈ kvs, H x.2.1 = some (.tup (x.1.map kV))) ∧ RpT K H μ ps (kvs.map fun x => (x.1, x.2.2))
  | [], vs, _, r => by
    have r : vs = [] := r
    subst r
    exact ⟨[], rfl, (fun _ h => nomatch h), by rw [List.map_nil, RpT]⟩
  | p :: ps, vs, hk, r => by
    obtain ⟨x, y, rs, rfl, r1, r2, r3⟩ := r
    rw [List.all_cons, Bool.and_eq_true] at hk
    obtain ⟨kvs, rfl, hh, rk⟩ := RpP.tup hk.2 r3
    obtain ⟨hk1, _⟩ := hk
    obtain ⟨k, w⟩ := p
    dsimp only at hk1 r1 r2
    cases k <;> simp only [tupKey] at hk1 <;> try (cases hk1; done)
    rename_i ks
    obtain ⟨k', ek⟩ := Option.isSome_iff_exists.mp hk1
    obtain ⟨b, ws, rfl, tb, rb⟩ := r1.tupE
    have := rb.keysV ek
    subst this
    refine ⟨(k', b, y) :: kvs, rfl, fun x hx => ?_, ?_⟩
    · rcases List.mem_cons.mp hx with z | z
      · rw [z]
        exact tb
      · exact hh x z
    · rw [List.map_cons, RpT]
      exact ⟨ks, k', y, _, rfl, rfl, ek, r2, rk⟩
theorem RpP.len {K : PySem.W.Frag} {H : Hp} {μ : List Addr} : ∀ {ps : List (D × D)} {vs : List (V × V)}, RpP K H μ ps vs → vs.length = ps.length
  | [], vs, r => by
    have r : vs = [] := r
    rw [r]
    rfl
  | p :: ps, vs, r => by
    obtain ⟨x, y, rs, rfl, r1, r2, r3⟩ := r
    rw [List.length_cons, List.length_cons, RpP.len r3]
theorem de_dict {pos : Pos} {keys : List (Option Expr)} {values : List Expr} {m : List (AE × AE)} (hu : X.A.units + 64 < cLine) (h : DPs X pos keys values m) (hall : keys.all (·.isSome) = true := by rfl) (hl : keys.length = values.length := by rfl) (h0 : keys ≠ [] := by simp)
    (h15 : keys.length ≤ 15 := by decide) : DE X (.Dict keys values pos) (mDict m) :=
  PE.imp (PE.or (pe_disp h hall hl h0 h15) (pe_dispT h hu hall hl h0 h15)) fun σ H Q ⟨ls, hp, μ, d, hp', rl, rh, e, q⟩ => by
    unfold mDict at e
    split at e
    · rename_i ps hp1 e1
      split at e
      · rename_i hk
        cases e
        rw [Bool.and_eq_true] at hk
        have h15' : ps.length ≤ 15 := of_decide_eq_true hk.2
        rcases Bool.or_eq_true _ _ ▸ hk.1 with hk | hk
        · refine .inl fun p hp0 => ?_
          have x0 := Ext.laid rh (o := .dK []) hp0
          refine tPairs_of (rl.ext x0) (rh.laid hp0) e1 fun vs H2 μ2 x2 rh2 r2 => ?_
          have hH2 : H2 p = some (.dK []) := x2.keep _ _ (rh.notIn hp0) upd_same
          have hn2 : p ∉ μ2 := x2.new _ _ (rh.notIn hp0) upd_same
          obtain ⟨kvs, rfl, rk⟩ := r2.leaf hk
          refine ⟨hH2, kvs, rfl, by rw [← rk.len] at h15'; exact h15', ?_⟩
          obtain ⟨nd, rk2⟩ := rk.putAll (acc := []) (av := []) True.intro (by rw [RpK])
          have rh3 := rh2.looseD (o := .dK (mergeK [] kvs)) hH2 (fun _ z => nomatch z) (fun _ _ z => nomatch z) hn2
          exact q (.ref p) _ (μ2 ++ [p]) (((x0.trans x2).loose hp0).place hp0) (rh3.place hn2 (by rw [upd_same]; exact ⟨nd, .inl ⟨_, rfl, (rk2.mon (Mon.looseD hH2 (fun _ z => nomatch z) (fun _ _ z => nomatch z))).mon Mon.grow⟩⟩)) (Rp.last rh2)
        · refine .inr fun p hp0 => ?_
          have x0 := Ext.laid rh (o := .dT []) hp0
          refine tPairs_of (rl.ext x0) (rh.laid hp0) e1 fun vs H2 μ2 x2 rh2 r2 => ?_
          have hH2 : H2 p = some (.dT []) := x2.keep _ _ (rh.notIn hp0) upd_same
          have hn2 : p ∉ μ2 := x2.new _ _ (rh.notIn hp0) upd_same
          obtain ⟨kvs, rfl, hh, rk⟩ := r2.tup hk
          have hln := rk.len
          rw [List.length_map] at hln
          refine ⟨hH2, kvs, rfl, hh, by rw [hln]; exact h15', ?_⟩
          obtain ⟨nd, rk2⟩ := rk.putAll (acc := []) (av := []) True.intro (by rw [RpT])
          have rh3 := rh2.looseD (o := .dT (mergeT [] (kvs.map fun x => (x.1, x.2.2)))) hH2 (fun _ z => nomatch z) (fun _ _ z => nomatch z) hn2
          exact q (.ref p) _ (μ2 ++ [p]) (((x0.trans x2).loose hp0).place hp0) (rh3.place hn2 (by rw [upd_same]; exact ⟨nd, .inr ⟨_, rfl, (rk2.mon (Mon.looseD hH2 (fun _ z => nomatch z) (fun _ _ z => nomatch z))).mon Mon.grow⟩⟩)) (Rp.last rh2)
      · cases e
    · cases e
end
end Ve
namespace Ve
open PySem PySem.Spec L2
def unl (n : Nat) (hp : Hd) : Option Hd := match hp[n]? with
  | some (.dicL kvs) => some (hp.set n (.dic kvs))
  | _ => none
def mLock (fd : AE) (f : AA) : AA := fun ls hp => match fd ls hp with
  | some (.ref n, _) => match hp[n]? with
    | some (.dic kvs) => match f ls (hp.set n (.dicL kvs)) with
      | some (ds, hp1) => match unl n hp1 with
        | some hp2 => some (ds, hp2)
        | none => none
      | none => none
    | _ => none
  | _ => none
def mIK (f : AE) : AI := fun ls hp => match f ls hp with
  | some (.ref n, hp1) => match hp1[n]? with
    | some (.dicL kvs) => some (kvs.map (·.1), [], hp1)
    | _ => none
  | _ => none
section
variable {K : PySem.W.Frag} {H H' : Hp} {μ μ' : List Addr} {hp hp1 hp2 : Hd} {n : Nat} {a : Addr} {kvs : List (D × D)}
theorem lock_in (rh : RelH K H μ hp) (eh : hp[n]? = some (.dic kvs)) : ∃ a u, μ[n]? = some a ∧ H a = some u ∧ Mut (some u) ∧ (∀ xs, u ≠ .tup xs) ∧ (∀ ob w, u ≠ .frz ob w) ∧ ((∃ vs, u = .dK vs) ∨ ∃ vs, u = .dT vs) ∧
    ∀ od, RelH K (upd H a (.frz od u)) μ (hp.set n (.dicL kvs)) ∧ Ext μ H μ (upd H a (.frz od u)) := by
  obtain ⟨a, ea, q⟩ := rh.at_ eh
  obtain ⟨nd, ⟨vs, ev, r⟩ | ⟨vs, ev, r⟩⟩ := q
  · refine ⟨a, .dK vs, ea, ev, True.intro, (fun _ z => nomatch z), (fun _ _ z => nomatch z), .inl ⟨vs, rfl⟩, fun od => ?_⟩
    have mo : Mon μ H μ (upd H a (.frz od (.dK vs))) := Mon.looseD ev (fun _ z => nomatch z) (fun _ _ z => nomatch z)
    exact rh.put (o := .dicL kvs) ea ⟨nd, .inl ⟨_, _, rfl, r.mon mo⟩⟩
  · refine ⟨a, .dT vs, ea, ev, True.intro, (fun _ z => nomatch z), (fun _ _ z => nomatch z), .inr ⟨vs, rfl⟩, fun od => ?_⟩
    have mo : Mon μ H μ (upd H a (.frz od (.dT vs))) := Mon.looseD ev (fun _ z => nomatch z) (fun _ _ z => nomatch z)
    exact rh.put (o := .dicL kvs) ea ⟨nd, .inr ⟨_, _, rfl, r.mon mo⟩⟩
theorem lock_out {od : Obj} {u : HO} (ha : μ[n]? = some a) (e0 : H a = some u) (hn1 : ∀ xs, u ≠ .tup xs) (hn2 : ∀ ob w, u ≠ .frz ob w) (hkt : (∃ vs, u = .dK vs) ∨ ∃ vs, u = .dT vs) (x : Ext μ (upd H a (.frz od u)) μ' H') (rh : RelH K H' μ' hp1) (eu : unl n hp1 = some hp2) :
    H' a = some (.frz od u) ∧ RelH K (upd H' a u) μ' hp2 ∧ Mon μ' H' μ' (upd H' a u) ∧ Ext μ H μ' (upd H' a u) := by
  have ef : H' a = some (.frz od u) := x.scrs a od u upd_same
  have ea : μ'[n]? = some a := x.m.at_ ha
  have ham : a ∈ μ := List.mem_of_getElem? ha
  have mo : Mon μ' H' μ' (upd H' a u) := ⟨⟨[], by simp⟩, fun b ys e => by rw [upd_ne (fun z => by subst z; rw [ef] at e; cases e)]; exact e, fun b ob ys hy e => by
    rw [upd_ne (fun z => by
      subst z
      rw [ef] at e
      cases e
      rcases hkt with ⟨_, z⟩ | ⟨_, z⟩ <;> rcases hy with ⟨_, z2⟩ | ⟨_, z2⟩ | ⟨_, z2⟩ <;> (rw [z] at z2; cases z2))]
    exact e⟩
  refine ⟨ef, ?_, mo, ⟨x.pre, fun b o hb e => x.new b o hb (by rw [upd_ne (fun z => hb (by rw [z]; exact ham))]; exact e), fun b o hb e => ?_, fun b ys e => ?_, fun b ob w e => ?_⟩⟩
  · unfold unl at eu
    split at eu
    · rename_i kvs' eh
      cases eu
      refine ⟨by simp [rh.len], rh.nd, fun m ob b e1 e2 => ?_, fun m y b e1 e2 => ?_⟩
      rotate_left
      · by_cases hm : m = n
        · subst hm
          have hl : m < hp1.length := (List.getElem?_eq_some_iff.mp eh).1
          rw [List.getElem?_set_self hl] at e1
          cases e1
        · rw [List.getElem?_set_ne (Ne.symm hm)] at e1
          exact rh.tabs m y b e1 e2
      by_cases hm : m = n
      · subst hm
        rw [ea] at e2
        cases e2
        have hl : m < hp1.length := (List.getElem?_eq_some_iff.mp eh).1
        rw [List.getElem?_set_self hl] at e1
        cases e1
        rw [upd_same]
        obtain ⟨nd, ⟨o, vs, ev, r⟩ | ⟨o, vs, ev, r⟩⟩ := rh.obj m _ a eh ea
        · rw [ef] at ev
          cases ev
          exact ⟨nd, .inl ⟨vs, rfl, r.mon mo⟩⟩
        · rw [ef] at ev
          cases ev
          exact ⟨nd, .inr ⟨vs, rfl, r.mon mo⟩⟩
      · rw [List.getElem?_set_ne (Ne.symm hm)] at e1
        have hb : b ≠ a := fun z => by
          subst z
          obtain ⟨h1, h2⟩ := List.getElem?_eq_some_iff.mp ea
          obtain ⟨h3, h4⟩ := List.getElem?_eq_some_iff.mp e2
          exact hm ((List.getElem_inj rh.nd).mp (h4.trans h2.symm))
        rw [upd_ne hb]
        exact (rh.obj m ob b e1 e2).mon mo
    · cases eu
  · have hne : b ≠ a := fun z => hb (by rw [z]; exact ham)
    rw [upd_ne hne]
    exact x.keep b o hb (by rw [upd_ne hne]; exact e)
  · have hne : b ≠ a := fun z => by
      subst z
      rw [e0] at e
      exact hn1 _ (Option.some.inj e)
    rw [upd_ne hne]
    exact x.tups b ys (by rw [upd_ne hne]; exact e)
  · have hne : b ≠ a := fun z => by
      subst z
      rw [e0] at e
      exact hn2 _ _ (Option.some.inj e)
    rw [upd_ne hne]
    exact x.scrs b ob w (by rw [upd_ne hne]; exact e)
end
section
variable {X : Cx} {e a b tg : Expr} {es : List Expr} {fa fb fd : AE} {fl fm : AA} {fr : AA} {fs : AS} {pos : Pos} {st : Stmt}
theorem le_lock (h : LE X e fl) : LE X e (mLock fd fl) := PE.imp (pe_lock h) fun σ H Q ⟨ls, hp, μ, ds, hp', rl, rh, e, q⟩ => by
  unfold mLock at e
  split at e
  · rename_i n hp0 e0
    split at e
    · rename_i kvs eh
      split at e
      · rename_i ds' hp1 e1
        split at e
        · rename_i hp2 e2
          cases e
          obtain ⟨a, u, ea, ev, mu, n1, n2, kt, lk⟩ := lock_in rh eh
          refine ⟨a, u, ev, mu, fun od => ?_⟩
          obtain ⟨rh1, x1⟩ := lk od
          refine ⟨ls, _, μ, ds, hp1, rl.ext x1, rh1, e1, fun p vs H' μ' x2 rh2 h0 hn hl r2 => ?_⟩
          obtain ⟨o1, o2, o3, o4⟩ := lock_out ea ev n1 n2 kt x2 rh2 e2
          have hne : p ≠ a := fun z => by
            subst z
            rw [upd_same] at h0
            cases h0
          refine ⟨o1, q p vs _ μ' o4 o2 (by rw [upd_ne hne] at h0; exact h0) hn (by rw [upd_ne hne]; exact hl) (r2.mon o3)⟩
        · cases e
      · cases e
    · cases e
  · cases e
theorem di_keys (h : DE X e fa) : DI X tg e (mIK fa) := PI.imp (pi_keys h) fun σ H R ⟨ls, hp, μ, items, gd, hp', rl, rh, e, q⟩ => by
  unfold mIK at e
  split at e
  · rename_i n hp1 e1
    split at e
    · rename_i kvs eh
      cases e
      refine ⟨ls, hp, μ, _, hp', rl, rh, e1, fun v H1 μ1 x1 rh1 r1 => ?_⟩
      obtain ⟨a, ea, rfl⟩ := r1.refE
      obtain ⟨nd, ⟨o, vs, ev, rk⟩ | ⟨o, vs, ev, rk⟩⟩ := rh1.dicL ea eh
      · refine ⟨a, o, rfl, .inl ⟨vs, ev, q _ H1 μ1 x1 rh1 ?_⟩⟩
        intro i H2 μ2 hp2 x2 rh2 _
        have ev2 : H2 a = some (.frz o (.dK vs)) := x2.scrs _ _ _ ev
        refine ⟨fun hi => ⟨ev2, by rw [rk.len]; simpa using hi⟩, fun hi => ⟨⟨ev2, by rw [rk.len]; simpa using hi⟩, fun x H3 hy => ?_⟩⟩
        obtain ⟨rfl, k, w, e4, rfl⟩ := hy
        obtain ⟨p, e5, e6, _⟩ := rk.at_ e4
        exact ⟨p.1, by rw [List.getElem?_map, e5]; rfl, Ext.refl, rh2, Rp.ofKey e6⟩
      · refine ⟨a, o, rfl, .inr ⟨vs, ev, q _ H1 μ1 x1 rh1 ?_⟩⟩
        intro i H2 μ2 hp2 x2 rh2 _
        have ev2 : H2 a = some (.frz o (.dT vs)) := x2.scrs _ _ _ ev
        refine ⟨fun hi => ⟨ev2, by rw [rk.len]; simpa using hi⟩, fun hi => ⟨⟨ev2, by rw [rk.len]; simpa using hi⟩, fun x H3 hy => ?_⟩⟩
        obtain ⟨rfl, k, w, qa, e4, rfl, e7⟩ := hy
        obtain ⟨p, dks, e5, e6, e8, _⟩ := rk.at_ e4
        refine ⟨p.1, by rw [List.getElem?_map, e5]; rfl, Ext.refl, rh2, ?_⟩
        rw [e6]
        exact Rp.tup e7 (Rps.ofKeys e8)
    · cases e
  · cases e
end
end Ve
namespace Ve
open PySem PySem.Spec L2
def tupOf : D → Option (List D)
  | .tup ds => some ds
  | .wt ds => some ds
  | _ => none
theorem tupOf_some {K : PySem.W.Frag} {H : Hp} {μ : List Addr} {d : D} {ds : List D} {v : V} (h : tupOf d = some ds) (r : Rp K H μ d v) : ∃ a vs, v = .ref a ∧ (TpAt H a vs ∨ WtAt K H a vs) ∧ Rps K H μ ds vs := by
  cases d <;> simp only [tupOf] at h <;> try (cases h; done)
  · cases h
    obtain ⟨a, vs, e, t, rs⟩ := r.tupE
    exact ⟨a, vs, e, .inl t, rs⟩
  · cases h
    obtain ⟨a, vs, e, t, rs⟩ := r.wtE
    exact ⟨a, vs, e, .inr t, rs⟩
def zipD : List D → List D → List D
  | x :: xs, y :: ys => .tup [x, y] :: zipD xs ys
  | _, _ => []
theorem zipD_length : ∀ xs ys : List D, (zipD xs ys).length = min xs.length ys.length
  | [], _ => by simp [zipD]
  | _ :: _, [] => by simp [zipD]
  | x :: xs, y :: ys => by
    rw [zipD, List.length_cons, zipD_length xs ys, List.length_cons, List.length_cons]
    omega
theorem zipD_at : ∀ {xs ys : List D} {i : Nat} {x y : D}, xs[i]? = some x → ys[i]? = some y → (zipD xs ys)[i]? = some (.tup [x, y])
  | [], _, i, x, y, h, _ => by simp at h
  | _ :: _, [], i, x, y, _, h => by simp at h
  | a :: xs, b :: ys, 0, x, y, h1, h2 => by
    simp at h1 h2
    subst h1; subst h2
    rfl
  | a :: xs, b :: ys, i + 1, x, y, h1, h2 => by
    rw [zipD, List.getElem?_cons_succ]
    exact zipD_at (by simpa using h1) (by simpa using h2)
def mZip (fa fb : AE) : AI := fun ls hp => match fa ls hp with
  | some (x, hp1) => match fb ls hp1 with
    | some (y, hp2) => match tupOf x, tupOf y with
      | some xs, some ys => some (zipD xs ys, [], hp2)
      | _, _ => match x, y with
        | .ref n, .ref m => match hp2[n]?, hp2[m]? with
          | some (.lst xs), some (.lst ys) => some (zipD xs ys, [(n, xs), (m, ys)], hp2)
          | _, _ => none
        | _, _ => none
    | none => none
  | none => none
section
variable {X : Cx} {e a b tg : Expr} {es elts : List Expr} {fa fb fd : AE} {fl fm : AA} {fr : AA} {fs : AS} {pos tpos : Pos} {kk : Nat}
theorem gdOk_two {n m : Nat} {xs ys : List D} {hp : Hd} (h : gdOk [(n, xs), (m, ys)] hp = true) : hp[n]? = some (.lst xs) ∧ hp[m]? = some (.lst ys) := by
  have h1 : gdOk [(n, xs)] hp = true ∧ gdOk [(m, ys)] hp = true := by
    simp only [gdOk, Bool.and_eq_true, Bool.and_true] at h ⊢
    exact h
  exact ⟨gdOk_one h1.1, gdOk_one h1.2⟩
theorem di_zip {p : Pos} (hg : Gl X "zip") (hm : X.mg "zip" = none) (ha : DE X a fa) (hb : DE X b fb)
    (hs0 : starEach [b] X.env = (false, eval b X.env) :: starEach [] X.env := by rfl)
    (hs : starEach [a, b] X.env = (false, eval a X.env) :: starEach [b] X.env := by rfl) (hpl : (backTo pos (starEach [b] X.env)).any (·.1) = false := by rfl) :
    DI X (.Tuple elts kk tpos) (.Call (.Name "zip" p) [a, b] [] pos) (mZip fa fb) :=
  PI.imp (RZ.pi_zipA hg hm (pa_cons ha (pa_cons hb pa_nil hs0) hs) hs hpl) fun σ H R ⟨ls, hp, μ, items, gd, hp', rl, rh, e, q⟩ => by
    unfold mZip at e
    split at e
    · rename_i x hp1 e1
      split at e
      · rename_i y hp2 e2
        refine ⟨ls, hp, μ, x, hp1, rl, rh, e1, fun v1 H1 μ1 x1 rh1 r1 => ⟨ls, hp1, μ1, y, hp2, rl.ext x1, rh1, e2, fun v2 H2 μ2 x2 rh2 r2 => ?_⟩⟩
        have x12 := x1.trans x2
        split at e
        · rename_i xs ys e3 e4
          cases e
          obtain ⟨a, vs, rfl, ta, ra⟩ := tupOf_some e3 (r1.ext x2)
          obtain ⟨b, ws, rfl, tb, rb⟩ := tupOf_some e4 r2
          have qa : ∀ {H3 : Hp} {μ3 : List Addr}, Ext μ2 H2 μ3 H3 → SqT X.K H3 a vs := fun x3 => ta.elim (fun t => (t.ext x3).sq) fun t => (t.mon x3.m).sq
          have qb : ∀ {H3 : Hp} {μ3 : List Addr}, Ext μ2 H2 μ3 H3 → SqT X.K H3 b ws := fun x3 => tb.elim (fun t => (t.ext x3).sq) fun t => (t.mon x3.m).sq
          refine ⟨a, b, vs, ws, rfl, .inr ⟨qa Ext.refl, qb Ext.refl, q _ H2 μ2 x12 rh2 ?_⟩⟩
          intro i H3 μ3 hp3 x3 rh3 _
          have q3 := qa x3
          have q4 := qb x3
          have l1 := ra.len
          have l2 := rb.len
          rw [zipD_length]
          refine ⟨fun hi => ⟨vs, ws, q3, q4, by omega⟩, fun hi => ?_⟩
          obtain ⟨v, ev, rv⟩ := ra.get (List.getElem?_eq_getElem (show i < xs.length by omega))
          obtain ⟨w, ew, rw'⟩ := rb.get (List.getElem?_eq_getElem (show i < ys.length by omega))
          refine ⟨⟨vs, ws, v, w, q3, q4, ev, ew⟩, fun u H4 hy => ?_⟩
          obtain ⟨T, u1, u2, rfl, hT, rfl, h1, h2⟩ := hy
          have := h1 vs q3
          rw [ev] at this
          cases this
          have := h2 ws q4
          rw [ew] at this
          cases this
          have x4 := Ext.laid rh3 (o := .tup [v, w]) hT
          exact ⟨_, zipD_at (List.getElem?_eq_getElem (show i < xs.length by omega)) (List.getElem?_eq_getElem (show i < ys.length by omega)), x4, rh3.laid hT, Rp.tup upd_same (Rps.mk ((rv.ext x3).ext x4) (Rps.mk ((rw'.ext x3).ext x4) Rps.nil))⟩
        · split at e
          · rename_i n m
            split at e
            · rename_i xs ys e3 e4
              cases e
              obtain ⟨a, ea, rfl⟩ := (r1.ext x2).refE
              obtain ⟨b, eb, rfl⟩ := r2.refE
              obtain ⟨vs, ev, ra⟩ := rh2.lst ea e3
              obtain ⟨ws, ew, rb⟩ := rh2.lst eb e4
              refine ⟨a, b, vs, ws, rfl, .inl ⟨.inl (.inl ev), .inl (.inl ew), q _ H2 μ2 x12 rh2 ?_⟩⟩
              intro i H3 μ3 hp3 x3 rh3 hgd
              obtain ⟨g1, g2⟩ := gdOk_two hgd
              obtain ⟨vs, ev, ra⟩ := rh3.lst (x3.m.at_ ea) g1
              obtain ⟨ws, ew, rb⟩ := rh3.lst (x3.m.at_ eb) g2
              have q3 : SqL X.K H3 a vs := .inl (.inl ev)
              have q4 : SqL X.K H3 b ws := .inl (.inl ew)
              have l1 := ra.len
              have l2 := rb.len
              rw [zipD_length]
              refine ⟨fun hi => ⟨vs, ws, q3, q4, by omega⟩, fun hi => ?_⟩
              obtain ⟨v, ev', rv⟩ := ra.get (List.getElem?_eq_getElem (show i < xs.length by omega))
              obtain ⟨w, ew', rw'⟩ := rb.get (List.getElem?_eq_getElem (show i < ys.length by omega))
              refine ⟨⟨vs, ws, v, w, q3, q4, ev', ew'⟩, fun u H4 hy => ?_⟩
              obtain ⟨T, u1, u2, rfl, hT, rfl, h1, h2⟩ := hy
              have := h1 vs q3
              rw [ev'] at this
              cases this
              have := h2 ws q4
              rw [ew'] at this
              cases this
              have x4 := Ext.laid rh3 (o := .tup [v, w]) hT
              exact ⟨_, zipD_at (List.getElem?_eq_getElem (show i < xs.length by omega)) (List.getElem?_eq_getElem (show i < ys.length by omega)), x4, rh3.laid hT, Rp.tup upd_same (Rps.mk (rv.ext x4) (Rps.mk (rw'.ext x4) Rps.nil))⟩
            · cases e
          · cases e
      · cases e
    · cases e
end
end Ve
namespace Ve
open PySem PySem.Spec L2
abbrev nr (d : D) : Bool := D.all (fun _ => false) d
abbrev nrs (ds : List D) : Bool := D.alls (fun _ => false) ds
abbrev nrO (o : O) : Bool := O.all (fun _ => false) o
mutual
theorem map_nr {f : Nat → Nat} : ∀ {d : D}, nr d = true → D.map f d = d
  | .non, _ => by rw [D.map]
  | .bl _, _ => by rw [D.map]
  | .int _, _ => by rw [D.map]
  | .str _, _ => by rw [D.map]
  | .scr _, _ => by rw [D.map]
  | .ref k, h => by simp [nr, D.all] at h
  | .tup ds, h => by
    simp only [nr, D.all] at h
    rw [D.map, maps_nr h]
  | .wt ds, h => by
    simp only [nr, D.all] at h
    rw [D.map, maps_nr h]
theorem maps_nr {f : Nat → Nat} : ∀ {ds : List D}, nrs ds = true → D.maps f ds = ds
  | [], _ => by rw [D.maps]
  | d :: ds, h => by
    simp only [nrs, D.alls, Bool.and_eq_true] at h
    rw [D.maps, map_nr h.1, maps_nr h.2]
end
mutual
theorem ren_nr {ρ : List Nat} : ∀ {d : D}, nr d = true → D.ren ρ d = d
  | .non, _ => by rw [D.ren]
  | .bl _, _ => by rw [D.ren]
  | .int _, _ => by rw [D.ren]
  | .str _, _ => by rw [D.ren]
  | .scr _, _ => by rw [D.ren]
  | .ref k, h => by simp [nr, D.all] at h
  | .tup ds, h => by
    simp only [nr, D.all] at h
    rw [D.ren, rens_nr h]
  | .wt ds, h => by
    simp only [nr, D.all] at h
    rw [D.ren, rens_nr h]
theorem rens_nr {ρ : List Nat} : ∀ {ds : List D}, nrs ds = true → D.rens ρ ds = ds
  | [], _ => by rw [D.rens]
  | d :: ds, h => by
    simp only [nrs, D.alls, Bool.and_eq_true] at h
    rw [D.rens, ren_nr h.1, rens_nr h.2]
end
mutual
theorem lt_nr {n : Nat} : ∀ {d : D}, nr d = true → D.lt n d = true
  | .non, _ => rfl
  | .bl _, _ => rfl
  | .int _, _ => rfl
  | .str _, _ => rfl
  | .scr _, _ => rfl
  | .ref k, h => by simp [nr, D.all] at h
  | .tup ds, h => by
    simp only [nr, D.all] at h
    rw [D.lt, lts_nr h]
  | .wt ds, h => by
    simp only [nr, D.all] at h
    rw [D.lt, lts_nr h]
theorem lts_nr {n : Nat} : ∀ {ds : List D}, nrs ds = true → D.lts n ds = true
  | [], _ => by rw [D.lts]
  | d :: ds, h => by
    simp only [nrs, D.alls, Bool.and_eq_true] at h
    rw [D.lts, lt_nr h.1, lts_nr h.2]
    rfl
end
mutual
theorem all_nr {p : Nat → Bool} : ∀ {d : D}, nr d = true → D.all p d = true
  | .non, _ => by rw [D.all]
  | .bl _, _ => by rw [D.all]
  | .int _, _ => by rw [D.all]
  | .str _, _ => by rw [D.all]
  | .scr _, _ => by rw [D.all]
  | .ref k, h => by simp [nr, D.all] at h
  | .tup ds, h => by
    simp only [nr, D.all] at h
    rw [D.all, alls_nr h]
  | .wt ds, h => by
    simp only [nr, D.all] at h
    rw [D.all, alls_nr h]
theorem alls_nr {p : Nat → Bool} : ∀ {ds : List D}, nrs ds = true → D.alls p ds = true
  | [], _ => by rw [D.alls]
  | d :: ds, h => by
    simp only [nrs, D.alls, Bool.and_eq_true] at h
    rw [D.alls, all_nr h.1, alls_nr h.2]
    rfl
end
theorem kv_nr {kvs : List (D × D)} (h : kvAll (fun _ => false) kvs = true) : (∀ f, kvMap f kvs = kvs) ∧ (∀ ρ, kvRen ρ kvs = kvs) ∧ (∀ n, kvLt n kvs = true) ∧ ∀ p, kvAll p kvs = true := by
  induction kvs with
  | nil => exact ⟨fun _ => rfl, fun _ => rfl, fun _ => rfl, fun _ => rfl⟩
  | cons x r ih =>
    rw [kvAll, Bool.and_eq_true, Bool.and_eq_true] at h
    obtain ⟨h1, h2, h3, h4⟩ := ih h.2
    obtain ⟨a, b⟩ := x
    exact ⟨fun f => by rw [kvMap, map_nr h.1.2, h1], fun ρ => by rw [kvRen, ren_nr h.1.2, h2], fun n => by rw [kvLt, lt_nr h.1.1, lt_nr h.1.2, h3]; rfl, fun p => by rw [kvAll, all_nr h.1.1, all_nr h.1.2, h4]; rfl⟩
theorem O_nr {o : O} (h : nrO o = true) : (∀ f, O.map f o = o) ∧ (∀ ρ, O.ren ρ o = o) ∧ (∀ n, O.lt n o = true) ∧ ∀ p, O.all p o = true := by
  cases o with
  | lst xs => exact ⟨fun f => by rw [O.map, maps_nr h], fun ρ => by rw [O.ren, rens_nr h], fun n => lts_nr h, fun p => alls_nr h⟩
  | dic kvs =>
    obtain ⟨h1, h2, h3, h4⟩ := kv_nr h
    exact ⟨fun f => by rw [O.map, h1], fun ρ => by rw [O.ren, h2], fun n => h3 n, fun p => h4 p⟩
  | dicN ks => exact ⟨fun f => rfl, fun ρ => rfl, fun n => lts_nr h, fun p => alls_nr h⟩
  | dicM ks => exact ⟨fun f => rfl, fun ρ => rfl, fun n => lts_nr h, fun p => alls_nr h⟩
  | ins c kvs =>
    obtain ⟨h1, h2, h3, h4⟩ := kv_nr h
    exact ⟨fun f => by rw [O.map, h1], fun ρ => by rw [O.ren, h2], fun n => h3 n, fun p => h4 p⟩
  | exc c => exact ⟨fun f => rfl, fun ρ => rfl, fun n => rfl, fun p => rfl⟩
  | tab c => exact ⟨fun f => rfl, fun ρ => rfl, fun n => rfl, fun p => rfl⟩
  | dicL kvs =>
    obtain ⟨h1, h2, h3, h4⟩ := kv_nr h
    exact ⟨fun f => by rw [O.map, h1], fun ρ => by rw [O.ren, h2], fun n => h3 n, fun p => h4 p⟩
def setAll (hp : Hd) : List Nat → List O → Hd
  | n :: σ, o :: os => setAll (hp.set n o) σ os
  | _, _ => hp
theorem setAll_len : ∀ (σ : List Nat) (os : List O) (hp : Hd), (setAll hp σ os).length = hp.length
  | [], _, hp => by simp [setAll]
  | _ :: _, [], hp => by simp [setAll]
  | n :: σ, o :: os, hp => by rw [setAll, setAll_len σ os, List.length_set]
theorem setAll_out : ∀ (σ : List Nat) (os : List O) (hp : Hd) (j : Nat), j ∉ σ → (setAll hp σ os)[j]? = hp[j]?
  | [], _, hp, j, _ => by simp [setAll]
  | _ :: _, [], hp, j, _ => by simp [setAll]
  | n :: σ, o :: os, hp, j, h => by
    rw [setAll, setAll_out σ os _ j (fun z => h (List.mem_cons_of_mem _ z)), List.getElem?_set_ne (fun z => h (by rw [z]; exact List.mem_cons_self))]
theorem setAll_at : ∀ (σ : List Nat) (os : List O) (hp : Hd) (i : Nat), σ.Nodup → os.length = σ.length → (∀ n ∈ σ, n < hp.length) → i < σ.length → (setAll hp σ os)[σ.getD i 0]? = os[i]?
  | [], _, hp, i, _, _, _, h => by simp at h
  | _ :: _, [], hp, i, _, h, _, _ => by simp at h
  | n :: σ, o :: os, hp, i, nd, hl, hb, hi => by
    rw [List.nodup_cons] at nd
    rw [setAll]
    cases i with
    | zero =>
      rw [show (n :: σ).getD 0 0 = n from rfl, setAll_out σ os _ n nd.1, List.getElem?_set_self (hb n List.mem_cons_self)]
      rfl
    | succ i =>
      rw [show (n :: σ).getD (i + 1) 0 = σ.getD i 0 from by simp [List.getD]]
      rw [setAll_at σ os _ i nd.2 (by simpa using hl) (fun k hk => by rw [List.length_set]; exact hb k (List.mem_cons_of_mem _ hk)) (by simpa using hi)]
      simp
def Flat (m : List D → Hd → Option (D × Hd)) (ds : List D) (hp : Hd) (d : D) (hp' : Hd) : Prop :=
  ∃ (σ : List Nat) (dsS : List D) (os os' : List O) (d2 : D) (g : Hd), m dsS os = some (d2, g) ∧ σ.Nodup ∧ os.length = σ.length ∧ os'.length = σ.length ∧ ds = D.rens σ dsS ∧ D.lts σ.length dsS = true ∧
    (∀ (i : Nat) (o : O), os[i]? = some o → nrO o = true ∧ hp[σ.getD i 0]? = some o) ∧ (∀ (i : Nat) (o : O), os'[i]? = some o → nrO o = true ∧ g[i]? = some o) ∧
    ((nr d2 = true ∧ d = d2 ∧ hp' = setAll hp σ os') ∨ ∃ k o, d2 = .ref k ∧ σ.length ≤ k ∧ g[k]? = some o ∧ nrO o = true ∧ d = .ref hp.length ∧ hp' = setAll hp σ os' ++ [o])
theorem Flat.run {m : List D → Hd → Option (D × Hd)} {ds : List D} {hp : Hd} {d : D} {hp' : Hd} (h : Flat m ds hp d hp') : ∃ σ κ dsS os d2 g f kp, Run m ds hp d hp' σ κ dsS os d2 g f kp := by
  obtain ⟨σ, dsS, os, os', d2, g, run, nd, len, len', args, argsLt, objs, objs', c⟩ := h
  have lt : ∀ i ∈ σ, i < hp.length := fun n hn => by
    obtain ⟨i, hi, e⟩ := List.mem_iff_getElem.mp hn
    obtain ⟨_, h2⟩ := objs i os[i] (List.getElem?_eq_getElem (by omega))
    have e2 : σ.getD i 0 = n := by simp [List.getD, hi, e]
    rw [e2] at h2
    exact (List.getElem?_eq_some_iff.mp h2).1
  rcases c with ⟨h1, rfl, rfl⟩ | ⟨k, o, rfl, hk, hg, ho, rfl, rfl⟩
  · refine ⟨σ, [], dsS, os, d, g, fun i => σ.getD i 0, fun _ => false, run, nd, lt, len, args, argsLt, fun i o e => ?_, List.nodup_nil, fun _ h => by simp at h, fun i _ => rfl, fun t k e => by simp at e, fun i h => by simp at h, ⟨h1, (map_nr h1).symm⟩, by simp [setAll_len], fun j _ hj => setAll_out σ os' hp j hj, fun i hi => ?_, fun t k e => by simp at e⟩
    · obtain ⟨a, b⟩ := objs i o e
      obtain ⟨_, a2, a3, _⟩ := O_nr a
      exact ⟨a3 _, by rw [a2]; exact b⟩
    · have hi' : i < os'.length := by omega
      obtain ⟨a, b⟩ := objs' i os'[i] (List.getElem?_eq_getElem hi')
      obtain ⟨a1, _, _, a4⟩ := O_nr a
      exact ⟨os'[i], b, a4 _, by rw [a1, setAll_at σ os' hp i nd len' lt hi, List.getElem?_eq_getElem hi']⟩
  · refine ⟨σ, [k], dsS, os, .ref k, g, fun i => if i < σ.length then σ.getD i 0 else hp.length, fun i => i == k, run, nd, lt, len, args, argsLt, fun i o e => ?_, by simp, fun j hj => ?_, fun i hi => by simp [hi], fun t j e => ?_, fun i hi => ?_, ⟨by simp [D.all], ?_⟩, by simp [setAll_len], fun j hj1 hj => ?_, fun i hi => ?_, fun t j e => ?_⟩
    · obtain ⟨a, b⟩ := objs i o e
      obtain ⟨_, a2, a3, _⟩ := O_nr a
      exact ⟨a3 _, by rw [a2]; exact b⟩
    · have : j = k := by simpa using hj
      subst this
      exact ⟨hk, (List.getElem?_eq_some_iff.mp hg).1⟩
    · cases t with
      | zero =>
        have : k = j := by simpa using e
        subst this
        have : ¬ k < σ.length := by omega
        simp [this]
      | succ t => simp at e
    · have : i = k := by simpa using hi
      exact .inr (by simp [this])
    · rw [D.map]
      have : ¬ k < σ.length := by omega
      simp [this]
    · rw [List.getElem?_append_left (by rw [setAll_len]; exact hj1), setAll_out σ os' hp j hj]
    · have hi' : i < os'.length := by omega
      obtain ⟨a, b⟩ := objs' i os'[i] (List.getElem?_eq_getElem hi')
      obtain ⟨a1, _, _, a4⟩ := O_nr a
      refine ⟨os'[i], b, a4 _, ?_⟩
      have hl : σ.getD i 0 < hp.length := lt _ (by simp [List.getD, hi])
      rw [a1, List.getElem?_append_left (by rw [setAll_len]; exact hl), setAll_at σ os' hp i nd len' lt hi, List.getElem?_eq_getElem hi']
    · cases t with
      | zero =>
        have : k = j := by simpa using e
        subst this
        obtain ⟨a1, _, _, a4⟩ := O_nr ho
        exact ⟨o, hg, a4 _, by rw [a1, List.getElem?_append_right (by rw [setAll_len]; omega), setAll_len]; simp⟩
      | succ t => simp at e
def cV (m : List D → Hd → Option (D × Hd)) (ds : List D) (hp : Hd) : Option (D × Hd) := if nrs ds = true then match m ds [] with
  | some (d, _) => if nr d = true then some (d, hp) else none
  | none => none else none
def cN (m : List D → Hd → Option (D × Hd)) (ds : List D) (hp : Hd) : Option (D × Hd) := if nrs ds = true then match m ds [] with
  | some (.ref k, g) => match g[k]? with
    | some o => if nrO o = true then some (.ref hp.length, hp ++ [o]) else none
    | none => none
  | _ => none else none
theorem cl_cV (m : List D → Hd → Option (D × Hd)) : Cl (cV m) m := fun ds hp d hp' h => by
  unfold cV at h
  split at h
  · rename_i hn
    split at h
    · rename_i d2 g e
      split at h
      · rename_i hd
        cases h
        exact Flat.run ⟨[], ds, [], [], d, g, e, List.nodup_nil, rfl, rfl, (rens_nr hn).symm, lts_nr hn, fun i o e => by simp at e, fun i o e => by simp at e, .inl ⟨hd, rfl, rfl⟩⟩
      · cases h
    · cases h
  · cases h
theorem cl_cN (m : List D → Hd → Option (D × Hd)) : Cl (cN m) m := fun ds hp d hp' h => by
  unfold cN at h
  split at h
  · rename_i hn
    split at h
    · rename_i k g e
      split at h
      · rename_i o eo
        split at h
        · rename_i ho
          cases h
          exact Flat.run ⟨[], ds, [], [], .ref k, g, e, List.nodup_nil, rfl, rfl, (rens_nr hn).symm, lts_nr hn, fun i o e => by simp at e, fun i o e => by simp at e, .inr ⟨k, o, rfl, Nat.zero_le _, eo, ho, rfl, rfl⟩⟩
        · cases h
      · cases h
    · cases h
  · cases h
theorem Flat.one {m : List D → Hd → Option (D × Hd)} {n : Nat} {ds : List D} {hp hp' : Hd} {d d2 : D} {o o' : O} {g : Hd} (run : m (.ref 0 :: ds) [o] = some (d2, g)) (hn : nrs ds = true) (ho : hp[n]? = some o) (fo : nrO o = true) (g0 : g[0]? = some o') (fo' : nrO o' = true)
    (c : (nr d2 = true ∧ d = d2 ∧ hp' = hp.set n o') ∨ ∃ k o2, d2 = .ref k ∧ 1 ≤ k ∧ g[k]? = some o2 ∧ nrO o2 = true ∧ d = .ref hp.length ∧ hp' = hp.set n o' ++ [o2]) : Flat m (.ref n :: ds) hp d hp' := by
  refine ⟨[n], .ref 0 :: ds, [o], [o'], d2, g, run, by simp, rfl, rfl, ?_, ?_, fun i x e => ?_, fun i x e => ?_, ?_⟩
  · rw [D.rens, D.ren, rens_nr hn]
    rfl
  · rw [D.lts, lts_nr hn]
    rfl
  · cases i with
    | zero =>
      have : o = x := by simpa using e
      subst this
      exact ⟨fo, ho⟩
    | succ i => simp at e
  · cases i with
    | zero =>
      have : o' = x := by simpa using e
      subst this
      exact ⟨fo', g0⟩
    | succ i => simp at e
  · rcases c with ⟨a, b, c⟩ | ⟨k, o2, a, b, c, e, f, g⟩
    · exact .inl ⟨a, b, by rw [c]; rfl⟩
    · exact .inr ⟨k, o2, a, b, c, e, f, by rw [g]; rfl⟩
def c1V (m : List D → Hd → Option (D × Hd)) : List D → Hd → Option (D × Hd)
  | .ref n :: ds, hp => match hp[n]? with
    | some o => if (nrs ds && nrO o) = true then match m (.ref 0 :: ds) [o] with
      | some (d, o' :: _) => if (nr d && nrO o') = true then some (d, hp.set n o') else none
      | _ => none else none
    | none => none
  | _, _ => none
theorem cl_c1V (m : List D → Hd → Option (D × Hd)) : Cl (c1V m) m := fun ds hp d hp' h => by
  unfold c1V at h
  split at h
  · split at h
    · rename_i o eo
      split at h
      · rename_i hn
        rw [Bool.and_eq_true] at hn
        split at h
        · rename_i d2 o' g e
          split at h
          · rename_i hd
            rw [Bool.and_eq_true] at hd
            cases h
            exact (Flat.one e hn.1 eo hn.2 rfl hd.2 (.inl ⟨hd.1, rfl, rfl⟩)).run
          · cases h
        · cases h
      · cases h
    · cases h
  · cases h
section
variable {ls : Ls} {hp : Hd} {fa fb fc : AE} {ft fu : AT} {fr fl : AA} {f g : AS}
@[simp] theorem mVar_s {i : Nat} : mVar i ls hp = (match ls[i]? with
  | some (some d) => some (d, hp)
  | _ => none) := rfl
@[simp] theorem mC_s {d : D} : mC d ls hp = some (d, hp) := rfl
@[simp] theorem m2_s {g : D → D → Hd → Option (D × Hd)} : m2 fa fb g ls hp = (match fa ls hp with
  | some (a, hp1) => match fb ls hp1 with
    | some (b, hp2) => g a b hp2
    | none => none
  | none => none) := rfl
@[simp] theorem m1_s {g : D → Hd → Option (D × Hd)} : m1 fa g ls hp = (match fa ls hp with
  | some (a, hp1) => g a hp1
  | none => none) := rfl
@[simp] theorem mT_s : mT fa ls hp = (match fa ls hp with
  | some (.bl b, hp1) => some (b, hp1)
  | _ => none) := rfl
@[simp] theorem mNil_s : mNil ls hp = some ([], hp) := rfl
@[simp] theorem mCons_s : mCons fa fr ls hp = (match fa ls hp with
  | some (a, hp1) => match fr ls hp1 with
    | some (r, hp2) => some (a :: r, hp2)
    | none => none
  | none => none) := rfl
@[simp] theorem mAs_s {g : List D → Hd → Option (D × Hd)} : mAs fr g ls hp = (match fr ls hp with
  | some (a, hp1) => g a hp1
  | none => none) := rfl
@[simp] theorem ar_s {n : Nat} {g : List D → Hd → Option (D × Hd)} {ds : List D} : ar n g ds hp = if ds.length = n then g ds hp else none := rfl
@[simp] theorem mNew_s : mNew fl ls hp = (match fl ls hp with
  | some (ds, hp1) => some (.ref hp1.length, hp1 ++ [.lst ds])
  | none => none) := rfl
@[simp] theorem mTup_s : mTup fr ls hp = (match fr ls hp with
  | some (ds, hp1) => if ds.length ≤ sizeLine then some (.tup ds, hp1) else none
  | none => none) := rfl
@[simp] theorem mLst_s : mLst fr ls hp = (match fr ls hp with
  | some (ds, hp1) => if ds.length ≤ sizeLine then some (ds, hp1) else none
  | none => none) := rfl
@[simp] theorem sNext_s : sNext ls hp = some (.nx, ls, hp) := rfl
@[simp] theorem sSeq_s : sSeq f g ls hp = (match f ls hp with
  | some (.nx, ls1, hp1) => g ls1 hp1
  | r => r) := rfl
@[simp] theorem sDrop_s : sDrop fa ls hp = (match fa ls hp with
  | some (_, hp1) => some (.nx, ls, hp1)
  | none => none) := rfl
@[simp] theorem sRet_s : sRet fa ls hp = (match fa ls hp with
  | some (d, hp1) => some (.rt d, ls, hp1)
  | none => none) := rfl
@[simp] theorem sIf_s : sIf ft f g ls hp = (match ft ls hp with
  | some (true, hp1) => f ls hp1
  | some (false, hp1) => g ls hp1
  | none => none) := rfl
@[simp] theorem sSet_s {i : Nat} : sSet i fa ls hp = (match fa ls hp with
  | some (d, hp1) => some (.nx, ls.set i (some d), hp1)
  | none => none) := rfl
@[simp] theorem sAsg_s {t : Tg} : sAsg t fa ls hp = (match fa ls hp with
  | some (d, hp1) => match t.asg d ls with
    | some ls1 => some (.nx, ls1, hp1)
    | none => none
  | none => none) := rfl
@[simp] theorem sPar_s {i j : Nat} : sPar i j fr ls hp = (match fr ls hp with
  | some ([a, b], hp1) => some (.nx, (ls.set i (some a)).set j (some b), hp1)
  | _ => none) := rfl
@[simp] theorem sStore_s : sStore fa fb fc ls hp = (match fa ls hp with
  | some (v, hp1) => match fb ls hp1 with
    | some (x, hp2) => match fc ls hp2 with
      | some (y, hp3) => match gSet x y v hp3 with
        | some hp4 => some (.nx, ls, hp4)
        | none => none
      | none => none
    | none => none
  | none => none) := rfl
@[simp] theorem mDef_s {n : Nat} {ds : List D} : mDef n f ds hp = (match f (stD n ds) hp with
  | some (.rt d, _, hp') => some (d, hp')
  | some (.nx, _, hp') => some (.non, hp')
  | _ => none) := rfl
@[simp] theorem gI_s {c : Int → Int → Bool} {g : Int → Int → D} {i j : Int} : gI c g (.int i) (.int j) hp = if c i j then some (g i j, hp) else none := rfl
@[simp] theorem gAdd_int {i j : Int} : gAdd (.int i) (.int j) hp = some (.int (i + j), hp) := rfl
@[simp] theorem gSub_int {i j : Int} : gSub (.int i) (.int j) hp = some (.int (i - j), hp) := rfl
theorem gMul_int {i j : Int} (h : cMul i j = true) : gMul (.int i) (.int j) hp = some (.int (i * j), hp) := by simp [gMul, h]
theorem gDiv_int {i j : Int} (h : cDiv i j = true) : gDiv (.int i) (.int j) hp = some (.int (i / j), hp) := by simp [gDiv, h]
theorem gMod_int {i j : Int} (h : 0 < j) : gMod (.int i) (.int j) hp = some (.int (i % j), hp) := by simp [gMod, h]
@[simp] theorem gLt_int {i j : Int} : gLt (.int i) (.int j) hp = some (.bl (decide (i < j)), hp) := rfl
@[simp] theorem gLe_int {i j : Int} : gLe (.int i) (.int j) hp = some (.bl (decide (i ≤ j)), hp) := rfl
@[simp] theorem gGt_int {i j : Int} : gGt (.int i) (.int j) hp = some (.bl (decide (j < i)), hp) := rfl
@[simp] theorem gGe_int {i j : Int} : gGe (.int i) (.int j) hp = some (.bl (decide (j ≤ i)), hp) := rfl
@[simp] theorem gNeg_int {i : Int} : gNeg (.int i) hp = some (.int (-i), hp) := rfl
theorem cMul_of {i j : Int} (h : (-(2 ^ 64) < i ∧ i < 2 ^ 64) ∨ (-(2 ^ 64) < j ∧ j < 2 ^ 64)) : cMul i j = true := decide_eq_true (.inl h)
theorem cDiv_of {i j : Int} (h : 0 < j ∧ j < 1073741824) : cDiv i j = true := decide_eq_true ⟨h.1, .inl h.2⟩
@[simp] theorem gEq_int {i j : Int} : gEq (.int i) (.int j) hp = some (.bl (i == j), hp) := rfl
@[simp] theorem gNe_int {i j : Int} : gNe (.int i) (.int j) hp = some (.bl (!(i == j)), hp) := rfl
end
def T (a : List Int) : D := .tup (a.map D.int)
theorem mapO_int {hp : Hd} {n : Nat} : ∀ a : List Int, mapO (pyF hp (n + 1)) (a.map D.int) = some (a.map PyData.int)
  | [] => rfl
  | x :: r => by
    rw [List.map_cons, mapO, mapO_int r]
    rfl
theorem pyF_T {hp : Hd} {n : Nat} (a : List Int) : pyF hp (n + 2) (T a) = some (.tuple (a.map PyData.int)) := by
  show (mapO (pyF hp (n + 1)) (a.map D.int)).map PyData.tuple = _
  rw [mapO_int]
  rfl
theorem mapO_T {hp : Hd} {n : Nat} : ∀ bs : List (List Int), mapO (pyF hp (n + 2)) (bs.map T) = some (bs.map fun b => .tuple (b.map PyData.int))
  | [] => rfl
  | x :: r => by
    rw [List.map_cons, mapO, mapO_T r, pyF_T]
    rfl
theorem canInts : ∀ a : List Int, PyData.canLayAll0 (a.map PyData.int) = true
  | [] => rfl
  | x :: r => by
    rw [List.map_cons, PyData.canLayAll0, canInts r]
    rfl
theorem depInts : ∀ a : List Int, PyData.depthAll (a.map PyData.int) = 0
  | [] => rfl
  | x :: r => by
    rw [List.map_cons, PyData.depthAll, depInts r]
    rfl
theorem shaped_T (a : List Int) : SeqAt.shaped (.tuple (a.map PyData.int)) = true := by
  unfold SeqAt.shaped
  rw [PyData.canLay0, canInts, PyData.depth, depInts]
  rfl
theorem canTs : ∀ bs : List (List Int), PyData.canLayAll0 (bs.map fun b => .tuple (b.map PyData.int)) = true
  | [] => rfl
  | x :: r => by
    rw [List.map_cons, PyData.canLayAll0, PyData.canLay0, canInts, canTs r]
    rfl
theorem depTs : ∀ bs : List (List Int), PyData.depthAll (bs.map fun b => .tuple (b.map PyData.int)) ≤ 1
  | [] => Nat.zero_le _
  | x :: r => by
    rw [List.map_cons, PyData.depthAll, PyData.depth, depInts]
    have := depTs r
    omega
theorem shaped_Ts (bs : List (List Int)) : SeqAt.shaped (.list (bs.map fun b => .tuple (b.map PyData.int))) = true := by
  unfold SeqAt.shaped
  rw [PyData.canLay0, canTs, PyData.depth]
  have := depTs bs
  simp
  omega
theorem eqvInts : ∀ a b : List Int, PyData.eqvAll (a.map PyData.int) (b.map PyData.int) = (a == b)
  | [], [] => rfl
  | [], _ :: _ => rfl
  | _ :: _, [] => rfl
  | x :: r, y :: s => by
    rw [List.map_cons, List.map_cons, PyData.eqvAll, eqvInts r s]
    rfl
theorem eqv_T (a b : List Int) : PyData.eqv (.tuple (a.map PyData.int)) (.tuple (b.map PyData.int)) = (a == b) := by
  rw [PyData.eqv, eqvInts]
theorem inL_T {hp : Hd} (a : List Int) (bs : List (List Int)) : inL hp (T a) (bs.map T) = some (bs.any fun b => b == a) := by
  unfold inL
  rw [pyF_T (n := 14), mapO_T (n := 13)]
  dsimp only
  rw [shaped_T, shaped_Ts]
  simp only [Bool.and_self, if_true, List.any_map, Option.some.injEq]
  congr 1
  funext b
  exact eqv_T b a
theorem nr_T (a : List Int) : nr (T a) = true := by
  show D.alls _ (a.map D.int) = true
  induction a with
  | nil => rw [List.map_nil, D.alls]
  | cons x r ih => rw [List.map_cons, D.alls, ih]; rfl
theorem nrs_T : ∀ bs : List (List Int), nrs (bs.map T) = true
  | [] => rfl
  | x :: r => by
    show D.alls _ (T x :: r.map T) = true
    rw [D.alls, show D.all (fun _ => false) (T x) = true from nr_T x, show D.alls (fun _ => false) (r.map T) = true from nrs_T r]
    rfl
theorem lcGo_typed {α : Type} {t : Tg} {gd : Gd} {tt : AT} {te : AE} {ls0 : Ls} {hp : Hd} (φ : α → D) (hg : gdOk gd hp = true) (bf : α → Bool) (df : α → D) : ∀ (items : List α),
    (∀ x ∈ items, ∃ ls1, t.asg (φ x) ls0 = some ls1 ∧ tt ls1 hp = some (bf x, hp) ∧ (bf x = true → te ls1 hp = some (df x, hp))) → lcGo t gd tt te ls0 (items.map φ) hp = some ((items.filter bf).map df, hp)
  | [], _ => by simp [lcGo, hg]
  | x :: xs, h => by
    obtain ⟨ls1, e1, e2, e3⟩ := h x List.mem_cons_self
    have ih := lcGo_typed φ hg bf df xs fun y hy => h y (List.mem_cons_of_mem _ hy)
    cases hb : bf x with
    | true =>
      rw [hb] at e2
      simp only [List.map_cons, lcGo, hg, if_true, e1, e2, e3 hb, ih, List.filter_cons, hb, List.map_cons]
    | false =>
      rw [hb] at e2
      simp only [List.map_cons, lcGo, hg, if_true, e1, e2, ih, List.filter_cons, hb, Bool.false_eq_true, if_false]
theorem hget_new {hp : Hd} {o : O} : (hp ++ [o])[hp.length]? = some o := by simp
theorem hget_old {hp l : Hd} {n : Nat} {o : O} (h : hp[n]? = some o) : (hp ++ l)[n]? = some o := by
  rw [List.getElem?_append_left (List.getElem?_eq_some_iff.mp h).1]
  exact h
theorem hlt {hp : Hd} {n : Nat} {o : O} (h : hp[n]? = some o) : n < hp.length := (List.getElem?_eq_some_iff.mp h).1
theorem hset_same {hp : Hd} {n : Nat} {o o' : O} (h : hp[n]? = some o) : (hp.set n o')[n]? = some o' := List.getElem?_set_self (hlt h)
theorem hset_ne {hp : Hd} {n m : Nat} {o o' : O} (h : n ≠ m) (e : hp[m]? = some o) : (hp.set n o')[m]? = some o := by
  rw [List.getElem?_set_ne h]
  exact e
theorem mIS_ref {fa : AE} {ls : Ls} {hp hp' : Hd} {n : Nat} {xs : List D} (e : fa ls hp = some (.ref n, hp')) (h : hp'[n]? = some (.lst xs)) : mIS fa ls hp = some (xs, [(n, xs)], hp') := by
  unfold mIS
  rw [e]
  show (match (match hp'[n]? with
    | some (.lst xs) => some (xs, [(n, xs)])
    | _ => none) with
    | some (items, gd) => some (items, gd, hp')
    | none => none) = _
  rw [h]
theorem mIS_tup {fa : AE} {ls : Ls} {hp hp' : Hd} {xs : List D} (e : fa ls hp = some (.tup xs, hp')) : mIS fa ls hp = some (xs, [], hp') := by
  unfold mIS
  rw [e]
  rfl
theorem gdOk1 {hp : Hd} {n : Nat} {xs : List D} (h : hp[n]? = some (.lst xs)) : gdOk [(n, xs)] hp = true := by
  unfold gdOk gdOk
  rw [h]
  dsimp only
  rw [D.sames_self]
  rfl
theorem gIn_lst {hp : Hd} {n : Nat} {a : List Int} {bs : List (List Int)} (h : hp[n]? = some (.lst (bs.map T))) : gIn (T a) (.ref n) hp = some (.bl (bs.any fun b => b == a), hp) := by
  have e : inB (T a) (.ref n) hp = inL hp (T a) (bs.map T) := by
    show (match hp[n]? with
      | some (.lst ys) => inL hp (T a) ys
      | some o => match dicOf o with
        | some kvs => if dKind kvs (T a) = true then some (look kvs (T a)).isSome else none
        | none => none
      | none => none) = _
    rw [h]
  unfold gIn
  rw [e, inL_T]
theorem mLc_typed {α : Type} {fi : AI} {t : Tg} {own : List Nat} {tt : AT} {te : AE} {ls : Ls} {hp hp1 : Hd} {gd : Gd} (φ : α → D) (items : List α) (bf : α → Bool) (df : α → D) (ei : fi ls hp = some (items.map φ, gd, hp1)) (hl : items.length ≤ sizeLine) (hg : gdOk gd hp1 = true)
    (h : ∀ x ∈ items, ∃ ls1, t.asg (φ x) (wipeL ls own) = some ls1 ∧ tt ls1 hp1 = some (bf x, hp1) ∧ (bf x = true → te ls1 hp1 = some (df x, hp1))) : mLc fi t own tt te ls hp = some ((items.filter bf).map df, hp1) := by
  unfold mLc
  rw [ei]
  dsimp only
  rw [if_pos (by rw [List.length_map]; exact hl), lcGo_typed φ hg bf df items h]
theorem mL_of {fl : AA} {g : List D → Hd → Option (D × Hd)} {ls : Ls} {hp hp' : Hd} {ds : List D} (e : fl ls hp = some (ds, hp')) : mL fl g ls hp = g ds hp' := by
  unfold mL
  rw [e]
theorem m2_of {fa fb : AE} {g : D → D → Hd → Option (D × Hd)} {ls : Ls} {hp hp1 hp2 : Hd} {a b : D} (e1 : fa ls hp = some (a, hp1)) (e2 : fb ls hp1 = some (b, hp2)) : m2 fa fb g ls hp = g a b hp2 := by
  rw [m2_s, e1]
  dsimp only
  rw [e2]
theorem mT_of {fa : AE} {ls : Ls} {hp hp' : Hd} {b : Bool} (e : fa ls hp = some (.bl b, hp')) : mT fa ls hp = some (b, hp') := by
  rw [mT_s, e]
theorem sSeq_of {f g : AS} {ls ls1 : Ls} {hp hp1 : Hd} {r : Option (Fl × Ls × Hd)} (e : f ls hp = some (.nx, ls1, hp1)) (e2 : g ls1 hp1 = r) : sSeq f g ls hp = r := by
  rw [sSeq_s, e]
  exact e2
theorem sSet_of {i : Nat} {fa : AE} {ls : Ls} {hp hp1 : Hd} {d : D} (e : fa ls hp = some (d, hp1)) : sSet i fa ls hp = some (.nx, ls.set i (some d), hp1) := by
  rw [sSet_s, e]
theorem sIf_t {ft : AT} {f g : AS} {ls : Ls} {hp hp1 : Hd} {r : Option (Fl × Ls × Hd)} (e : ft ls hp = some (true, hp1)) (e2 : f ls hp1 = r) : sIf ft f g ls hp = r := by
  rw [sIf_s, e]
  exact e2
theorem sIf_f {ft : AT} {f g : AS} {ls : Ls} {hp hp1 : Hd} {r : Option (Fl × Ls × Hd)} (e : ft ls hp = some (false, hp1)) (e2 : g ls hp1 = r) : sIf ft f g ls hp = r := by
  rw [sIf_s, e]
  exact e2
theorem mNew_of {fl : AA} {ls : Ls} {hp hp' : Hd} {ds : List D} (e : fl ls hp = some (ds, hp')) : mNew fl ls hp = some (.ref hp'.length, hp' ++ [.lst ds]) := by
  rw [mNew_s, e]
theorem gLen_lst {hp : Hd} {n : Nat} {xs : List D} (h : hp[n]? = some (.lst xs)) : gLen [.ref n] hp = some (.int xs.length, hp) := by
  show (match hp[n]? with
    | some (.lst ds) => some (D.int ds.length, hp)
    | some (.dic ds) => some (D.int ds.length, hp)
    | _ => none) = _
  rw [h]
end Ve
namespace Ve
open PySem PySem.Spec L2
theorem ints_inj : ∀ {a b : List Int}, a.map D.int = b.map D.int → a = b
  | [], [], _ => rfl
  | [], _ :: _, h => by cases h
  | _ :: _, [], h => by cases h
  | x :: r, y :: s, h => by
    rw [List.map_cons, List.map_cons] at h
    injection h with h1 h2
    injection h1 with h1
    rw [h1, ints_inj h2]
theorem T_inj {a b : List Int} (h : T a = T b) : a = b := ints_inj (D.tup.inj h)
theorem toKeys_ints : ∀ a : List Int, toKeys (a.map D.int) = some (a.map Sum.inl)
  | [] => rfl
  | x :: r => by
    rw [List.map_cons, toKeys, toKeys_ints r]
    rfl
theorem same_T {a b : List Int} : (D.same (T a) (T b) = true) ↔ a = b := ⟨fun h => T_inj (same_iff.mp h), fun h => by rw [h]; exact D.same_self _⟩
def Cd (cs : List (List Int)) : List (D × D) := cs.map fun c => (T c, D.bl true)
def addC (cs : List (List Int)) (a : List Int) : List (List Int) := if a ∈ cs then cs else cs ++ [a]
theorem look_Cd : ∀ (cs : List (List Int)) (a : List Int), look (Cd cs) (T a) = if a ∈ cs then some (.bl true) else none
  | [], a => rfl
  | c :: cs, a => by
    show look ((T c, D.bl true) :: Cd cs) (T a) = _
    rw [look, look_Cd cs a]
    by_cases h : c = a
    · rw [if_pos (same_T.mpr h), if_pos (by rw [h]; exact List.mem_cons_self)]
    · rw [if_neg (fun z => h (same_T.mp z))]
      by_cases h2 : a ∈ cs
      · rw [if_pos h2, if_pos (List.mem_cons_of_mem _ h2)]
      · rw [if_neg h2, if_neg (fun z => by
          rcases List.mem_cons.mp z with z | z
          · exact h z.symm
          · exact h2 z)]
theorem dKind_Cd (cs : List (List Int)) (a : List Int) : dKind (Cd cs) (T a) = true := by
  show ((toKeys (a.map D.int)).isSome && _) = true
  rw [toKeys_ints]
  cases cs <;> rfl
theorem putD_Cd : ∀ (cs : List (List Int)) (a : List Int), putD (Cd cs) (T a) (.bl true) = Cd (addC cs a)
  | [], a => rfl
  | c :: cs, a => by
    show putD ((T c, D.bl true) :: Cd cs) (T a) (.bl true) = _
    rw [putD]
    by_cases h : c = a
    · rw [if_pos (same_T.mpr h)]
      subst h
      unfold addC
      rw [if_pos List.mem_cons_self]
      rfl
    · rw [if_neg (fun z => h (same_T.mp z)), putD_Cd cs a]
      unfold addC
      by_cases h2 : a ∈ cs
      · rw [if_pos h2, if_pos (List.mem_cons_of_mem _ h2)]
        rfl
      · rw [if_neg h2, if_neg (fun z => by
          rcases List.mem_cons.mp z with z | z
          · exact h z.symm
          · exact h2 z)]
        rfl
theorem inB_dic {hp : Hd} {n : Nat} {a : List Int} {cs : List (List Int)} (h : hp[n]? = some (.dic (Cd cs))) : inB (T a) (.ref n) hp = some (decide (a ∈ cs)) := by
  show (match hp[n]? with
      | some (.lst ys) => inL hp (T a) ys
      | some o => match dicOf o with
        | some kvs => if dKind kvs (T a) = true then some (look kvs (T a)).isSome else none
        | none => none
      | none => none) = _
  rw [h]
  show (if dKind (Cd cs) (T a) = true then some (look (Cd cs) (T a)).isSome else none) = _
  rw [if_pos (dKind_Cd cs a), look_Cd]
  by_cases h2 : a ∈ cs
  · rw [if_pos h2, decide_eq_true h2]
    rfl
  · rw [if_neg h2, decide_eq_false h2]
    rfl
theorem gIn_dic {hp : Hd} {n : Nat} {a : List Int} {cs : List (List Int)} (h : hp[n]? = some (.dic (Cd cs))) : gIn (T a) (.ref n) hp = some (.bl (decide (a ∈ cs)), hp) := by
  unfold gIn
  rw [inB_dic h]
theorem gNotIn_dic {hp : Hd} {n : Nat} {a : List Int} {cs : List (List Int)} (h : hp[n]? = some (.dic (Cd cs))) : gNotIn (T a) (.ref n) hp = some (.bl (!decide (a ∈ cs)), hp) := by
  unfold gNotIn
  rw [inB_dic h]
theorem inB_tup {hp : Hd} {a : List Int} {cs : List (List Int)} : inB (T a) (.tup (cs.map T)) hp = some (decide (a ∈ cs)) := by
  show (if (flatD (T a) && (cs.map T).all flatD) = true then some ((cs.map T).any fun z => eqF z (T a)) else inL hp (T a) (cs.map T)) = _
  rw [if_neg (show ¬ (flatD (T a) && (cs.map T).all flatD) = true from fun z => by rw [Bool.and_eq_true] at z; exact Bool.noConfusion (show false = true from z.1)), inL_T]
  congr 1
  rw [Bool.eq_iff_iff, List.any_eq_true, decide_eq_true_eq]
  exact ⟨fun ⟨b, hb, e⟩ => by rw [← eq_of_beq e]; exact hb, fun h => ⟨a, h, beq_self_eq_true a⟩⟩
theorem gIn_tup {hp : Hd} {a : List Int} {cs : List (List Int)} : gIn (T a) (.tup (cs.map T)) hp = some (.bl (decide (a ∈ cs)), hp) := by
  unfold gIn
  rw [inB_tup]
theorem lexLt_iff : ∀ a b : List Int, HT.lexLt a b = decide (a < b)
  | [], [] => by simp [HT.lexLt]
  | [], y :: s => by simp [HT.lexLt]
  | x :: r, [] => by simp [HT.lexLt]
  | x :: r, y :: s => by
    rw [HT.lexLt, lexLt_iff r s]
    by_cases h : x = y
    · rw [if_pos h]
      subst h
      simp [List.cons_lt_cons_iff]
    · rw [if_neg h]
      simp [List.cons_lt_cons_iff, h]
theorem ints_map (a : List Int) : ints? (a.map D.int) = some a := ints?_map a
theorem gLt_T {hp : Hd} (a b : List Int) : gLt (T a) (T b) hp = some (.bl (decide (a < b)), hp) := by
  show (match ints? (a.map D.int), ints? (b.map D.int) with
    | some ns, some ms => some (D.bl (HT.lexLt ns ms), hp)
    | _, _ => none) = _
  rw [ints_map, ints_map]
  dsimp only
  rw [lexLt_iff]
theorem encD_T {hp : Hd} (a : List Int) : encD hp (T a) = .tuple (a.map PyData.int) := by
  unfold encD
  rw [pyF_T (n := 13)]
  rfl
theorem dataLe_T {hp : Hd} (a b : List Int) : PySem.W.dataLe false (encD hp) (T a) (T b) = decide (a ≤ b) := by
  have h := congrFun (congrFun (PySem.W.dataLe_rows (fun x : List Int => x)) a) b
  rw [← h]
  rw [PySem.W.dataLe_eq, PySem.W.dataLe_eq]
  show (!PySem.W.dataLt (encD hp (T b)) (encD hp (T a))) = (!PySem.W.dataLt (.list (b.map PyData.int)) (.list (a.map PyData.int)))
  rw [encD_T, encD_T, PySem.W.dataLt_tuple, PySem.W.dataLt_list]
def sortC (cs : List (List Int)) : List (List Int) := cs.mergeSort fun a b => decide (a ≤ b)
theorem srt_T {hp : Hd} (cs : List (List Int)) : srt hp (cs.map T) = (sortC cs).map T := by
  unfold srt sortC
  rw [List.map_mergeSort]
  intro a _ b _
  exact (dataLe_T a b).symm
theorem sortC_perm (cs : List (List Int)) : (sortC cs).Perm cs := List.mergeSort_perm _ _
theorem sortC_sorted (cs : List (List Int)) : (sortC cs).Pairwise (· ≤ ·) := by
  have := List.pairwise_mergeSort (le := fun a b : List Int => decide (a ≤ b)) (fun a b c h1 h2 => by
    simp only [decide_eq_true_eq] at *
    exact List.le_trans h1 h2) (fun a b => by
    simp only [Bool.or_eq_true, decide_eq_true_eq]
    exact List.le_total a b) cs
  exact this.imp fun h => of_decide_eq_true h
theorem srtOk_T {hp : Hd} {cs : List (List Int)} (h : ∀ c ∈ cs, c ≠ []) : srtOk hp (cs.map T) = true := by
  unfold srtOk
  rw [Bool.and_eq_true, Bool.and_eq_true, Bool.and_eq_true]
  refine ⟨?_, ?_, ?_, ?_⟩ <;> try rw [List.all_map, List.all_eq_true]
  · intro c _
    show (pyF hp 15 (T c)).isSome = true
    rw [pyF_T (n := 13)]
    rfl
  · intro c _
    show ((cs.map T).all fun b => PySem.W.alike (encD hp (T c)) (encD hp b)) = true
    rw [List.all_map, List.all_eq_true]
    intro b _
    show PySem.W.alike (encD hp (T c)) (encD hp (T b)) = true
    rw [encD_T, encD_T, PySem.W.alike, PySem.W.alike_ints]
  · rw [Bool.or_eq_true]
    refine .inl ?_
    rw [List.all_map, List.all_eq_true]
    intro c hc
    show isTupC (encD hp (T c)) = true
    rw [encD_T]
    cases c with
    | nil => exact absurd rfl (h _ hc)
    | cons x r => rfl
  · intro c _
    show decide ((encD hp (T c)).depth ≤ 40) = true
    rw [encD_T, PyData.depth, depInts]
    rfl
theorem gSrt_T {hp : Hd} {cs : List (List Int)} (h : ∀ c ∈ cs, c ≠ []) : gSrt (cs.map T) hp = some ((sortC cs).map T, hp) := by
  unfold gSrt
  rw [if_pos (srtOk_T h), srt_T]
theorem gSrtO_dic {hp : Hd} {n : Nat} {cs : List (List Int)} (e : hp[n]? = some (.dic (Cd cs))) (h : ∀ c ∈ cs, c ≠ []) : gSrtO (.ref n) hp = some ((sortC cs).map T, hp) := by
  have e1 : seqOfL (.ref n) hp = none := by
    show (match hp[n]? with
      | some (.lst xs) => some xs
      | _ => none) = _
    rw [e]
  have e2 : keysOf (.ref n) hp = some (cs.map T) := by
    show (match hp[n]? with
      | some (.dic kvs) => some (kvs.map fun p : D × D => p.1)
      | _ => none) = _
    rw [e]
    show some (List.map (fun p : D × D => p.1) (Cd cs)) = _
    unfold Cd
    rw [List.map_map]
    rfl
  unfold gSrtO
  rw [e1]
  dsimp only
  rw [e2]
  exact gSrt_T h
theorem cV_of {m : List D → Hd → Option (D × Hd)} {ds : List D} {hp g : Hd} {d : D} (hn : nrs ds = true) (e : m ds [] = some (d, g)) (hd : nr d = true) : cV m ds hp = some (d, hp) := by
  unfold cV
  rw [if_pos hn, e]
  dsimp only
  rw [if_pos hd]
theorem cN_of {m : List D → Hd → Option (D × Hd)} {ds : List D} {hp g : Hd} {k : Nat} {o : O} (hn : nrs ds = true) (e : m ds [] = some (.ref k, g)) (eo : g[k]? = some o) (ho : nrO o = true) : cN m ds hp = some (.ref hp.length, hp ++ [o]) := by
  unfold cN
  rw [if_pos hn, e]
  dsimp only
  rw [eo]
  dsimp only
  rw [if_pos ho]
theorem nr_tup {ds : List D} (h : nrs ds = true) : nr (.tup ds) = true := h
theorem nrs_cons {d : D} {ds : List D} (h1 : nr d = true) (h2 : nrs ds = true) : nrs (d :: ds) = true := by
  show D.alls _ (d :: ds) = true
  rw [D.alls, show D.all (fun _ => false) d = true from h1, show D.alls (fun _ => false) ds = true from h2]
  rfl
end Ve
namespace Ve
open PySem PySem.Spec L2 PySem.AutoSeq1
end Ve
namespace Ve
open PySem PySem.Spec L2
def gTupV : List D → Hd → Option (D × Hd)
  | [.tup ds], hp => some (.tup ds, hp)
  | [.wt ds], hp => some (.wt ds, hp)
  | [d], hp => match seqOfL d hp with
    | some ds => some (.tup ds, hp)
    | none => none
  | _, _ => none
section
variable {X : Cx}
theorem c_tuple : CallR X (.type "tuple") (RDs X.K gTupV) := fun pins s σ H xs us Q I r ⟨hp, μ, ds, d, hp', rh, rs, e, q⟩ => by
  unfold gTupV at e
  split at e
  · cases e
    obtain ⟨v, rfl, r1⟩ := rs.one
    obtain ⟨a, vs, rfl, t, r2⟩ := r1.tupE
    exact call_tuple_of pins s σ H _ us Q I r ⟨a, vs, rfl, .inr ⟨t.sq, q _ H μ Ext.refl rh (Rp.tup' t r2)⟩⟩
  · cases e
    obtain ⟨v, rfl, r1⟩ := rs.one
    have r1' := r1
    obtain ⟨a, vs, rfl, t, r2⟩ := r1.wtE
    exact call_tuple_of pins s σ H _ us Q I r ⟨a, vs, rfl, .inr ⟨t.sq, q _ H μ Ext.refl rh r1'⟩⟩
  · split at e
    · rename_i ds' e1
      cases e
      obtain ⟨v, rfl, r1⟩ := rs.one
      obtain ⟨a, vs, rfl, hq, r2⟩ := seqOfL_some rh r1 e1
      refine call_tuple_of pins s σ H _ us Q I r ⟨a, vs, rfl, .inl ⟨hq, fun l h0 => ?_⟩⟩
      have x2 := Ext.laid rh (o := .tup vs) h0
      exact q _ _ μ x2 (rh.laid h0) (Rp.tup upd_same (r2.ext x2))
    · cases e
  · cases e
end
end Ve
namespace Ve
open PySem PySem.Spec L2
end Ve
namespace Ve
open PySem PySem.Spec L2
abbrev TgM := D → Ls → Hd → Option (Ls × Hd)
def gM (K : PySem.W.Frag) (t : TgM) : TG := fun v σ H Q => ∃ ls hp μ d ls' hp', Rl K H μ ls σ ∧ RelH K H μ hp ∧ Rp K H μ d v ∧ t d ls hp = some (ls', hp') ∧ ∀ σ' H' μ', Ext μ H μ' H' → RelH K H' μ' hp' → Rl K H' μ' ls' σ' → Q σ' H'
def gMs (K : PySem.W.Frag) (t : List D → Ls → Hd → Option (Ls × Hd)) : TGs := fun vs σ H Q => ∃ ls hp μ ds ls' hp', Rl K H μ ls σ ∧ RelH K H μ hp ∧ Rps K H μ ds vs ∧ t ds ls hp = some (ls', hp') ∧ ∀ σ' H' μ', Ext μ H μ' H' → RelH K H' μ' hp' → Rl K H' μ' ls' σ' → Q σ' H'
def tNm (i : Nat) : TgM := fun d ls hp => some (ls.set i (some d), hp)
def tSub (fo fi : AE) : TgM := fun d ls hp => match fo ls hp with
  | some (x, hp1) => match fi ls hp1 with
    | some (y, hp2) => match gSet x y d hp2 with
      | some hp3 => some (ls, hp3)
      | none => none
    | none => none
  | none => none
def tTps : List TgM → List D → Ls → Hd → Option (Ls × Hd)
  | [], [], ls, hp => some (ls, hp)
  | t :: ts, d :: ds, ls, hp => match t d ls hp with
    | some (ls1, hp1) => tTps ts ds ls1 hp1
    | none => none
  | _, _, _, _ => none
def tTp (ts : List TgM) : TgM := fun d ls hp => match tupOf d with
  | some ds => tTps ts ds ls hp
  | none => none
abbrev DM (X : Cx) (e : Expr) (t : TgM) : Prop := PG X e (gM X.K t)
abbrev DMs (X : Cx) (e : List Expr) (ts : List TgM) : Prop := PGs X e (gMs X.K (tTps ts))
section
variable {X : Cx} {e a b : Expr} {es : List Expr} {fa fb fo fi : AE} {fr : AA} {pos p2 : Pos} {t : TgM} {ts : List TgM}
theorem dm_name {i : Nat} {x : Str} (hN : X.N.Nodup) (hi : X.N[i]? = some x) (hx : Loc X.env.scope x) (hf : X.fn x = true ∨ X.env.scope.names.lookup x = some .local := by first | exact .inl rfl | exact .inr rfl | assumption) :
    DM X (.Name x pos) (tNm i) :=
  PG.imp (pg_name hN hi hx hf) fun v σ H Q ⟨ls, hp, μ, d, ls', hp', rl, rh, r, e, q⟩ => by
    unfold tNm at e
    cases e
    exact q _ H μ Ext.refl rh (rl.set r)
theorem dm_sub {o i : Expr} (hu : X.A.units + 1 < cLine) (ho : DE X o fo) (hi : DE X i fi)
    (ha : ∀ v, assign (.Subscript o i pos) X.env v = (do
      let ov ← holding [v] (eval o X.env)
      let iv ← holding [v, ov] (eval i X.env)
      standAt pos
      holding [v, ov, iv] (setItem ov iv v)
      release [v, ov, iv] []) := by intro _; rfl) : DM X (.Subscript o i pos) (tSub fo fi) :=
  PG.imp (pg_sub ho hi (set_any hu) ha) fun v σ H Q ⟨ls, hp, μ, d, ls', hp', rl, rh, r, e, q⟩ => by
    unfold tSub at e
    split at e
    · rename_i x hp1 e1
      split at e
      · rename_i y hp2 e2
        split at e
        · rename_i hp3 e3
          cases e
          exact ⟨ls, hp, μ, x, hp1, rl, rh, e1, fun v1 H1 μ1 x1 rh1 r1 => ⟨ls, hp1, μ1, y, hp2, rl.ext x1, rh1, e2, fun v2 H2 μ2 x2 rh2 r2 =>
            ⟨hp2, μ2, x, y, d, hp', rh2, r1.ext x2, r2, (r.ext x1).ext x2, e3, fun H3 x3 rh3 => q σ H3 μ2 ((x1.trans x2).trans x3) rh3 (((rl.ext x1).ext x2).ext x3)⟩⟩⟩
        · cases e
      · cases e
    · cases e
theorem dms_nil : DMs X [] [] := PGs.imp pgs_nil fun v σ H Q ⟨ls, hp, μ, ds, ls', hp', rl, rh, r, e, q⟩ => by
  cases ds with
  | nil =>
    simp only [tTps] at e
    cases e
    rw [Rps] at r
    exact ⟨r, q σ H μ Ext.refl rh rl⟩
  | cons x xs => simp [tTps] at e
theorem dms_cons (h1 : DM X e t) (h2 : DMs X es ts) (hs : (assignEach (e :: es) X.env).map (·.2) = assign e X.env :: (assignEach es X.env).map (·.2) := by rfl) : DMs X (e :: es) (t :: ts) :=
  PGs.imp (pgs_cons h1 h2 hs) fun v σ H Q ⟨ls, hp, μ, ds, ls', hp', rl, rh, r, e, q⟩ => by
    cases ds with
    | nil => simp [tTps] at e
    | cons x xs =>
      simp only [tTps] at e
      split at e
      · rename_i ls1 hp1 e1
        rw [Rps] at r
        obtain ⟨v1, vs, rfl, r1, r2⟩ := r
        exact ⟨v1, vs, rfl, ls, hp, μ, x, ls1, hp1, rl, rh, r1, e1, fun σ1 H1 μ1 x1 rh1 rl1 => ⟨ls1, hp1, μ1, xs, ls', hp', rl1, rh1, r2.ext x1, e, fun σ2 H2 μ2 x2 rh2 rl2 => q σ2 H2 μ2 (x1.trans x2) rh2 rl2⟩⟩
      · cases e
theorem tTps_len : ∀ {ts : List TgM} {ds : List D} {ls ls' : Ls} {hp hp' : Hd}, tTps ts ds ls hp = some (ls', hp') → ds.length = ts.length
  | [], [], _, _, _, _, _ => rfl
  | [], _ :: _, _, _, _, _, h => by simp [tTps] at h
  | _ :: _, [], _, _, _, _, h => by simp [tTps] at h
  | t :: ts, d :: ds, ls, ls', hp, hp', h => by
    simp only [tTps] at h
    split at h
    · rw [List.length_cons, List.length_cons, tTps_len h]
    · cases h
theorem dm_tup {k : Nat} (hc : X.calm = true) (h : DMs X es ts) (hn : (assignEach es X.env).length = ts.length := by rfl) (hst : (assignEach es X.env).findIdx? (·.1) = none := by rfl) : DM X (.Tuple es k pos) (tTp ts) :=
  PG.imp (pg_tup (n := ts.length) hc h hn hst) fun v σ H Q ⟨ls, hp, μ, d, ls', hp', rl, rh, r, e, q⟩ => by
    unfold tTp at e
    split at e
    · rename_i ds e1
      obtain ⟨a, vs, rfl, ta, rs⟩ := tupOf_some e1 r
      exact ⟨a, vs, rfl, ta.elim (fun t => t.sq) fun t => t.sq, by rw [rs.len, tTps_len e], ls, hp, μ, ds, ls', hp', rl, rh, rs, e, q⟩
    · cases e
def sAsgM (t : TgM) (f : AE) : AS := fun ls hp => match f ls hp with
  | some (d, hp1) => match t d ls hp1 with
    | some (ls1, hp2) => some (.nx, ls1, hp2)
    | none => none
  | none => none
theorem ds_asgM {tg : Expr} (he : DE X e fa) (hg : DM X tg t) (hs : swapsWithSole [tg] e pos.line X.env = pure false := by rfl) (hsw : swappedStores [tg] e X.env = pure none := by rfl) (h1 : (assignEach [tg] X.env).map (·.2) = [assign tg X.env] := by rfl) : DS X (.Assign [tg] e pos) (sAsgM t fa) :=
  PS.imp (ps_asg he hg hs hsw h1) fun Dn σ H ⟨ls, hp, μ, fl, ls', hp', rl, rh, e, q⟩ => by
    unfold sAsgM at e
    split at e
    · rename_i d hp1 e1
      split at e
      · rename_i ls1 hp2 e2
        cases e
        exact ⟨ls, hp, μ, d, hp1, rl, rh, e1, fun v H' μ' x1 rh1 r1 => ⟨ls, hp1, μ', d, ls', hp', rl.ext x1, rh1, r1, e2, fun σ' H2 μ2 x2 rh2 rl2 => q H2 μ2 (x1.trans x2) rh2 σ' rl2⟩⟩
      · cases e
    · cases e
end
def notNon : PyData → Bool
  | .none => false
  | _ => true
theorem notNon_ne {p : PyData} (h : notNon p = true) : p ≠ .none := fun e => by subst e; cases h
end Ve
open PySem in
theorem Ve.meets_enumerate_newT (l : Addr) (items : Array Value) (n : Nat) (dct : Option Addr) (sl : Array (Option Value)) :
    Meets (Builtin.«enumerate.__new__» ⟨[.type "enumerate", .ref l], []⟩) (fun _ R s => s.heap.get? l = some { cls := .type "tuple", dict := dct, data := .seq items n, slots := sl } ∧
      R (.ok (.ret (.ref (s.heap.push { cls := .type "tuple_iterator", data := .fields #[.ref l, .int 0 0] }).objs.size)))
        { s with heap := (s.heap.push { cls := .type "tuple_iterator", data := .fields #[.ref l, .int 0 0] }).push { cls := .type "enumerate", data := .fields #[.none, .bool false, .ref s.heap.objs.size, rawInt 0, .none, .none] } }) :=
  .of_wp fun prog w A R s h => by
    obtain ⟨hp, g, d, tk, os⟩ := s; obtain ⟨hl, h⟩ := h
    have hsub := sub_enumerate
    have hL : Heap.IsTuple (Shared.heap ⟨hp, g, d, tk, os⟩) l items := ⟨_, hl, rfl, n, rfl⟩
    wp_walk using AutoSeq1.wpAny_loadPart' hl
    refine wpAny_stack_any fun st => wpAny_pure ?_
    split
    · rename_i c _ _ _ _ _
      cases (c == Value.type "enumerate")
      · wp_walk using AutoSeq1.wpAny_loadPart' hl, wpAny_pyIter_tuple hL
        exact ⟨_, rfl, h⟩
      · wp_walk using AutoSeq1.wpAny_loadPart' hl, wpAny_pyIter_tuple hL
        exact ⟨_, rfl, h⟩
    · wp_walk using AutoSeq1.wpAny_loadPart' hl, wpAny_pyIter_tuple hL
      exact ⟨_, rfl, h⟩
open PySem in
theorem Ve.call_enumerate_tuple {prog : Program} {w : World} {A : Around} {E : Value → Shared → Prop} {s : Shared} {l : Addr} {items : Array Value} {Q : Value → Shared → Prop} (hL : s.heap.IsTuple l items)
    (h : ∀ h', IsEnum h' (s.heap.objs.size + 1) s.heap.objs.size 0 .none → h'.IsTupleIter s.heap.objs.size l 0 → h'.objs.size = s.heap.objs.size + 2 →
      (∀ b o, s.heap.get? b = some o → h'.get? b = some o) → Q (.ref (s.heap.objs.size + 1)) { s with heap := h' }) :
    wpAny (model prog w) A (call (.type "enumerate") [.ref l]) Q E s := by
  obtain ⟨⟨c, dct, dt, sl⟩, hl, hc, n, hd⟩ := hL
  replace hc : c = .type "tuple" := hc
  replace hd : dt = .seq items n := hd
  subst hc hd
  refine callType_new F.called_enumerate (by decide) (F.typeCall_enumerate_1 _) (F.newCall_enumerate_1 _) (fun obj => F.args_object_init_2 obj _) F.entry_enumerate_new
    (Ve.meets_enumerate_newT l items n dct sl) ⟨hl, ?_⟩
  have hz : (s.heap.push { cls := .type "tuple_iterator", data := .fields #[.ref l, .int 0 0] }).objs.size = s.heap.objs.size + 1 := Heap.size_push ..
  show _ ∧ _
  rw [hz]
  have he : IsEnum ((s.heap.push { cls := .type "tuple_iterator", data := .fields #[.ref l, .int 0 0] }).push { cls := .type "enumerate", data := .fields #[.none, .bool false, .ref s.heap.objs.size, rawInt 0, .none, .none] }) (s.heap.objs.size + 1) s.heap.objs.size 0 .none := by
    have := Heap.get?_push_size (s.heap.push { cls := .type "tuple_iterator", data := .fields #[.ref l, .int 0 0] }) (o := { cls := .type "enumerate", data := .fields #[.none, .bool false, .ref s.heap.objs.size, rawInt 0, .none, .none] }) rfl
    rw [hz] at this
    exact this
  exact ⟨⟨_, he, rfl⟩, h _ he ⟨_, Heap.get?_push_of_some _ (Heap.get?_push_size _ rfl), rfl, rfl⟩ (by rw [Heap.size_push, hz]) fun b o x => Heap.get?_push_of_some _ (Heap.get?_push_of_some _ x)⟩
open PySem in
theorem Ve.enum_endT {prog : Program} {w : World} {A : Around} {E : Value → Shared → Prop} {s : Shared} {e it t : Addr} {items : Array Value} {j : Nat} {i : Int} {old : Value} {Q : Option Value → Shared → Prop} (hh : A.handled = none) (he : IsEnum s.heap e it i old) (hit : s.heap.IsTupleIter it t j) (ht : s.heap.IsTuple t items) (hj : items.size ≤ j)
    (hQ : ∀ h', Heap.ExtBut it s.heap h' → Q none { s with heap := h' }) : wpAny (model prog w) A (pyNext (.ref e)) Q E s := by
  have hT : s.TypeIs (.ref e) "enumerate" := ⟨_, he, rfl⟩
  unfold pyNext
  refine wpAny_bind (wpAny_attempt (wpAny_callSpecial?_slot (name := Str.ofString "__next__") hT F.slot_enumerate_next
    (wpAny_call_entry F.slot_enumerate_next hT F.entry_enumerate_next ?_ (F.args_enumerate_next_1 _))))
  show wpAny _ _ (field (.ref e) 2 >>= _) _ _ _
  refine wpAny_bind (wpAny_field he rfl (x := .ref it) rfl ?_)
  refine wpAny_bind (wpAny_nextOf_tuple_end (A := A.in1) hh hit ht (by simpa using hj) fun h' x he' hx' => ?_)
  obtain ⟨o, ho, hc⟩ := hx'
  refine wpAny_bind (wpAny_isInstance (T := "StopIteration") (b := true) ⟨o, ho, hc⟩ isSubtype_stop ?_)
  exact wpAny_pure (hQ _ he')
namespace Ve
open PySem PySem.Spec L2
def IteT (K : PySem.W.Frag) (a : Addr) : It :=
  ⟨fun i H => ∃ (xs : List V) (x : V), SqT K H a xs ∧ xs[i]? = some x, fun i H v H' => ∃ T x, v = .ref T ∧ H T = none ∧ H' = upd H T (.tup [.int (i : Nat), x]) ∧ ∀ xs, SqT K H a xs → xs[i]? = some x, fun i H => ∃ xs : List V, SqT K H a xs ∧ xs.length ≤ i⟩
theorem turn_enumT {P : Program} {w : World} {K : PySem.W.Frag} {elts : List Expr} {kk : Nat} {tpos : Pos} (a e it : Addr) (hat : a ≠ it) (hae : a ≠ e) :
    Turn P w K (.Tuple elts kk tpos) (IteT K a) [e, it] e (fun i h => (∃ old, IsEnum h e it ((i : Nat) : Int) old) ∧ h.IsTupleIter it a i ∧ e ≠ it) where
  mem := by simp
  obj := fun i h st b hb => by
    obtain ⟨⟨old, he⟩, ⟨o, ho, hc, hd⟩, _⟩ := st
    have e' : b = e ∨ b = it := by simpa using hb
    rcases e' with z | z
    · rw [z]; exact ⟨_, he, fun v q => nomatch q⟩
    · rw [z]; exact ⟨o, ho, fun v q => by rw [hd] at q; cases q⟩
  keep := fun i h h' st k => let ⟨⟨old, he⟩, hi, hne⟩ := st; ⟨⟨old, k e (by simp) _ he⟩, hi.at fun o q => k it (by simp) o q, hne⟩
  item := by
    intro X hP hw hK hc i pins s σ H E I hf st hg
    subst hP hw hK
    obtain ⟨⟨old, he⟩, hit, hne⟩ := st
    obtain ⟨xs, x, hq, hx⟩ := hg
    obtain ⟨its, rv, p, hz⟩ := I.tuple hq
    obtain ⟨u, hu, ru⟩ := rv.get hx
    have hel : e < s.heap.objs.size := Heap.lt_size he
    have hil : it < s.heap.objs.size := by obtain ⟨_, q, _⟩ := hit; exact Heap.lt_size q
    have hlt : i < its.toArray.size := by simpa using (List.getElem?_eq_some_iff.mp hu).1
    refine wpAny_pyNext_enum_itemD (Draws.tuple (prog := X.prog) (w := X.w) (A := X.A.in1) (I.ok.hd hc) it a hat its.toArray) he ⟨hit, p⟩ hlt hne (by simp; exact ⟨hne, Ne.symm hae⟩) fun x' h' tk hpx ho hit' hT hsz hk => ?_
    have hx' : x' = u := by
      have : its[i]? = some x' := by simpa using hpx
      rw [hu] at this
      exact (Option.some.inj this).symm
    subst hx'
    refine ⟨_, rfl, wpAny_letOwnedTupleGo_enum (s := { s with heap := h', toks := tk + 1 }) ho fun h'' he' sb => ?_⟩
    have hT2 : h''.get? s.heap.objs.size = some { cls := .type "tuple", data := .seq #[.int i tk, x'] } := (sb.2 _ (Nat.ne_of_gt hel)).trans hT
    have new : ObjOk X.prog X.w (upd H s.heap.objs.size (.tup [.int (i : Nat), x])) h'' s.heap.objs.size (.tup [.int (i : Nat), x]) :=
      ⟨by show 2 ≤ sizeLine; decide, [.int i tk, x'], .cons ⟨_, rfl⟩ (.cons ru .nil), ⟨_, hT2, rfl, _, rfl⟩⟩
    have I1 : Inv X pins σ (upd H s.heap.objs.size (.tup [.int (i : Nat), x])) { s with heap := h'', toks := tk + 1 } :=
      I.turnedNew (ch := [e, it]) (fun b ob hb q => (sb.2 b (fun z => hb (by simp [z]))).trans (hk b ob (fun z => hb (by simp [z])) (fun z => hb (by simp [z])) q)) hf (Nat.le_refl _) new
    refine ⟨.ref s.heap.objs.size, _, I1, rfl, ⟨_, x, rfl, I.hok.fresh (Nat.le_refl _), rfl, fun ys hy => by rw [I.tuple_inj hy hq]; exact hx⟩, ⟨⟨x', ?_⟩, hit'.1.at fun o q => (sb.2 it (Ne.symm hne)).trans q, hne⟩, fun b hb => ?_⟩
    · have e1 : ((i + 1 : Nat) : Int) = (i : Int) + 1 := by omega
      rw [e1]; exact he'
    · have hb' : b < s.heap.objs.size := by
        have e' : b = e ∨ b = it := by simpa using hb
        rcases e' with z | z
        · rw [z]; exact hel
        · rw [z]; exact hil
      rw [upd_ne (Nat.ne_of_lt hb')]
      exact (hf b hb).1
  done := by
    intro X hP hw hK hc i pins s σ H E I hf st hg
    subst hP hw hK
    obtain ⟨⟨old, he⟩, hit, hne⟩ := st
    obtain ⟨xs, hq, hx⟩ := hg
    obtain ⟨its, rv, p, hz⟩ := I.tuple hq
    obtain ⟨f0, f1, f2, f3, f4, f5⟩ := hf it (by simp)
    have hl := rv.length
    exact Ve.enum_endT (I.ok.hd hc) he hit p (by simp; omega) fun h' eb => ⟨rfl, I.turned (t' := s.toks) (fun b o hb q => eb b o hb q) f0 f1 f3 f4 f5⟩
  self := fun A i s Q E st h => let ⟨⟨_, he⟩, _⟩ := st; wpAny_pyIter_enum he h
def iEnumT (K : PySem.W.Frag) (ta : TA) : TI := fun σ H R => ta σ H fun vs H1 => ∃ a xs, vs = [.ref a] ∧ SqT K H1 a xs ∧ R (IteT K a) H1
open PyProof.Rows in
theorem pi_enumT {X : Cx} {e : Expr} {ta : TA} {p pos tpos : Pos} {elts : List Expr} {kk : Nat} (hg : Gl X "enumerate") (hm : X.mg "enumerate" = none) (ha : PA X [e] ta) (hs : starEach [e] X.env = [(false, eval e X.env)] := by rfl) :
    PI X (.Tuple elts kk tpos) (.Call (.Name "enumerate" p) [e] [] pos) (iEnumT X.K ta) := by
  refine ⟨fun pins s σ H R I h => ?_⟩
  refine PyProof.Rows.Call_ (ld_blt I hg hm boot_enumerate (PyProof.Rows.callWith_type1 (thn (ha.run pos pins s σ H _ I h) fun us s1 ⟨vs, H1, I1, r1, q1⟩ => ?_) hs rfl))
  obtain ⟨a, xs, ex, hq, q⟩ := q1
  subst ex
  cases r1 with
  | cons r rr =>
    cases rr
    cases r
    obtain ⟨its, rv, p', hz⟩ := I1.tuple hq
    have hal : a < s1.heap.objs.size := by obtain ⟨_, q, _⟩ := p'; exact Heap.lt_size q
    refine Ve.call_enumerate_tuple p' fun h' he hit hsz hk => wpAny_pyIter_enum he ?_
    have I2 : Inv X pins σ H1 { s1 with heap := h' } := I1.kept (t' := s1.toks) hk
    refine ⟨s1.heap.objs.size + 1, [s1.heap.objs.size + 1, s1.heap.objs.size], _, _, H1, rfl, I2, turn_enumT a (s1.heap.objs.size + 1) s1.heap.objs.size (Nat.ne_of_lt hal) (Nat.ne_of_lt (Nat.lt_succ_of_lt hal)), ⟨⟨.none, he⟩, hit, Nat.succ_ne_self _⟩, fun b hb => ?_, q⟩
    have e' : b = s1.heap.objs.size + 1 ∨ b = s1.heap.objs.size := by simpa using hb
    have hle : s1.heap.objs.size ≤ b := by
      rcases e' with z | z
      · rw [z]; exact Nat.le_add_right _ _
      · rw [z]; exact Nat.le_refl _
    exact I1.fpOk hle (I1.hok.fresh hle)
def enumD (xs : List D) : List D := xs.zipIdx.map fun p => D.tup [.int (p.2 : Nat), p.1]
theorem enumD_length (xs : List D) : (enumD xs).length = xs.length := by simp [enumD]
theorem enumD_at {xs : List D} {i : Nat} {x : D} (h : xs[i]? = some x) : (enumD xs)[i]? = some (.tup [.int (i : Nat), x]) := by
  simp [enumD, h]
def mEnum (f : AE) : AI := fun ls hp => match f ls hp with
  | some (d, hp1) => match tupOf d with
    | some ds => some (enumD ds, [], hp1)
    | none => match d with
      | .ref n => match hp1[n]? with
        | some (.lst xs) => some (enumD xs, [(n, xs)], hp1)
        | _ => none
      | _ => none
  | none => none
section
variable {X : Cx} {e : Expr} {fa : AE} {elts : List Expr} {kk : Nat} {pos tpos : Pos}
theorem di_enum {p : Pos} (hg : Gl X "enumerate") (hm : X.mg "enumerate" = none) (ha : DE X e fa)
    (hs0 : starEach [e] X.env = (false, eval e X.env) :: starEach [] X.env := by rfl) (hs : starEach [e] X.env = [(false, eval e X.env)] := by rfl) :
    DI X (.Tuple elts kk tpos) (.Call (.Name "enumerate" p) [e] [] pos) (mEnum fa) :=
  PI.imp (PI.or (pi_enum hg hm (pa_cons ha pa_nil hs0) hs) (pi_enumT hg hm (pa_cons ha pa_nil hs0) hs)) fun σ H R ⟨ls, hp, μ, items, gd, hp', rl, rh, e, q⟩ => by
    unfold mEnum at e
    split at e
    · rename_i d hp1 e1
      split at e
      · rename_i ds e2
        cases e
        refine .inr ⟨ls, hp, μ, d, hp', rl, rh, e1, fun v H1 μ1 x1 rh1 r1 => ?_⟩
        obtain ⟨a, vs, rfl, ta, ra⟩ := tupOf_some e2 r1
        have qa : ∀ {H3 : Hp} {μ3 : List Addr}, Ext μ1 H1 μ3 H3 → SqT X.K H3 a vs := fun x3 => ta.elim (fun t => (t.ext x3).sq) fun t => (t.mon x3.m).sq
        refine ⟨a, vs, rfl, qa Ext.refl, q _ H1 μ1 x1 rh1 ?_⟩
        intro i H2 μ2 hp2 x2 rh2 _
        have h2 := qa x2
        have hlen := ra.len
        rw [enumD_length]
        refine ⟨fun hi => ⟨vs, h2, by omega⟩, fun hi => ?_⟩
        obtain ⟨v, ev, rv⟩ := ra.get (List.getElem?_eq_getElem hi)
        refine ⟨⟨vs, v, h2, ev⟩, fun x H3 hy => ?_⟩
        obtain ⟨T, x0, rfl, hT, rfl, hx⟩ := hy
        have := hx vs h2
        rw [ev] at this
        cases this
        have x4 := Ext.laid rh2 (o := .tup [.int (i : Nat), v]) hT
        exact ⟨_, enumD_at (List.getElem?_eq_getElem hi), x4, rh2.laid hT, Rp.tup upd_same (Rps.mk Rp.int (Rps.mk ((rv.ext x2).ext x4) Rps.nil))⟩
      · split at e
        · rename_i n
          split at e
          · rename_i xs e3
            cases e
            refine .inl ⟨ls, hp, μ, _, hp', rl, rh, e1, fun v H1 μ1 x1 rh1 r1 => ?_⟩
            obtain ⟨a, ea, rfl⟩ := r1.refE
            obtain ⟨vs, ev, ra⟩ := rh1.lst ea e3
            refine ⟨a, vs, rfl, .inl (.inl ev), q _ H1 μ1 x1 rh1 ?_⟩
            intro i H2 μ2 hp2 x2 rh2 hgd
            obtain ⟨vs, ev, ra⟩ := rh2.lst (x2.m.at_ ea) (gdOk_one hgd)
            have h2 : SqL X.K H2 a vs := .inl (.inl ev)
            have hlen := ra.len
            rw [enumD_length]
            refine ⟨fun hi => ⟨vs, h2, by omega⟩, fun hi => ?_⟩
            obtain ⟨v, ev', rv⟩ := ra.get (List.getElem?_eq_getElem hi)
            refine ⟨⟨vs, v, h2, ev'⟩, fun x H3 hy => ?_⟩
            obtain ⟨T, x0, rfl, hT, rfl, hx⟩ := hy
            have := hx vs h2
            rw [ev'] at this
            cases this
            have x4 := Ext.laid rh2 (o := .tup [.int (i : Nat), v]) hT
            exact ⟨_, enumD_at (List.getElem?_eq_getElem hi), x4, rh2.laid hT, Rp.tup upd_same (Rps.mk Rp.int (Rps.mk (rv.ext x4) Rps.nil))⟩
          · cases e
        · cases e
    · cases e
end
end Ve
namespace Ve
open PySem PySem.Spec L2
mutual
def plainD : D → Bool
  | .non => true
  | .bl _ => true
  | .int _ => true
  | .str _ => true
  | .tup ds => plainDs ds
  | _ => false
def plainDs : List D → Bool
  | [] => true
  | d :: ds => plainD d && plainDs ds
end
mutual
def decD : PyData → Option D
  | .none => some .non
  | .bool b => some (.bl b)
  | .int i => some (.int i)
  | .str x => some (.str x)
  | .tuple xs => (decDs xs).map .tup
  | _ => none
def decDs : List PyData → Option (List D)
  | [] => some []
  | x :: xs => match decD x, decDs xs with
    | some d, some ds => some (d :: ds)
    | _, _ => none
end
theorem dec_mapO {hp : Hd} {n : Nat} (ih : ∀ d p, plainD d = true → pyF hp n d = some p → decD p = some d) : ∀ (ds : List D) (ps : List PyData), plainDs ds = true → mapO (pyF hp n) ds = some ps → decDs ps = some ds
  | [], ps, _, e => by
    rw [mapO] at e
    cases e
    rw [decDs]
  | d :: ds, ps, h, e => by
    rw [plainDs, Bool.and_eq_true] at h
    rw [mapO] at e
    split at e
    · rename_i y ys e1 e2
      cases e
      rw [decDs, ih d y h.1 e1, dec_mapO ih ds ys h.2 e2]
    · cases e
theorem dec_enc {hp : Hd} : ∀ (n : Nat) (d : D) (p : PyData), plainD d = true → pyF hp n d = some p → decD p = some d
  | 0, _, _, _, e => by simp [pyF] at e
  | n + 1, d, p, h, e => by
    cases d <;> simp only [pyF] at e <;> try (simp [plainD] at h; done)
    · cases e; rw [decD]
    · cases e; rw [decD]
    · cases e; rw [decD]
    · cases e; rw [decD]
    · rename_i ds
      rw [plainD] at h
      cases e1 : mapO (pyF hp n) ds with
      | none => rw [e1] at e; cases e
      | some ps =>
        rw [e1] at e
        cases e
        rw [decD, dec_mapO (fun d p => dec_enc n d p) ds ps h e1]
        rfl
def alikeB (ps : List PyData) : Bool := (ps.all fun x => ps.all fun y => PySem.W.alike x y) && ps.all notNon
theorem alikeB_all {ps : List PyData} (h : alikeB ps = true) : PySem.W.AlikeAll ps := by
  unfold alikeB at h
  rw [Bool.and_eq_true, List.all_eq_true, List.all_eq_true] at h
  exact ⟨fun x hx y hy => List.all_eq_true.mp (h.1 x hx) y hy, fun x hx => notNon_ne (h.2 x hx)⟩
def bestD (mx : Bool) (ds : List D) (hp : Hd) : Option D := match mapO (pyF hp 15) ds with
  | some (p :: ps) => if (plainDs ds && (alikeB (p :: ps) && decide (PyData.depthAll (p :: ps) ≤ 40))) = true then decD (if mx = true then PySem.W.maxD p ps else PySem.W.minD p ps) else none
  | _ => none
theorem bestD_some {mx : Bool} {ds : List D} {hp : Hd} {d : D} (h : bestD mx ds hp = some d) : ∃ p ps, mapO (pyF hp 15) ds = some (p :: ps) ∧ plainDs ds = true ∧ PySem.W.AlikeAll (p :: ps) ∧ PyData.depthAll (p :: ps) ≤ 40 ∧ decD (if mx = true then PySem.W.maxD p ps else PySem.W.minD p ps) = some d := by
  unfold bestD at h
  split at h
  · rename_i p ps e
    split at h
    · rename_i hc
      rw [Bool.and_eq_true, Bool.and_eq_true] at hc
      exact ⟨p, ps, e, hc.1, alikeB_all hc.2.1, of_decide_eq_true hc.2.2, h⟩
    · cases h
  · cases h
theorem plainDs_at : ∀ {ds : List D} {i : Nat} {d : D}, plainDs ds = true → ds[i]? = some d → plainD d = true
  | [], _, _, _, e => by simp at e
  | x :: xs, 0, d, h, e => by
    rw [plainDs, Bool.and_eq_true] at h
    simp at e
    rw [← e]
    exact h.1
  | x :: xs, i + 1, d, h, e => by
    rw [plainDs, Bool.and_eq_true] at h
    exact plainDs_at h.2 (by simpa using e)
theorem mapO_at {α β : Type} {f : α → Option β} : ∀ {xs : List α} {ys : List β} {i : Nat} {x : α}, mapO f xs = some ys → xs[i]? = some x → ∃ y, f x = some y
  | [], _, _, _, _, e => by simp at e
  | a :: xs, ys, i, x, h, e => by
    rw [mapO] at h
    split at h
    · rename_i y ys' e1 e2
      cases i with
      | zero =>
        simp at e
        exact ⟨y, by rw [← e]; exact e1⟩
      | succ i => exact mapO_at e2 (by simpa using e)
    · cases h
section
variable {X : Cx} {pins : List (Addr × Obj)} {σ : L2.St} {H : Hp} {s : Shared} {μ : List Addr} {hp : Hd}
theorem best_item (I : Inv X pins σ H s) (rh : RelH X.K H μ hp) {ds : List D} {vs : List V} {us : List Value} {qs : List PyData} (rs : Rps X.K H μ ds vs) (rv : Vals vs us) (em : mapO (pyF hp 15) ds = some qs) (pl : plainDs ds = true) {i : Nat} {v : Value} (hv : us[i]? = some v) {h' : Heap} {p : PyData} {bs : List Addr} (hr : Reads h' v p bs)
    (hk : ∀ b o, s.heap.get? b = some o → h'.get? b = some o) {d : D} (hd : decD p = some d) : ∃ x, RelV x v ∧ Rp X.K H μ d x := by
  have hi := (List.getElem?_eq_some_iff.mp hv).1
  have hlen := rv.length
  have hl2 := rs.len
  have ed : ds[i]? = some ds[i] := List.getElem?_eq_getElem (by omega)
  obtain ⟨x, ex, rx⟩ := rs.get ed
  obtain ⟨u, eu, ru⟩ := rv.get ex
  rw [hv] at eu
  cases eu
  obtain ⟨q, eq⟩ := mapO_at em ed
  obtain ⟨as, ra⟩ := Dp.reads I q _ _ (pyF_dp rh 15 _ q _ eq rx) ru
  have := (Reads.unique (PyProof.Rows.Reads.keeps hk ra) _ _ hr).1
  subst this
  rw [dec_enc 15 _ _ (plainDs_at pl ed) eq] at hd
  cases hd
  exact ⟨x, ru, rx⟩
theorem best_list (hc : X.calm = true) (hu : X.A.units + 64 < cLine) (mx : Bool) (I : Inv X pins σ H s) (rh : RelH X.K H μ hp) {ds : List D} {vs : List V} {a : Addr} (hq : SqL X.K H a vs) (rs : Rps X.K H μ ds vs) {d : D} (e : bestD mx ds hp = some d) {Q : VK} (q : ∀ v, Rp X.K H μ d v → Q v H) :
    wpAny (model X.prog X.w) X.A (call (.builtin (if mx = true then "max" else "min")) [.ref a]) (EP X pins σ Q) X.xe s := by
  obtain ⟨p, ps, em, pl, ha, hdp, hd⟩ := bestD_some e
  obtain ⟨its, rv, ht, hz⟩ := I.list hq
  obtain ⟨as, ra⟩ := Dp.readsAll I (p :: ps) vs its (dpAll_of rh ds (p :: ps) vs em rs) rv
  cases mx with
  | true =>
    refine PySem.W.max_list_data (I.ok.hd hc) ht.isList (by simpa using ra) ha (by omega) fun i v h' tk bs hv hr hk => ?_
    obtain ⟨x, rx, rd⟩ := best_item I rh rs rv em pl (by simpa using hv) hr hk hd
    exact ⟨x, H, I.kept hk, rx, q x rd⟩
  | false =>
    refine PySem.W.min_list_data (I.ok.hd hc) ht.isList (by simpa using ra) ha (by omega) fun i v h' tk bs hv hr hk => ?_
    obtain ⟨x, rx, rd⟩ := best_item I rh rs rv em pl (by simpa using hv) hr hk hd
    exact ⟨x, H, I.kept hk, rx, q x rd⟩
end
def gBestL (mx : Bool) (ds : List D) (hp : Hd) : Option (D × Hd) := match bestD mx ds hp with
  | some d => some (d, hp)
  | none => none
theorem gBestL_some {mx : Bool} {ds : List D} {hp hp' : Hd} {d : D} (h : gBestL mx ds hp = some (d, hp')) : bestD mx ds hp = some d ∧ hp' = hp := by
  unfold gBestL at h
  split at h
  · rename_i e
    cases h
    exact ⟨e, rfl⟩
  · cases h
section
variable {X : Cx}
theorem n_best (mx : Bool) (hc : X.calm = true) (hu : X.A.units + 64 < cLine) : CallR X (.builtin (if mx = true then "max" else "min")) (RN X.K (gBestL mx)) := fun pins s σ H xs us Q I r ⟨hp, μ, ds, vs, p, d, hp', rh, ex, hn, hl, rs, e, q⟩ => by
  obtain ⟨e, rfl⟩ := gBestL_some e
  subst ex
  rw [Vals.ref1 r]
  exact best_list hc hu mx I rh (.inl (.inl hl)) rs e fun v rv => q v H μ Ext.refl rh rv
end
end Ve
namespace Ve
open PySem PySem.Spec L2
def idxP (d : PyData) (ds : List PyData) : Option Nat := ds.findIdx? fun z => PyData.eqv z d
theorem idxP_some {d : PyData} {ds : List PyData} {j : Nat} (h : idxP d ds = some j) : ∃ z, ds[j]? = some z ∧ PyData.eqv z d = true ∧ ∀ (m : Nat) (z' : PyData), m < j → ds[m]? = some z' → PyData.eqv z' d = false := by
  unfold idxP at h
  obtain ⟨hj, h1, h2⟩ := List.findIdx?_eq_some_iff_getElem.mp h
  refine ⟨ds[j], List.getElem?_eq_getElem hj, h1, fun m z' hm hz => ?_⟩
  have := h2 m hm
  obtain ⟨hm', e⟩ := List.getElem?_eq_some_iff.mp hz
  rw [← e]
  simpa using this
def idxD (hp : Hd) (x : D) (ys : List D) : Option Nat := match pyF hp 16 x, mapO (pyF hp 15) ys with
  | some d, some ds => if (SeqAt.shaped d && SeqAt.shaped (.list ds)) = true then idxP d ds else none
  | _, _ => none
theorem idxD_some {hp : Hd} {x : D} {ys : List D} {j : Nat} (h : idxD hp x ys = some j) : ∃ d ds, pyF hp 16 x = some d ∧ mapO (pyF hp 15) ys = some ds ∧ SeqAt.shaped d = true ∧ SeqAt.shaped (.list ds) = true ∧ idxP d ds = some j := by
  unfold idxD at h
  split at h
  · rename_i d ds e1 e2
    split at h
    · rename_i hs
      rw [Bool.and_eq_true] at hs
      exact ⟨d, ds, e1, e2, hs.1, hs.2, h⟩
    · cases h
  · cases h
def gTIdx (x : D) (ds : List D) (hp : Hd) : Option (D × Hd) := match tupOf x, ds with
  | some ys, [d] => (idxD hp d ys).map fun j => (.int (j : Nat), hp)
  | _, _ => none
def gLIdx (x : D) (ds : List D) (hp : Hd) : Option (D × Hd) := match x, ds with
  | .ref n, [d] => match hp[n]? with
    | some (.lst ys) => (idxD hp d ys).map fun j => (.int (j : Nat), hp)
    | _ => none
  | _, _ => none
section
variable {X : Cx} {e : Expr} {es : List Expr} {fr : AA}
theorem Rps.one1 {K : PySem.W.Frag} {H : Hp} {μ : List Addr} {d : D} {xs : List V} (h : Rps K H μ [d] xs) : ∃ v, xs = [v] ∧ Rp K H μ d v := by
  rw [Rps] at h
  obtain ⟨v, w, e, r1, r2⟩ := h
  rw [Rps] at r2
  subst r2
  exact ⟨v, e, r1⟩
theorem t_lindex (hu : X.A.units + 65 < cLine) : MtR X "list.index" (RM X.K gLIdx) := fun pins s σ H x xs v us Q I rx rxs ⟨hp, μ, dx, ds, d, hp', rh, r1, rs, e, q⟩ => by
  unfold gLIdx at e
  split at e
  · rename_i n y
    split at e
    · rename_i ys e1
      rw [Option.map_eq_some_iff] at e
      obtain ⟨j, e2, e3⟩ := e
      cases e3
      obtain ⟨a, ea, rfl⟩ := r1.refE
      obtain ⟨w, rfl, rw⟩ := rs.one1
      obtain ⟨p, ps, h1, h2, s1, s2, h3⟩ := idxD_some e2
      obtain ⟨vs, ev, rv⟩ := rh.lst ea e1
      obtain ⟨z, hz, hzj, hno⟩ := idxP_some h3
      exact mt_indexD hu pins s σ H _ _ v us Q I rx rxs ⟨a, w, p, ps, j, z, rfl, rfl, .lst (.inl (.inl ev)) (dpAll_of rh _ _ _ h2 rv), pyF_dp rh _ _ _ _ h1 rw, s2, s1, hz, hzj, hno, q _ H μ Ext.refl rh Rp.int⟩
    · cases e
  · cases e
theorem t_tindex (hu : X.A.units + 65 < cLine) : MtR X "tuple.index" (RM X.K gTIdx) := fun pins s σ H x xs v us Q I rx rxs ⟨hp, μ, dx, ds, d, hp', rh, r1, rs, e, q⟩ => by
  unfold gTIdx at e
  split at e
  · rename_i ys y e1
    rw [Option.map_eq_some_iff] at e
    obtain ⟨j, e2, e3⟩ := e
    cases e3
    obtain ⟨w, rfl, rw⟩ := rs.one1
    obtain ⟨p, ps, h1, h2, s1, s2, h3⟩ := idxD_some e2
    obtain ⟨a, vs, rfl, ta, ra⟩ := tupOf_some e1 r1
    have qa : SqT X.K H a vs := ta.elim (fun t => t.sq) fun t => t.sq
    obtain ⟨z, hz, hzj, hno⟩ := idxP_some h3
    have dps := dpAll_of rh _ _ _ h2 ra
    have dpy := pyF_dp rh _ _ _ _ h1 rw
    cases rx
    cases rxs with
    | cons ry rt =>
      rename_i uy ut
      cases rt
      obtain ⟨bs, q1⟩ := Dp.reads I p w uy dpy ry
      have hxs : PyData.canLayAll0 ps = true := SeqAt.canLay_of_shaped s2
      have hroom : X.A.units + 1 + min (PyData.depthAll ps) p.depth < cLine := PyProof.Rows.room_in_shaped s1 hu
      obtain ⟨its, rv, pl, hlen⟩ := I.tuple qa
      obtain ⟨⟨cls, dd, dt, sl⟩, ho, hc, n, hd⟩ := pl
      simp only at hc hd
      subst hc
      subst hd
      obtain ⟨as, h4⟩ := Dp.readsAll I ps _ its dps rv
      have hn : its.length = ps.length := SeqAt.ReadsAll.length ps its as h4
      have hmap : its.map (SeqAt.readOf s.heap) = ps := SeqAt.readsAll_map ps its as hxs h4
      obtain ⟨hjd, _⟩ := List.getElem?_eq_some_iff.mp hz
      have hjl : j < its.length := by omega
      have hj : j < its.toArray.size := by simpa using hjl
      have at_ : ∀ (m : Nat) (hm : m < its.toArray.size) (z' : PyData), ps[m]? = some z' → SeqAt.readOf s.heap its.toArray[m] = z' := by
        intro m hm z' hz'
        have hml : m < its.length := by simpa using hm
        rw [← hmap, List.getElem?_map, List.getElem?_eq_getElem hml] at hz'
        have e1 : SeqAt.readOf s.heap its[m] = z' := Option.some.inj (show some (SeqAt.readOf s.heap its[m]) = some z' from hz')
        simpa using e1
      refine call_meets PySem.F.slot_tuple_index ⟨_, ho, rfl⟩ PySem.F.entry_tuple_index (PySem.F.args_tuple_index_2 _ _)
        (TI.tuple_indexAt a its.toArray n dd sl uy (fun u => PyData.eqv (SeqAt.readOf s.heap u) p) j hj ?_ ?_) ⟨ho, SeqAt.items_eqAt (vs := its.toArray) (show ReadsAll s.heap its.toArray.toList ps as from h4) q1 hxs (SeqAt.canLay_of_shaped s1) hroom, ?_⟩
      · show PyData.eqv (SeqAt.readOf s.heap its.toArray[j]) p = true
        rw [at_ j hj z hz]
        exact hzj
      · intro m hm hmj
        have hmd : m < ps.length := by omega
        have hz' : ps[m]? = some ps[m] := List.getElem?_eq_getElem hmd
        show PyData.eqv (SeqAt.readOf s.heap its.toArray[m]) p = false
        rw [at_ m hm _ hz']
        exact hno m _ hmj hz'
      · exact ⟨.int (j : Nat), H, I.tok _, ⟨_, rfl⟩, q _ H μ Ext.refl rh Rp.int⟩
  · cases e
end
end Ve
namespace Ve
open PySem PySem.Spec L2
end Ve
namespace Ve
open PySem PySem.Spec L2
def reprOk (p : PyData) : Bool := (p.showable && !p.hasDict) && (decide (p.depth ≤ 40) && decide (p.shown.length ≤ sizeLine))
end Ve
namespace Ve
open PySem PySem.Spec L2 PyProof.Rows
def tChain3 (r r' r'' : R2) (ta tb tc td : TE) : TE := fun σ H Q => ta σ H fun x H1 => tb σ H1 fun y H2 => r x y H2 fun z H3 => ∃ k, z = .bl k ∧
  (if k = true then tc σ H3 fun w H4 => r' y w H4 fun z' H5 => ∃ k', z' = .bl k' ∧ (if k' = true then td σ H5 fun w' H6 => r'' w w' H6 Q else Q (.bl false) H5) else Q (.bl false) H3)
section
variable {X : Cx} {a b c d : Expr} {ta tb tc td : TE} {pos : Pos} {fa fb fc fd : AE}
def mChain3 (fa fb fc fd : AE) (g g' g'' : D → D → Hd → Option (D × Hd)) : AE := fun ls hp => match fa ls hp with
  | some (x, hp1) => match fb ls hp1 with
    | some (y, hp2) => match g x y hp2 with
      | some (.bl true, hp3) => match fc ls hp3 with
        | some (z, hp4) => match g' y z hp4 with
          | some (.bl true, hp5) => match fd ls hp5 with
            | some (w, hp6) => g'' z w hp6
            | none => none
          | some (.bl false, hp5) => some (.bl false, hp5)
          | _ => none
        | none => none
      | some (.bl false, hp3) => some (.bl false, hp3)
      | _ => none
    | none => none
  | none => none
theorem tChain3_of {K : PySem.W.Frag} {g g' g'' : D → D → Hd → Option (D × Hd)} {σ : L2.St} {H : Hp} {Q : VK} (h : tD K (mChain3 fa fb fc fd g g' g'') σ H Q) : tChain3 (RD K g) (RD K g') (RD K g'') (tD K fa) (tD K fb) (tD K fc) (tD K fd) σ H Q := by
  obtain ⟨ls, hp, μ, d, hp', rl, rh, e, q⟩ := h
  unfold mChain3 at e
  split at e
  · rename_i x hp1 e1
    split at e
    · rename_i y hp2 e2
      split at e
      · rename_i hp3 e3
        split at e
        · rename_i z hp4 e4
          split at e
          · rename_i hp5 e5
            split at e
            · rename_i w hp6 e6
              exact ⟨ls, hp, μ, x, hp1, rl, rh, e1, fun v1 H1 μ1 x1 rh1 r1 => ⟨ls, hp1, μ1, y, hp2, rl.ext x1, rh1, e2, fun v2 H2 μ2 x2 rh2 r2 => ⟨hp2, μ2, x, y, _, hp3, rh2, r1.ext x2, r2, e3, fun v3 H3 μ3 x3 rh3 r3 =>
                ⟨true, r3.blE, iteT ⟨ls, hp3, μ3, z, hp4, ((rl.ext x1).ext x2).ext x3, rh3, e4, fun v4 H4 μ4 x4 rh4 r4 => ⟨hp4, μ4, y, z, _, hp5, rh4, (r2.ext x3).ext x4, r4, e5, fun v5 H5 μ5 x5 rh5 r5 =>
                  ⟨true, r5.blE, iteT ⟨ls, hp5, μ5, w, hp6, ((((rl.ext x1).ext x2).ext x3).ext x4).ext x5, rh5, e6, fun v6 H6 μ6 x6 rh6 r6 => ⟨hp6, μ6, z, w, d, hp', rh6, (r4.ext x5).ext x6, r6, e, fun v H7 μ7 x7 rh7 r7 =>
                    q v H7 μ7 ((((((x1.trans x2).trans x3).trans x4).trans x5).trans x6).trans x7) rh7 r7⟩⟩⟩⟩⟩⟩⟩⟩⟩
            · cases e
          · rename_i hp5 e5
            cases e
            exact ⟨ls, hp, μ, x, hp1, rl, rh, e1, fun v1 H1 μ1 x1 rh1 r1 => ⟨ls, hp1, μ1, y, hp2, rl.ext x1, rh1, e2, fun v2 H2 μ2 x2 rh2 r2 => ⟨hp2, μ2, x, y, _, hp3, rh2, r1.ext x2, r2, e3, fun v3 H3 μ3 x3 rh3 r3 =>
              ⟨true, r3.blE, iteT ⟨ls, hp3, μ3, z, hp4, ((rl.ext x1).ext x2).ext x3, rh3, e4, fun v4 H4 μ4 x4 rh4 r4 => ⟨hp4, μ4, y, z, _, hp', rh4, (r2.ext x3).ext x4, r4, e5, fun v5 H5 μ5 x5 rh5 r5 =>
                ⟨false, r5.blE, iteF (q _ H5 μ5 ((((x1.trans x2).trans x3).trans x4).trans x5) rh5 Rp.bl)⟩⟩⟩⟩⟩⟩⟩
          · cases e
        · cases e
      · rename_i hp3 e3
        cases e
        exact ⟨ls, hp, μ, x, hp1, rl, rh, e1, fun v1 H1 μ1 x1 rh1 r1 => ⟨ls, hp1, μ1, y, hp2, rl.ext x1, rh1, e2, fun v2 H2 μ2 x2 rh2 r2 => ⟨hp2, μ2, x, y, _, hp', rh2, r1.ext x2, r2, e3, fun v3 H3 μ3 x3 rh3 r3 =>
            ⟨false, r3.blE, iteF (q _ H3 μ3 ((x1.trans x2).trans x3) rh3 Rp.bl)⟩⟩⟩⟩
      · cases e
    · cases e
  · cases e
theorem pt_chain3 {op op' op'' : CmpOp} {r r' r'' : R2} (ho : OpR X (compareOp op) r) (ho' : OpR X (compareOp op') r') (ho'' : OpR X (compareOp op'') r'') (ha : PE X a ta) (hb : PE X b tb) (hc : PE X c tc) (hd : PE X d td)
    (hm : lastMarks [op, op', op''] [b, c, d] = false := by with_unfolding_all rfl) : PT X (.Compare a [op, op', op''] [b, c, d] pos) (tTest (tChain3 r r' r'' ta tb tc td)) := by
  refine ⟨fun pins s σ H Q I h => ?_⟩
  refine isTrue_chain (thn (ha.run pins s σ H _ I h) fun v s1 ⟨x, H1, I1, r1, q1⟩ => test_link (thn (hb.run pins s1 σ H1 _ I1 q1) fun u s2 ⟨y, H2, I2, r2, q2⟩ =>
    thn (ho pins s2 σ H2 x y v u _ I2 r1 r2 q2) fun d0 s3 ⟨z, H3, I3, r3, k, e, q3⟩ => ?_)) hm
  subst e
  cases r3
  refine wpAny_truthy_bool ?_
  cases k with
  | false =>
    obtain ⟨k', e', q'⟩ := q3
    cases e'
    exact ite_ff ⟨H3, I3, q'⟩
  | true =>
    refine ite_tt (test_link (thn (hc.run pins s3 σ H3 _ I3 q3) fun w s4 ⟨z4, H4, I4, r4, q4⟩ => thn (ho' pins s4 σ H4 y z4 u w _ I4 r2 r4 q4) fun d1 s5 ⟨z5, H5, I5, r5, k', e', q5⟩ => ?_))
    subst e'
    cases r5
    refine wpAny_truthy_bool ?_
    cases k' with
    | false =>
      obtain ⟨k2, e2, q'⟩ := q5
      cases e2
      exact ite_ff ⟨H5, I5, q'⟩
    | true =>
      refine ite_tt (test_last (thn (hd.run pins s5 σ H5 _ I5 q5) fun w' s6 ⟨z6, H6, I6, r6, q6⟩ => thn (ho'' pins s6 σ H6 z4 z6 w w' _ I6 r4 r6 q6) fun d' s7 ⟨z7, H7, I7, r7, k2, e2, q7⟩ => ?_))
      subst e2
      cases r7
      exact wpAny_truthy_bool ⟨H7, I7, q7⟩
theorem dt_chain3 {op op' op'' : CmpOp} {g g' g'' : D → D → Hd → Option (D × Hd)} (ho : OpR X (compareOp op) (RD X.K g)) (ho' : OpR X (compareOp op') (RD X.K g')) (ho'' : OpR X (compareOp op'') (RD X.K g'')) (ha : DE X a fa) (hb : DE X b fb) (hc : DE X c fc) (hd : DE X d fd)
    (hm : lastMarks [op, op', op''] [b, c, d] = false := by with_unfolding_all rfl) : DT X (.Compare a [op, op', op''] [b, c, d] pos) (mT (mChain3 fa fb fc fd g g' g'')) :=
  PT.imp (pt_chain3 ho ho' ho'' ha hb hc hd hm) fun _ _ _ h => tTest_of (fun _ _ _ h => tChain3_of h) h
end
end Ve
namespace Ve
open PySem PySem.Spec L2
section
variable {ls : Ls} {hp : Hd} {fa fb fc : AE} {ft fu : AT} {fr fl fm : AA} {f g : AS}
theorem mIfE_s2 : mIfE ft fa fb ls hp = (match ft ls hp with
  | some (b, hp1) => if b = true then fa ls hp1 else fb ls hp1
  | none => none) := by
  unfold mIfE
  split
  · rename_i e; rw [e]; rfl
  · rename_i e; rw [e]; rfl
  · rename_i e; rw [e]
theorem mAnd_s2 : mAnd ft fu ls hp = (match ft ls hp with
  | some (b, hp1) => if b = true then fu ls hp1 else some (false, hp1)
  | none => none) := by
  unfold mAnd
  split
  · rename_i e; rw [e]; rfl
  · rename_i h
    cases e : ft ls hp with
    | none => rfl
    | some p =>
      obtain ⟨b, hp1⟩ := p
      cases b with
      | true => exact absurd e (h _)
      | false => rfl
theorem mOr_s2 : mOr ft fu ls hp = (match ft ls hp with
  | some (b, hp1) => if b = true then some (true, hp1) else fu ls hp1
  | none => none) := by
  unfold mOr
  split
  · rename_i e; rw [e]; rfl
  · rename_i h
    cases e : ft ls hp with
    | none => rfl
    | some p =>
      obtain ⟨b, hp1⟩ := p
      cases b with
      | false => exact absurd e (h _)
      | true => rfl
theorem mNot_s : mNot ft ls hp = (match ft ls hp with
  | some (b, hp1) => some (!b, hp1)
  | none => none) := rfl
theorem mAndV_s2 : mAndV fa fb ls hp = (match fa ls hp with
  | some (.bl b, hp1) => if b = true then fb ls hp1 else some (.bl false, hp1)
  | _ => none) := by
  unfold mAndV
  cases e : fa ls hp with
  | none => rfl
  | some p =>
    obtain ⟨d, hp1⟩ := p
    cases d <;> try rfl
    rename_i b
    cases b <;> rfl
theorem mChain3_s {fd : AE} {g g' g'' : D → D → Hd → Option (D × Hd)} : mChain3 fa fb fc fd g g' g'' ls hp = (match fa ls hp with
  | some (x, hp1) => match fb ls hp1 with
    | some (y, hp2) => match g x y hp2 with
      | some (.bl true, hp3) => match fc ls hp3 with
        | some (z, hp4) => match g' y z hp4 with
          | some (.bl true, hp5) => match fd ls hp5 with
            | some (w, hp6) => g'' z w hp6
            | none => none
          | some (.bl false, hp5) => some (.bl false, hp5)
          | _ => none
        | none => none
      | some (.bl false, hp3) => some (.bl false, hp3)
      | _ => none
    | none => none
  | none => none) := rfl
theorem mMet_s {ck : D → Hd → Bool} {g : D → List D → Hd → Option (D × Hd)} : mMet ck fa fr g ls hp = (match fa ls hp with
  | some (x, hp1) => if ck x hp1 = true then (match fr ls hp1 with
    | some (ds, hp2) => g x ds hp2
    | none => none) else none
  | none => none) := rfl
theorem mIsi_s {T : String} : mIsi T fa ls hp = (match fa ls hp with
  | some (x, hp1) => gIsi T [x] hp1
  | none => none) := rfl
theorem lstOf_ref {n : Nat} {xs : List D} (h : hp[n]? = some (.lst xs)) : lstOf (.ref n) hp = some xs := by
  unfold lstOf
  dsimp only
  rw [h]
theorem mRep_s : mRep fl fb ls hp = (match fl ls hp with
  | some (xs, hp1) => match fb ls hp1 with
    | some (.int k, hp2) => if 0 ≤ k ∧ k < 2 ^ 40 ∧ xs.length * k.toNat ≤ sizeLine then some ((List.replicate k.toNat xs).flatten, hp2) else none
    | _ => none
  | none => none) := rfl
theorem tYesD_s : tYesD ls hp = some (true, hp) := rfl
theorem mSorted_s : mSorted fa ls hp = (match fa ls hp with
  | some (d, hp1) => gSrtO d hp1
  | none => none) := rfl
theorem mSortedL_s : mSortedL fl ls hp = (match fl ls hp with
  | some (ds, hp1) => gSrt ds hp1
  | none => none) := rfl
theorem sAsgM_s {t : TgM} : sAsgM t fa ls hp = (match fa ls hp with
  | some (d, hp1) => match t d ls hp1 with
    | some (ls1, hp2) => some (.nx, ls1, hp2)
    | none => none
  | none => none) := rfl
theorem tNm_s {i : Nat} {d : D} : tNm i d ls hp = some (ls.set i (some d), hp) := rfl
theorem tSub_s {d : D} : tSub fa fb d ls hp = (match fa ls hp with
  | some (x, hp1) => match fb ls hp1 with
    | some (y, hp2) => match gSet x y d hp2 with
      | some hp3 => some (ls, hp3)
      | none => none
    | none => none
  | none => none) := rfl
theorem tTp_s {ts : List TgM} {ds : List D} : tTp ts (.tup ds) ls hp = tTps ts ds ls hp := rfl
theorem tTps_nil : tTps [] [] ls hp = some (ls, hp) := rfl
theorem tTps_cons {t : TgM} {ts : List TgM} {d : D} {ds : List D} : tTps (t :: ts) (d :: ds) ls hp = (match t d ls hp with
  | some (ls1, hp1) => tTps ts ds ls1 hp1
  | none => none) := rfl
theorem mEnum_ref {n : Nat} {xs : List D} {hp1 : Hd} (e : fa ls hp = some (.ref n, hp1)) (h : hp1[n]? = some (.lst xs)) : mEnum fa ls hp = some (enumD xs, [(n, xs)], hp1) := by
  unfold mEnum
  rw [e]
  dsimp only
  rw [show tupOf (.ref n) = none from rfl]
  dsimp only
  rw [h]
theorem mIL_s : mIL fl ls hp = (match fl ls hp with
  | some (ds, hp1) => some (ds, [], hp1)
  | none => none) := rfl
theorem asg_nm {i : Nat} {d : D} : Tg.asg (.nm i) d ls = some (ls.set i (some d)) := by rw [Tg.asg]
theorem asg_tp {ts : List Tg} {ds : List D} : Tg.asg (.tp ts) (.tup ds) ls = Tg.asgs ts ds ls := by rw [Tg.asg]
theorem sForI_s {fi : AI} {t : Tg} {b : AS} : sForI fi t b ls hp = (match fi ls hp with
  | some (items, gd, hp1) => sFor t gd b items ls hp1
  | none => none) := rfl
theorem mR1_of {j : Int} {hp1 : Hd} (e : fr ls hp = some ([.int j], hp1)) (h : -(2 ^ 62) ≤ j ∧ j < 2 ^ 62) : mR1 fr ls hp = some ((List.range j.toNat).map fun i => D.int (i : Nat), [], hp1) := by
  unfold mR1
  rw [e]
  dsimp only
  rw [if_pos h]
theorem mR1_nat {j : Nat} {hp1 : Hd} (e : fr ls hp = some ([.int (j : Nat)], hp1)) (h : j < 2 ^ 62) : mR1 fr ls hp = some ((List.range j).map fun i => D.int (i : Nat), [], hp1) := by
  rw [mR1_of e (by omega)]
  rfl
end
theorem sFor_pre {α : Type} {t : Tg} {b : AS} {gd : Gd} (φ : α → D) (Inv : List α → Ls → Hd → Prop) (hg : ∀ d ls hp, Inv d ls hp → gdOk gd hp = true) : ∀ (items done : List α) (ls : Ls) (hp : Hd), Inv done ls hp →
    (∀ (d : List α) (x : α) (r : List α) ls hp, done ++ items = d ++ x :: r → Inv d ls hp → ∃ ls1 ls2 hp2, t.asg (φ x) ls = some ls1 ∧ (b ls1 hp = some (.nx, ls2, hp2) ∨ b ls1 hp = some (.ct, ls2, hp2)) ∧ Inv (d ++ [x]) ls2 hp2) →
    ∃ ls' hp', sFor t gd b (items.map φ) ls hp = some (.nx, ls', hp') ∧ Inv (done ++ items) ls' hp'
  | [], done, ls, hp, h, _ => ⟨ls, hp, by simp only [List.map_nil, sFor, hg _ _ _ h, if_true], by simpa using h⟩
  | x :: xs, done, ls, hp, h, step => by
    obtain ⟨ls1, ls2, hp2, e1, e2, h2⟩ := step done x xs ls hp rfl h
    obtain ⟨ls', hp', e3, h3⟩ := sFor_pre φ Inv hg xs (done ++ [x]) ls2 hp2 h2 fun d y r ls hp e hi => step d y r ls hp (by rw [← e, List.append_assoc]; rfl) hi
    refine ⟨ls', hp', ?_, by rw [List.append_assoc] at h3; exact h3⟩
    rcases e2 with e2 | e2 <;> simp only [List.map_cons, sFor, hg _ _ _ h, if_true, e1, e2, e3]
theorem sForI_pre {α : Type} {fi : AI} {t : Tg} {b : AS} {gd : Gd} {items : List α} {ls : Ls} {hp hp1 : Hd} (φ : α → D) (Inv : List α → Ls → Hd → Prop) (ei : fi ls hp = some (items.map φ, gd, hp1)) (hg : ∀ d ls hp, Inv d ls hp → gdOk gd hp = true) (h0 : Inv [] ls hp1)
    (step : ∀ (d : List α) (x : α) (r : List α) ls hp, items = d ++ x :: r → Inv d ls hp → ∃ ls1 ls2 hp2, t.asg (φ x) ls = some ls1 ∧ (b ls1 hp = some (.nx, ls2, hp2) ∨ b ls1 hp = some (.ct, ls2, hp2)) ∧ Inv (d ++ [x]) ls2 hp2) :
    ∃ ls' hp', sForI fi t b ls hp = some (.nx, ls', hp') ∧ Inv items ls' hp' := by
  obtain ⟨ls', hp', e, h⟩ := sFor_pre φ Inv hg items [] ls hp1 h0 fun d x r ls hp e hi => step d x r ls hp (by simpa using e) hi
  refine ⟨ls', hp', ?_, by simpa using h⟩
  rw [sForI_s, ei]
  exact e
theorem sWhile_rel {S : Type} {c : AT} {b : AS} (Rel : S → Ls → Hd → Prop) (Done : S → Prop) (μ : S → Nat)
    (h : ∀ s ls hp, Rel s ls hp → (c ls hp = some (false, hp) ∧ Done s) ∨ (c ls hp = some (true, hp) ∧ ∃ s' ls2 hp2, (b ls hp = some (.nx, ls2, hp2) ∨ b ls hp = some (.ct, ls2, hp2)) ∧ Rel s' ls2 hp2 ∧ μ s' < μ s)) :
    ∀ (n : Nat) (s : S) (ls : Ls) (hp : Hd), μ s < n → Rel s ls hp → ∃ s' ls' hp', sWhile c b n ls hp = some (.nx, ls', hp') ∧ Rel s' ls' hp' ∧ Done s'
  | 0, s, ls, hp, hn, _ => by omega
  | n + 1, s, ls, hp, hn, hr => by
    rcases h s ls hp hr with ⟨e, d⟩ | ⟨e, s', ls2, hp2, e2, hr2, hm⟩
    · exact ⟨s, ls, hp, by rw [sWhile, e], hr, d⟩
    · obtain ⟨s3, ls3, hp3, e3, hr3, d⟩ := sWhile_rel Rel Done μ h n s' ls2 hp2 (by omega) hr2
      refine ⟨s3, ls3, hp3, ?_, hr3, d⟩
      rcases e2 with e2 | e2 <;> rw [sWhile, e] <;> dsimp only <;> rw [e2] <;> exact e3
theorem mLc_pre {α : Type} {fi : AI} {t : Tg} {own : List Nat} {te : AE} {gd : Gd} {items : List α} {ls : Ls} {hp hp1 : Hd} (φ : α → D) (Inv : List α → List D → Hd → Prop) (ei : fi ls hp = some (items.map φ, gd, hp1)) (hl : items.length ≤ sizeLine) (hg : ∀ d o hp, Inv d o hp → gdOk gd hp = true) (h0 : Inv [] [] hp1)
    (step : ∀ (d : List α) (x : α) (r : List α) (o : List D) hp, items = d ++ x :: r → Inv d o hp → ∃ ls1 y hp2, t.asg (φ x) (wipeL ls own) = some ls1 ∧ te ls1 hp = some (y, hp2) ∧ Inv (d ++ [x]) (o ++ [y]) hp2) :
    ∃ out hp', mLc fi t own tYesD te ls hp = some (out, hp') ∧ Inv items out hp' := by
  have key : ∀ (its done : List α) (o : List D) (hp : Hd), items = done ++ its → Inv done o hp → ∃ out hp', lcGo t gd tYesD te (wipeL ls own) (its.map φ) hp = some (out, hp') ∧ Inv items (o ++ out) hp' := by
    intro its
    induction its with
    | nil =>
      intro done o hp e h
      refine ⟨[], hp, by simp only [List.map_nil, lcGo, hg _ _ _ h, if_true], ?_⟩
      rw [e, List.append_nil, List.append_nil]
      exact h
    | cons x xs ih =>
      intro done o hp e h
      obtain ⟨ls1, y, hp2, e1, e2, h2⟩ := step done x xs o hp e h
      obtain ⟨out, hp', e3, h3⟩ := ih (done ++ [x]) (o ++ [y]) hp2 (by rw [e, List.append_assoc]; rfl) h2
      refine ⟨y :: out, hp', ?_, by rw [List.append_assoc] at h3; exact h3⟩
      simp only [List.map_cons, lcGo, hg _ _ _ h, if_true, e1, tYesD_s, e2, e3]
  obtain ⟨out, hp', e, h⟩ := key items [] [] hp1 rfl h0
  refine ⟨out, hp', ?_, h⟩
  unfold mLc
  rw [ei]
  dsimp only
  rw [if_pos (by rw [List.length_map]; exact hl)]
  exact e
structure EqE {α : Type} (n : Nat) (e : α → D) where
  py : α → PyData
  f : ∀ hp m a, pyF hp (m + n) (e a) = some (py a)
  lay : ∀ a, PyData.canLay0 (py a) = true
  dep : ∀ a, (py a).depth < n
  pos : 0 < n
  eqv : ∀ a b : α, PyData.eqv (py a) (py b) = true ↔ a = b
namespace EqE
variable {α : Type} {n : Nat} {e : α → D}
def int : EqE 1 D.int := ⟨PyData.int, fun _ _ _ => rfl, fun _ => rfl, fun _ => Nat.zero_lt_one, Nat.zero_lt_one, fun a b => by
  show (a == b) = true ↔ a = b
  exact beq_iff_eq⟩
theorem mapO_e (E : EqE n e) {hp : Hd} {m : Nat} : ∀ xs : List α, mapO (pyF hp (m + n)) (xs.map e) = some (xs.map E.py)
  | [] => rfl
  | x :: r => by rw [List.map_cons, mapO, E.f, mapO_e E r]; rfl
theorem canAll (E : EqE n e) : ∀ xs : List α, PyData.canLayAll0 (xs.map E.py) = true
  | [] => rfl
  | x :: r => by rw [List.map_cons, PyData.canLayAll0, E.lay, canAll E r]; rfl
theorem depAll (E : EqE n e) : ∀ xs : List α, PyData.depthAll (xs.map E.py) ≤ n - 1
  | [] => Nat.zero_le _
  | x :: r => by
    have := E.dep x
    have := depAll E r
    rw [List.map_cons, PyData.depthAll]
    omega
theorem eqvAll (E : EqE n e) : ∀ xs ys : List α, PyData.eqvAll (xs.map E.py) (ys.map E.py) = true ↔ xs = ys
  | [], [] => by simp [PyData.eqvAll]
  | [], _ :: _ => by simp [PyData.eqvAll]
  | _ :: _, [] => by simp [PyData.eqvAll]
  | x :: r, y :: s => by
    rw [List.map_cons, List.map_cons, PyData.eqvAll, Bool.and_eq_true, E.eqv, eqvAll E r s]
    simp
def tup (E : EqE n e) : EqE (n + 1) (fun xs : List α => D.tup (xs.map e)) := ⟨fun xs => .tuple (xs.map E.py),
  fun hp m xs => by
    show (mapO (pyF hp (m + n)) (xs.map e)).map PyData.tuple = _
    rw [mapO_e]
    rfl,
  fun xs => by rw [PyData.canLay0]; exact E.canAll xs,
  fun xs => by
    have := E.depAll xs
    rw [PyData.depth]
    have := E.pos
    omega,
  Nat.succ_pos _,
  fun xs ys => by rw [PyData.eqv]; exact E.eqvAll xs ys⟩
theorem shaped (E : EqE n e) (hn : n ≤ 16) (a : α) : SeqAt.shaped (E.py a) = true := by
  unfold SeqAt.shaped
  have := E.dep a
  rw [E.lay, Bool.true_and, decide_eq_true_eq]
  omega
theorem f16 (E : EqE n e) (hn : n ≤ 16) (hp : Hd) (a : α) : pyF hp 16 (e a) = some (E.py a) := by
  have := E.f hp (16 - n) a
  rwa [show 16 - n + n = 16 by omega] at this
theorem eq [DecidableEq α] (E : EqE n e) (hn : n ≤ 16) (hp : Hd) (a b : α) : eqH hp (e a) (e b) = some (decide (a = b)) := by
  unfold eqH
  rw [E.f16 hn, E.f16 hn]
  dsimp only
  rw [E.shaped hn, E.shaped hn]
  simp only [Bool.and_self, if_true, Option.some.injEq]
  rw [Bool.eq_iff_iff, E.eqv, decide_eq_true_eq]
theorem inL [DecidableEq α] (E : EqE n e) (hn : n ≤ 15) (hp : Hd) (a : α) (xs : List α) : inL hp (e a) (xs.map e) = some (decide (a ∈ xs)) := by
  unfold Ve.inL
  have h15 : mapO (pyF hp 15) (xs.map e) = some (xs.map E.py) := by
    have := E.mapO_e (hp := hp) (m := 15 - n) xs
    rwa [show 15 - n + n = 15 by omega] at this
  rw [E.f16 (by omega), h15]
  dsimp only
  have s1 : SeqAt.shaped (.list (xs.map E.py)) = true := by
    unfold SeqAt.shaped
    have := E.depAll xs
    rw [PyData.canLay0, E.canAll, Bool.true_and, decide_eq_true_eq, PyData.depth]
    omega
  rw [E.shaped (by omega), s1]
  simp only [Bool.and_self, if_true, Option.some.injEq, List.any_map]
  rw [Bool.eq_iff_iff, decide_eq_true_eq, List.any_eq_true]
  constructor
  · rintro ⟨x, hx, h⟩
    rw [← (E.eqv x a).mp h]
    exact hx
  · intro h
    exact ⟨a, h, (E.eqv a a).mpr rfl⟩
theorem gIn_lst [DecidableEq α] (E : EqE n e) (hn : n ≤ 15) {hp : Hd} {k : Nat} {xs : List α} (h : hp[k]? = some (.lst (xs.map e))) (a : α) : gIn (e a) (.ref k) hp = some (.bl (decide (a ∈ xs)), hp) := by
  have e1 : inB (e a) (.ref k) hp = some (decide (a ∈ xs)) := by
    rw [← E.inL hn hp a xs]
    unfold inB
    dsimp only
    rw [h]
  unfold gIn
  rw [e1]
end EqE
def eT : EqE 2 T := EqE.int.tup
def TT (bs : List (List Int)) : D := .tup (bs.map T)
theorem nr_TT (bs : List (List Int)) : nr (TT bs) = true := nrs_T bs
theorem nrs_of {ds : List D} (h : ∀ d ∈ ds, nr d = true) : nrs ds = true := by
  induction ds with
  | nil => rfl
  | cons d r ih => exact nrs_cons (h d List.mem_cons_self) (ih fun x hx => h x (List.mem_cons_of_mem _ hx))
theorem nrs_map {α : Type} {e : α → D} (h : ∀ a, nr (e a) = true) (xs : List α) : nrs (xs.map e) = true := nrs_of fun d hd => by
  obtain ⟨a, _, rfl⟩ := List.mem_map.mp hd
  exact h a
theorem ixN_i {n : Nat} {i : Int} (h : 0 ≤ i ∧ i < n) : ixN n i = some i.toNat := by
  unfold ixN
  rw [if_pos h.1, if_pos h.2]
theorem gIx_ref {hp : Hd} {n : Nat} {xs : List D} {i : Int} (h : hp[n]? = some (.lst xs)) : gIx (.ref n) (.int i) hp = (match atI xs i with
  | some d => some (d, hp)
  | none => none) := by
  unfold gIx
  dsimp only
  rw [h]
  try rfl
theorem gIx_tupI {hp : Hd} {xs : List D} {i : Int} : gIx (.tup xs) (.int i) hp = (match atI xs i with
  | some d => some (d, hp)
  | none => none) := rfl
theorem gIx_refN {hp : Hd} {n j : Nat} {xs : List D} {x : D} (h : hp[n]? = some (.lst xs)) (e : xs[j]? = some x) : gIx (.ref n) (.int (j : Nat)) hp = some (x, hp) := by
  rw [gIx_ref h, atI_nat e]
theorem gIx_tupN {hp : Hd} {j : Nat} {xs : List D} {x : D} (e : xs[j]? = some x) : gIx (.tup xs) (.int (j : Nat)) hp = some (x, hp) := by
  rw [gIx_tupI, atI_nat e]
theorem gSet_int {hp : Hd} {n : Nat} {xs : List D} {i : Int} {v : D} (h : hp[n]? = some (.lst xs)) (hi : 0 ≤ i ∧ i < xs.length) : gSet (.ref n) (.int i) v hp = some (hp.set n (.lst (xs.set i.toNat v))) := by
  unfold gSet
  dsimp only
  rw [h]
  dsimp only
  rw [ixN_i hi]
theorem gSet_nat {hp : Hd} {n j : Nat} {xs : List D} {v : D} (h : hp[n]? = some (.lst xs)) (hi : j < xs.length) : gSet (.ref n) (.int (j : Nat)) v hp = some (hp.set n (.lst (xs.set j v))) := by
  rw [gSet_int h (by omega)]
  rfl
theorem isL_of {hp : Hd} {n : Nat} {xs : List D} (h : hp[n]? = some (.lst xs)) : isL (.ref n) hp = true := by
  unfold isL
  dsimp only
  rw [h]
theorem onL_of {hp : Hd} {n : Nat} {xs ys : List D} {d : D} {g : List D → Option (D × List D)} (h : hp[n]? = some (.lst xs)) (e : g xs = some (d, ys)) : onL (.ref n) hp g = some (d, hp.set n (.lst ys)) := by
  unfold onL
  dsimp only
  rw [h]
  dsimp only
  rw [e]
theorem gAppend_of {hp : Hd} {n : Nat} {xs : List D} {d : D} (h : hp[n]? = some (.lst xs)) (hl : xs.length < 16777216) : gAppend (.ref n) [d] hp = some (.non, hp.set n (.lst (xs ++ [d]))) := by
  unfold gAppend
  dsimp only
  exact onL_of h (by rw [sizeLine_eq, if_pos hl])
theorem gPop_of {hp : Hd} {n : Nat} {xs : List D} {d : D} (h : hp[n]? = some (.lst (xs ++ [d]))) : gPop (.ref n) [] hp = some (d, hp.set n (.lst xs)) := by
  unfold gPop
  dsimp only
  refine onL_of h ?_
  rw [List.length_append, List.length_singleton, Nat.add_sub_cancel, List.getElem?_concat_length, List.dropLast_concat]
end Ve
namespace Ve
open PySem PySem.Spec L2
section
variable {α : Type} [DecidableEq α]
def psh (st : List α × List α) (b : α) : List α × List α := if b ∈ st.1 then st else (st.1 ++ [b], st.2 ++ [b])
structure Mt (P : α → Prop) (N : α → List α) (met wait : List α) : Prop where
  nd : met.Nodup
  pr : ∀ a ∈ met, P a
  wm : ∀ a ∈ wait, a ∈ met
  cl : ∀ a ∈ met, a ∉ wait → ∀ b ∈ N a, b ∈ met
structure Ex (P : α → Prop) (met0 wa : List α) (l : List α) (st : List α × List α) : Prop where
  nd : st.1.Nodup
  pr : ∀ a ∈ st.1, P a
  m0 : ∀ a ∈ met0, a ∈ st.1
  w0 : ∀ a ∈ wa, a ∈ st.2
  wm : ∀ a ∈ st.2, a ∈ st.1
  new : ∀ a ∈ st.1, a ∈ met0 ∨ a ∈ st.2
  cnt : st.2.length + met0.length = wa.length + st.1.length
  done : ∀ b ∈ l, b ∈ st.1
theorem Ex.fold {P : α → Prop} {met0 w0 : List α} : ∀ (l done : List α) (st : List α × List α), Ex P met0 w0 done st → (∀ b ∈ l, P b) → Ex P met0 w0 (done ++ l) (l.foldl psh st)
  | [], done, st, h, _ => by rw [List.append_nil]; exact h
  | b :: l, done, st, h, hp => by
    have hb := hp b List.mem_cons_self
    have h2 : Ex P met0 w0 (done ++ [b]) (psh st b) := by
      unfold psh
      by_cases hm : b ∈ st.1
      · rw [if_pos hm]
        exact ⟨h.nd, h.pr, h.m0, h.w0, h.wm, h.new, h.cnt, fun x hx => by
          rcases List.mem_append.mp hx with hx | hx
          · exact h.done x hx
          · rw [List.mem_singleton.mp hx]; exact hm⟩
      · rw [if_neg hm]
        refine ⟨List.nodup_append.mpr ⟨h.nd, by simp, fun x hx y hy e => ?_⟩, fun a ha => ?_, fun a ha => List.mem_append_left _ (h.m0 a ha), fun a ha => List.mem_append_left _ (h.w0 a ha), fun a ha => ?_, fun a ha => ?_, ?_, fun x hx => ?_⟩
        · rw [List.mem_singleton.mp hy] at e
          rw [e] at hx
          exact hm hx
        · rcases List.mem_append.mp ha with ha | ha
          · exact h.pr a ha
          · rw [List.mem_singleton.mp ha]; exact hb
        · rcases List.mem_append.mp ha with ha | ha
          · exact List.mem_append_left _ (h.wm a ha)
          · exact List.mem_append_right _ ha
        · rcases List.mem_append.mp ha with ha | ha
          · rcases h.new a ha with z | z
            · exact .inl z
            · exact .inr (List.mem_append_left _ z)
          · exact .inr (List.mem_append_right _ ha)
        · have := h.cnt
          simp only [List.length_append, List.length_singleton]
          omega
        · rcases List.mem_append.mp hx with hx | hx
          · exact List.mem_append_left _ (h.done x hx)
          · exact List.mem_append_right _ hx
    have := Ex.fold l (done ++ [b]) (psh st b) h2 fun x hx => hp x (List.mem_cons_of_mem _ hx)
    rw [List.append_assoc] at this
    exact this
theorem Mt.begin (P : α → Prop) (N : α → List α) (a : α) (h : P a) : Mt P N [a] [a] := ⟨by simp, fun x hx => by rw [List.mem_singleton.mp hx]; exact h, fun _ h => h, fun x hx hn => absurd hx hn⟩
theorem nodup_len {l m : List α} (nd : l.Nodup) (h : ∀ a ∈ l, a ∈ m) : l.length ≤ m.length := by
  induction l generalizing m with
  | nil => exact Nat.zero_le _
  | cons a l ih =>
    rw [List.nodup_cons] at nd
    have ha := h a List.mem_cons_self
    have := ih nd.2 (m := m.erase a) fun b hb => (List.mem_erase_of_ne (fun e => nd.1 (by rw [← e]; exact hb))).mpr (h b (List.mem_cons_of_mem _ hb))
    rw [List.length_erase_of_mem ha] at this
    have := List.length_pos_of_mem ha
    rw [List.length_cons]
    omega
theorem Mt.len {P : α → Prop} {N : α → List α} {met wait U : List α} (h : Mt P N met wait) (hU : ∀ a, P a → a ∈ U) : met.length ≤ U.length := nodup_len h.nd fun a ha => hU a (h.pr a ha)
theorem Mt.pop {P : α → Prop} {N : α → List α} {met w : List α} {here : α} (h : Mt P N met (w ++ [here])) (hN : ∀ a b, P a → b ∈ N a → P b) {U : List α} (hU : ∀ a, P a → a ∈ U) :
    Mt P N ((N here).foldl psh (met, w)).1 ((N here).foldl psh (met, w)).2 ∧ (∀ a ∈ met, a ∈ ((N here).foldl psh (met, w)).1) ∧
    (U.length - ((N here).foldl psh (met, w)).1.length) + ((N here).foldl psh (met, w)).2.length < (U.length - met.length) + (w ++ [here]).length := by
  have hh : here ∈ met := h.wm here (by simp)
  have e0 : Ex P met w [] (met, w) := ⟨h.nd, h.pr, fun _ h => h, fun _ h => h, fun a ha => h.wm a (List.mem_append_left _ ha), fun a ha => .inl ha, rfl, fun _ h => by cases h⟩
  have e := e0.fold (N here) [] (met, w) fun b hb => hN here b (h.pr here hh) hb
  rw [List.nil_append] at e
  generalize (N here).foldl psh (met, w) = st at e
  have l1 : st.1.length ≤ U.length := nodup_len e.nd fun a ha => hU a (e.pr a ha)
  have l0 : met.length ≤ st.1.length := nodup_len h.nd e.m0
  refine ⟨⟨e.nd, e.pr, e.wm, fun a ha hw b hb => ?_⟩, e.m0, ?_⟩
  · rcases e.new a ha with z | z
    · by_cases q : a = here
      · subst q
        exact e.done b hb
      · exact e.m0 _ (h.cl a z (fun y => by
          rcases List.mem_append.mp y with y | y
          · exact hw (e.w0 a y)
          · exact q (by simpa using y)) b hb)
    · exact absurd z hw
  · have := e.cnt
    rw [List.length_append, List.length_singleton]
    omega
theorem psh_filter (p : α → Bool) (l : List α) (st : List α × List α) : l.foldl (fun st b => if p b = true ∧ b ∉ st.1 then (st.1 ++ [b], st.2 ++ [b]) else st) st = (l.filter p).foldl psh st := by
  rw [List.foldl_filter]
  congr 1
  funext st b
  unfold psh
  by_cases h1 : p b = true <;> by_cases h2 : b ∈ st.1 <;> simp [h1, h2]
theorem sForI_psh {β : Type} {fi : AI} {t : Tg} {b : AS} {gd : Gd} {ls : Ls} {hp hp1 : Hd} (items : List β) (φ : β → D) (nx : β → α) (p : α → Bool) (Rel : List α × List α → Ls → Hd → Prop) (ei : fi ls hp = some (items.map φ, gd, hp1)) (hg : ∀ s ls hp, Rel s ls hp → gdOk gd hp = true) (st0 : List α × List α) (h0 : Rel st0 ls hp1)
    (hs : ∀ x ∈ items, ∀ st ls hp, Rel st ls hp → (∀ a ∈ st0.1, a ∈ st.1) → st.1.length ≤ st0.1.length + items.length → st.2.length ≤ st0.2.length + items.length → ∃ ls1 ls2 hp2, t.asg (φ x) ls = some ls1 ∧ (b ls1 hp = some (.nx, ls2, hp2) ∨ b ls1 hp = some (.ct, ls2, hp2)) ∧
      Rel (if p (nx x) = true ∧ nx x ∉ st.1 then (st.1 ++ [nx x], st.2 ++ [nx x]) else st) ls2 hp2) :
    ∃ ls' hp', sForI fi t b ls hp = some (.nx, ls', hp') ∧ Rel (((items.map nx).filter p).foldl psh st0) ls' hp' := by
  let f := fun (st : List α × List α) (x : β) => if p (nx x) = true ∧ nx x ∉ st.1 then (st.1 ++ [nx x], st.2 ++ [nx x]) else st
  obtain ⟨ls', hp', e, h, _⟩ := sForI_pre (t := t) (b := b) φ (fun d ls hp => Rel (d.foldl f st0) ls hp ∧ (∀ a ∈ st0.1, a ∈ (d.foldl f st0).1) ∧ (d.foldl f st0).1.length ≤ st0.1.length + d.length ∧ (d.foldl f st0).2.length ≤ st0.2.length + d.length) ei (fun d ls hp h => hg _ _ _ h.1) ⟨h0, fun _ h => h, Nat.le_add_right _ _, Nat.le_add_right _ _⟩ fun d x r ls hp ed ⟨h1, h2, h3, h4⟩ => by
    have hl : d.length + 1 ≤ items.length := by rw [ed, List.length_append, List.length_cons]; omega
    obtain ⟨ls1, ls2, hp2, a, b, c⟩ := hs x (by rw [ed]; simp) _ ls hp h1 h2 (by omega) (by omega)
    refine ⟨ls1, ls2, hp2, a, b, ?_⟩
    rw [List.foldl_append, List.foldl_cons, List.foldl_nil, List.length_append, List.length_singleton]
    generalize d.foldl f st0 = st at *
    refine ⟨c, ?_⟩
    show (∀ a ∈ st0.1, a ∈ (if p (nx x) = true ∧ nx x ∉ st.1 then (st.1 ++ [nx x], st.2 ++ [nx x]) else st).1) ∧ (if p (nx x) = true ∧ nx x ∉ st.1 then (st.1 ++ [nx x], st.2 ++ [nx x]) else st).1.length ≤ _ ∧ (if p (nx x) = true ∧ nx x ∉ st.1 then (st.1 ++ [nx x], st.2 ++ [nx x]) else st).2.length ≤ _
    split
    · refine ⟨fun a ha => List.mem_append_left _ (h2 a ha), ?_, ?_⟩ <;> simp only [List.length_append, List.length_singleton] <;> omega
    · exact ⟨h2, by omega, by omega⟩
  refine ⟨ls', hp', e, ?_⟩
  have : items.foldl f st0 = ((items.map nx).filter p).foldl psh st0 := by
    rw [← psh_filter, List.foldl_map]
  rw [← this]
  exact h
theorem search_while {P : α → Prop} {N : α → List α} (U : List α) (hU : ∀ a, P a → a ∈ U) (hN : ∀ a b, P a → b ∈ N a → P b) {c : AT} {b : AS} (Rel : List α → List α → Ls → Hd → Prop)
    (hc0 : ∀ met ls hp, Rel met [] ls hp → c ls hp = some (false, hp)) (hc1 : ∀ met w here ls hp, Rel met (w ++ [here]) ls hp → c ls hp = some (true, hp))
    (hb : ∀ met w here ls hp, Rel met (w ++ [here]) ls hp → here ∈ met → P here → met.length ≤ U.length → w.length ≤ U.length → (∀ a ∈ met, P a) → ∃ ls2 hp2, b ls hp = some (.nx, ls2, hp2) ∧ Rel ((N here).foldl psh (met, w)).1 ((N here).foldl psh (met, w)).2 ls2 hp2)
    (n : Nat) (a : α) (ha : P a) (ls : Ls) (hp : Hd) (h0 : Rel [a] [a] ls hp) (hn : U.length + 1 < n) : ∃ met ls' hp', sWhile c b n ls hp = some (.nx, ls', hp') ∧ Rel met [] ls' hp' ∧ Mt P N met [] ∧ a ∈ met := by
  have loop := sWhile_rel (S := List α × List α) (c := c) (b := b) (fun st ls hp => Rel st.1 st.2 ls hp ∧ Mt P N st.1 st.2 ∧ a ∈ st.1 ∧ (U.length - st.1.length) + st.2.length ≤ U.length + 1) (fun st => st.2 = []) (fun st => (U.length - st.1.length) + st.2.length) (by
    rintro ⟨met, wait⟩ ls hp ⟨hr, hm, h0, hw⟩
    have hml := hm.len hU
    rcases List.eq_nil_or_concat wait with rfl | ⟨w, here, rfl⟩
    · exact .inl ⟨hc0 met ls hp hr, rfl⟩
    · rw [List.concat_eq_append] at *
      have hh : here ∈ met := hm.wm here (by simp)
      dsimp only at hw hr hm hml
      rw [List.length_append, List.length_singleton] at hw
      obtain ⟨p1, p2, p3⟩ := hm.pop hN hU
      obtain ⟨ls2, hp2, e, hr2⟩ := hb met w here ls hp hr hh (hm.pr here hh) hml (by omega) hm.pr
      refine .inr ⟨hc1 met w here ls hp hr, ((N here).foldl psh (met, w)), ls2, hp2, .inl e, ⟨hr2, p1, p2 a h0, ?_⟩, p3⟩
      rw [List.length_append, List.length_singleton] at p3
      omega) n ([a], [a]) ls hp (by simp only [List.length_singleton]; omega) ⟨h0, Mt.begin _ _ a ha, by simp, by simp only [List.length_singleton]; omega⟩
  obtain ⟨⟨met, wait⟩, ls', hp', e, ⟨hr, hm, h0, _⟩, hd⟩ := loop
  dsimp only at hd hr hm h0
  subst hd
  exact ⟨met, ls', hp', e, hr, hm, h0⟩
inductive Rch (N : α → List α) (a : α) : α → Prop where
  | refl : Rch N a a
  | step {b c : α} : Rch N a b → c ∈ N b → Rch N a c
theorem Rch.closed {N : α → List α} {a : α} {met : List α} (ha : a ∈ met) (cl : ∀ x ∈ met, ∀ b ∈ N x, b ∈ met) : ∀ {b}, Rch N a b → b ∈ met := by
  intro b h
  induction h with
  | refl => exact ha
  | step _ hc ih => exact cl _ ih _ hc
theorem Rch.trans {N : α → List α} {a b c : α} (h1 : Rch N a b) (h2 : Rch N b c) : Rch N a c := by
  induction h2 with
  | refl => exact h1
  | step _ hc ih => exact ih.step hc
theorem Rch.symm {N : α → List α} (hs : ∀ a b, b ∈ N a → a ∈ N b) {a b : α} (h : Rch N a b) : Rch N b a := by
  induction h with
  | refl => exact .refl
  | step _ hc ih => exact Rch.trans (.step .refl (hs _ _ hc)) ih
end
end Ve
namespace Ve
open PySem PySem.Spec L2
def nb (c : List Int) (d : Int) : List Int := match c with
  | [x, y, z] => if d = 0 then [x + 1, y, z] else if d = 1 then [x + -1, y, z] else if d = 2 then [x, y + 1, z] else if d = 3 then [x, y + -1, z] else if d = 4 then [x, y, z + 1] else [x, y, z + -1]
  | _ => c
def opp (d : Int) : Int := if d = 0 then 1 else if d = 1 then 0 else if d = 2 then 3 else if d = 3 then 2 else if d = 4 then 5 else 4
theorem six {d : Int} (h : 0 ≤ d ∧ d < 6) : d = 0 ∨ d = 1 ∨ d = 2 ∨ d = 3 ∨ d = 4 ∨ d = 5 := by omega
theorem opp_in {d : Int} (h : 0 ≤ d ∧ d < 6) : 0 ≤ opp d ∧ opp d < 6 := by
  rcases six h with rfl | rfl | rfl | rfl | rfl | rfl <;> decide
theorem nb_opp {x y z d : Int} (h : 0 ≤ d ∧ d < 6) : nb (nb [x, y, z] d) (opp d) = [x, y, z] := by
  rcases six h with rfl | rfl | rfl | rfl | rfl | rfl <;> simp [nb, opp] <;> omega
def Cb (B : Int) (c : List Int) : Prop := ∃ x y z : Int, c = [x, y, z] ∧ (-B ≤ x ∧ x ≤ B) ∧ (-B ≤ y ∧ y ≤ B) ∧ (-B ≤ z ∧ z ≤ B)
theorem Cb.mono {B B' : Int} {c : List Int} (h : Cb B c) (hb : B ≤ B') : Cb B' c := by
  obtain ⟨x, y, z, e, h1, h2, h3⟩ := h
  exact ⟨x, y, z, e, by omega, by omega, by omega⟩
theorem Cb.nb {B : Int} {c : List Int} {d : Int} (h : Cb B c) (hd : 0 ≤ d ∧ d < 6) : Cb (B + 1) (nb c d) := by
  obtain ⟨x, y, z, rfl, h1, h2, h3⟩ := h
  rcases six hd with rfl | rfl | rfl | rfl | rfl | rfl
  · exact ⟨x + 1, y, z, rfl, by omega, by omega, by omega⟩
  · exact ⟨x + -1, y, z, rfl, by omega, by omega, by omega⟩
  · exact ⟨x, y + 1, z, rfl, by omega, by omega, by omega⟩
  · exact ⟨x, y + -1, z, rfl, by omega, by omega, by omega⟩
  · exact ⟨x, y, z + 1, rfl, by omega, by omega, by omega⟩
  · exact ⟨x, y, z + -1, rfl, by omega, by omega, by omega⟩
theorem Cb.ne {B : Int} {c : List Int} (h : Cb B c) : c ≠ [] := by
  obtain ⟨x, y, z, rfl, _⟩ := h
  exact fun z => by cases z
def Conn (cs : List (List Int)) : Prop := ∀ S : List Int → Prop, (∃ c ∈ cs, S c) → (∀ a ∈ cs, ∀ d, (0 ≤ d ∧ d < 6) → S a → nb a d ∈ cs → S (nb a d)) → ∀ c ∈ cs, S c
theorem conn_add {cs : List (List Int)} {B : Int} (h : Conn cs) {a : List Int} (ha : a ∈ cs) (hB : Cb B a) {d : Int} (hd : 0 ≤ d ∧ d < 6) : Conn (cs ++ [nb a d]) := by
  intro S hs cl
  have cl' : ∀ a ∈ cs, ∀ d, (0 ≤ d ∧ d < 6) → S a → nb a d ∈ cs → S (nb a d) := fun a ha d hd sa hn => cl a (List.mem_append_left _ ha) d hd sa (List.mem_append_left _ hn)
  have all : ∃ c ∈ cs, S c := by
    obtain ⟨c, hc, sc⟩ := hs
    rcases List.mem_append.mp hc with hc | hc
    · exact ⟨c, hc, sc⟩
    · have e : c = nb a d := by simpa using hc
      subst e
      obtain ⟨x, y, z, rfl, _⟩ := hB
      have q := nb_opp (x := x) (y := y) (z := z) hd
      have := cl _ (List.mem_append_right _ hc) (opp d) (opp_in hd) sc (by rw [q]; exact List.mem_append_left _ ha)
      rw [q] at this
      exact ⟨_, ha, this⟩
  have all2 := h S all cl'
  intro c hc
  rcases List.mem_append.mp hc with hc | hc
  · exact all2 c hc
  · have e : c = nb a d := by simpa using hc
    subst e
    exact cl a (List.mem_append_left _ ha) d hd (all2 a ha) (List.mem_append_right _ hc)
structure BodyS (B : Int) (cs : List (List Int)) : Prop where
  nd : cs.Nodup
  cb : ∀ c ∈ cs, Cb B c
  conn : Conn cs
  ne : cs ≠ []
  few : cs.length ≤ 30
theorem BodyS.mono {B B' : Int} {cs : List (List Int)} (h : BodyS B cs) (hb : B ≤ B') : BodyS B' cs := ⟨h.nd, fun c hc => (h.cb c hc).mono hb, h.conn, h.ne, h.few⟩
theorem BodyS.add {B : Int} {cs : List (List Int)} (h : BodyS B cs) {a : List Int} (ha : a ∈ cs) {d : Int} (hd : 0 ≤ d ∧ d < 6) (hl : cs.length < 30) : BodyS (B + 1) (addC cs (nb a d)) := by
  unfold addC
  split
  · exact h.mono (by omega)
  · rename_i hn
    refine ⟨List.nodup_append.mpr ⟨h.nd, by simp, fun x hx y hy => ?_⟩, fun c hc => ?_, conn_add h.conn ha (h.cb a ha) hd, by simp, by rw [List.length_append]; simp; omega⟩
    · have : y = nb a d := by simpa using hy
      subst this
      intro e
      subst e
      exact hn hx
    · rcases List.mem_append.mp hc with hc | hc
      · exact (h.cb c hc).mono (by omega)
      · have : c = nb a d := by simpa using hc
        subst this
        exact (h.cb a ha).nb hd
theorem mVar_of {ls : Ls} {hp : Hd} {i : Nat} {d : D} (h : ls[i]? = some (some d)) : mVar i ls hp = some (d, hp) := by
  rw [mVar_s, h]
theorem mSorted_dic {fa : AE} {ls : Ls} {hp hp1 : Hd} {n : Nat} {cs : List (List Int)} (e : fa ls hp = some (.ref n, hp1)) (h : hp1[n]? = some (.dic (Cd cs))) (hn : ∀ c ∈ cs, c ≠ []) : mSorted fa ls hp = some ((sortC cs).map T, hp1) := by
  unfold mSorted
  rw [e]
  exact gSrtO_dic h hn
theorem gIx_lst0 {hp : Hd} {n : Nat} {xs : List D} {x : D} (h : hp[n]? = some (.lst xs)) (e : xs[0]? = some x) : gIx (.ref n) (.int 0) hp = some (x, hp) := by
  have : atI xs ((0 : Nat) : Int) = some x := atI_nat e
  show (match hp[n]? with
    | some (.lst ds) => match atI ds 0 with
      | some d => some (d, hp)
      | none => none
    | some o => match dicOf o with
      | some kvs => if dKind kvs (.int 0) = true then match look kvs (.int 0) with
        | some d => some (d, hp)
        | none => none else none
      | none => none
    | none => none) = _
  rw [h]
  dsimp only
  rw [show atI xs 0 = some x from this]
def mv (a b c : Int) (l : List Int) : List Int := match l with
  | [x, y, z] => [x + a, y + b, z + c]
  | l => l
theorem lt_of {a b : List Int} (h : a ≤ b) (hne : a ≠ b) : a < b := by
  rcases Decidable.em (a < b) with h2 | h2
  · exact h2
  · exact absurd (List.le_antisymm h (List.not_lt.mp h2)) hne
theorem nodup_of_lt {bs : List (List Int)} (h : bs.Pairwise (· < ·)) : bs.Nodup := h.imp fun {a b} h e => by
  subst e
  exact List.lt_irrefl a h
theorem gIx_tup {hp : Hd} {ds : List D} {d : D} {j : Nat} (e : ds[j]? = some d) : gIx (.tup ds) (.int (j : Nat)) hp = some (d, hp) := by
  have : atI ds (j : Int) = some d := atI_nat e
  show (match atI ds (j : Int) with
    | some d => some (d, hp)
    | none => none) = _
  rw [this]
theorem zipD_T : ∀ as bs : List (List Int), zipD (as.map T) (bs.map T) = (as.zip bs).map fun p => D.tup [T p.1, T p.2]
  | [], _ => by simp [zipD]
  | _ :: _, [] => by simp [zipD]
  | a :: as, b :: bs => by
    rw [List.map_cons, List.map_cons, zipD, zipD_T as bs, List.zip_cons_cons, List.map_cons]
theorem cutD_one {l : List (List Int)} (h : l ≠ []) : cutD (l.map T) (some 1) none = (l.drop 1).map T := by
  unfold cutD
  have hp : 0 < l.length := List.length_pos_iff.mpr h
  have e : HT.sIx (l.map T).length 0 (some 1) = 1 := by
    have := HT.sIx_nat (l.map T).length 0 1
    rw [List.length_map] at this ⊢
    rw [show ((1 : Nat) : Int) = 1 from rfl] at this
    rw [this]
    omega
  rw [e, HT.sIx_none, ← List.map_drop, List.take_of_length_le (by rw [List.length_map, List.length_drop, List.length_map]; omega)]
theorem sDrop_of {fa : AE} {ls : Ls} {hp hp1 : Hd} {d : D} (e : fa ls hp = some (d, hp1)) : sDrop fa ls hp = some (.nx, ls, hp1) := by
  rw [sDrop_s, e]
def mnC (bs : List (List Int)) (i : Nat) : Int := match bs.map fun l => l.getD i 0 with
  | a :: r => minI a r
  | [] => 0
theorem mnC_is {bs : List (List Int)} (h : bs ≠ []) (i : Nat) : (∃ l ∈ bs, l.getD i 0 = mnC bs i) ∧ ∀ l ∈ bs, mnC bs i ≤ l.getD i 0 := by
  have key : mnC bs i ∈ bs.map (fun l => l.getD i 0) ∧ ∀ v ∈ bs.map (fun l => l.getD i 0), mnC bs i ≤ v := by
    unfold mnC
    cases e : bs.map fun l => l.getD i 0 with
    | nil => exact absurd (List.map_eq_nil_iff.mp e) h
    | cons a r =>
      obtain ⟨h1, h2, h3⟩ := minI_is r a
      refine ⟨?_, fun v hv => ?_⟩
      · rcases h1 with z | z
        · show minI a r ∈ a :: r
          rw [z]; exact List.mem_cons_self
        · exact List.mem_cons_of_mem _ z
      · rcases List.mem_cons.mp hv with z | z
        · rw [z]; exact h2
        · exact h3 v z
  obtain ⟨h1, h2⟩ := key
  obtain ⟨l, hl, e⟩ := List.mem_map.mp h1
  exact ⟨⟨l, hl, e⟩, fun l hl => h2 _ (List.mem_map.mpr ⟨l, hl, rfl⟩)⟩
theorem mnC_eq {bs : List (List Int)} {i : Nat} {m : Int} (h1 : ∃ l ∈ bs, l.getD i 0 = m) (h2 : ∀ l ∈ bs, m ≤ l.getD i 0) : mnC bs i = m := by
  obtain ⟨l, hl, e⟩ := h1
  obtain ⟨⟨l', hl', e'⟩, h4⟩ := mnC_is (List.ne_nil_of_mem hl) i
  have := h4 l hl
  have := h2 l' hl'
  omega
theorem gMinL_mn {hp : Hd} {bs : List (List Int)} (hne : bs ≠ []) (i : Nat) : gMinL (bs.map fun l => D.int (l.getD i 0)) hp = some (.int (mnC bs i), hp) := by
  unfold gMinL minD mnC
  have e : (bs.map fun l => D.int (l.getD i 0)) = (bs.map fun l => l.getD i 0).map D.int := by rw [List.map_map]; rfl
  rw [e, ints?_map]
  cases e2 : bs.map fun l => l.getD i 0 with
  | nil => exact absurd (List.map_eq_nil_iff.mp e2) hne
  | cons a r => rfl
end Ve
namespace Ve
open PySem PySem.Spec L2
theorem alike_I (a b : Int) : PySem.W.alike (.int a) (.int b) = true := by
  have := PySem.W.alike_ints [a] [b]
  simpa [PySem.W.alikeAll] using this
theorem plainDs_I : ∀ xs : List Int, plainDs (xs.map D.int) = true
  | [] => by rw [List.map_nil, plainDs]
  | x :: xs => by
    rw [List.map_cons, plainDs, plainDs_I xs, plainD]
    rfl
theorem alikeB_I (xs : List Int) : alikeB (xs.map PyData.int) = true := by
  unfold alikeB
  rw [Bool.and_eq_true]
  constructor
  · rw [List.all_map, List.all_eq_true]
    intro a _
    show ((xs.map PyData.int).all fun y => PySem.W.alike (.int a) y) = true
    rw [List.all_map, List.all_eq_true]
    intro b _
    exact alike_I a b
  · rw [List.all_map, List.all_eq_true]
    intro a _
    rfl
def bestI (mx : Bool) (a : Int) (xs : List Int) : Int := if mx = true then xs.foldl max a else xs.foldl min a
theorem gBestL_I {hp : Hd} (mx : Bool) (a : Int) (xs : List Int) : gBestL mx ((a :: xs).map D.int) hp = some (.int (bestI mx a xs), hp) := by
  have e : bestD mx ((a :: xs).map D.int) hp = some (.int (bestI mx a xs)) := by
    unfold bestD
    rw [mapO_int (n := 14)]
    show (if (plainDs ((a :: xs).map D.int) && (alikeB ((a :: xs).map PyData.int) && decide (PyData.depthAll ((a :: xs).map PyData.int) ≤ 40))) = true then decD (if mx = true then PySem.W.maxD (.int a) (xs.map PyData.int) else PySem.W.minD (.int a) (xs.map PyData.int)) else none) = _
    rw [plainDs_I, alikeB_I, depInts, if_pos (by rfl), PySem.W.maxD_ints, PySem.W.minD_ints]
    unfold bestI
    cases mx <;> simp [decD]
  unfold gBestL
  rw [e]
end Ve
namespace Ve
open PySem PySem.Spec L2
theorem gSet_add {hp : Hd} {n : Nat} {cs : List (List Int)} {a : List Int} (h : hp[n]? = some (.dic (Cd cs))) (hl : cs.length < sizeLine) : gSet (.ref n) (T a) (.bl true) hp = some (hp.set n (.dic (Cd (addC cs a)))) := by
  unfold gSet
  dsimp only
  rw [h]
  dsimp only
  have hl2 : (Cd cs).length = cs.length := by unfold Cd; rw [List.length_map]
  rw [if_pos (by rw [dKind_Cd, hl2, Bool.true_and]; exact decide_eq_true hl), putD_Cd]
theorem gIn_Tl {hp : Hd} {k : Nat} {xs : List (List Int)} (h : hp[k]? = some (.lst (xs.map T))) (a : List Int) : gIn (T a) (.ref k) hp = some (.bl (decide (a ∈ xs)), hp) := by
  rw [eT.gIn_lst (by decide) h a]
  congr
end Ve
namespace L2
open PySem PySem.Spec PyProof.Rows
end L2
namespace L2
open PySem PySem.Spec PyProof.Rows
end L2
namespace Ve
open PySem PySem.Spec L2 PyProof.Rows
def insS (k : Int) : List Int → List Int
  | [] => [k]
  | x :: r => if k < x then k :: x :: r else if k = x then x :: r else x :: insS k r
def srtS (ns : List Int) : List Int := ns.foldr insS []
theorem mem_insS {k j : Int} : ∀ {l : List Int}, j ∈ insS k l ↔ j = k ∨ j ∈ l
  | [] => by simp [insS]
  | x :: r => by
    unfold insS
    split
    · simp
    · split
      · rename_i h
        subst h
        simp
      · simp only [List.mem_cons, mem_insS (l := r)]
        constructor
        · rintro (h | h | h)
          · exact .inr (.inl h)
          · exact .inl h
          · exact .inr (.inr h)
        · rintro (h | h | h)
          · exact .inr (.inl h)
          · exact .inl h
          · exact .inr (.inr h)
theorem insS_lt {k : Int} : ∀ {l : List Int}, l.Pairwise (· < ·) → (insS k l).Pairwise (· < ·)
  | [], _ => List.pairwise_singleton _ _
  | x :: r, h => by
    obtain ⟨h1, h2⟩ := List.pairwise_cons.mp h
    unfold insS
    split
    · rename_i hk
      refine List.pairwise_cons.mpr ⟨fun y hy => ?_, h⟩
      rcases List.mem_cons.mp hy with z | z
      · rw [z]; exact hk
      · have := h1 y z
        omega
    · split
      · exact h
      · refine List.pairwise_cons.mpr ⟨fun y hy => ?_, insS_lt h2⟩
        rcases mem_insS.mp hy with z | z
        · omega
        · exact h1 y z
theorem mem_srtS {j : Int} : ∀ {l : List Int}, j ∈ srtS l ↔ j ∈ l
  | [] => by simp [srtS]
  | x :: r => by
    show j ∈ insS x (srtS r) ↔ _
    rw [mem_insS, mem_srtS (l := r), List.mem_cons]
theorem srtS_lt : ∀ {l : List Int}, (srtS l).Pairwise (· < ·)
  | [] => List.Pairwise.nil
  | x :: r => insS_lt (srtS_lt (l := r))
theorem lt_unique : ∀ {a b : List Int}, a.Pairwise (· < ·) → b.Pairwise (· < ·) → (∀ k, k ∈ a ↔ k ∈ b) → a = b
  | [], [], _, _, _ => rfl
  | [], y :: b, _, _, h => by have := (h y).mpr List.mem_cons_self; cases this
  | x :: a, [], _, _, h => by have := (h x).mp List.mem_cons_self; cases this
  | x :: a, y :: b, ha, hb, h => by
    obtain ⟨ha1, ha2⟩ := List.pairwise_cons.mp ha
    obtain ⟨hb1, hb2⟩ := List.pairwise_cons.mp hb
    have exy : x = y := by
      rcases List.mem_cons.mp ((h x).mp List.mem_cons_self) with z | z
      · exact z
      · rcases List.mem_cons.mp ((h y).mpr List.mem_cons_self) with z2 | z2
        · exact z2.symm
        · have q1 := hb1 x z
          have q2 := ha1 y z2
          omega
    subst exy
    refine congrArg (x :: ·) (lt_unique ha2 hb2 fun k => ?_)
    have := h k
    rw [List.mem_cons, List.mem_cons] at this
    constructor
    · intro hk
      rcases this.mp (.inr hk) with z | z
      · have := ha1 k hk; omega
      · exact z
    · intro hk
      rcases this.mpr (.inr hk) with z | z
      · have := hb1 k hk; omega
      · exact z
theorem lt_nodup {a : List Int} (h : a.Pairwise (· < ·)) : a.Nodup := h.imp fun h => by omega
theorem nodup_len_eq {a b : List Int} (ha : a.Nodup) (hb : b.Nodup) (h : ∀ k, k ∈ a ↔ k ∈ b) : a.length = b.length := by
  have le : ∀ {a b : List Int}, a.Nodup → (∀ k, k ∈ a → k ∈ b) → a.length ≤ b.length := by
    intro a
    induction a with
    | nil => intro b _ _; exact Nat.zero_le _
    | cons x r ih =>
      intro b hn hm
      obtain ⟨n1, n2⟩ := List.nodup_cons.mp hn
      have hx := hm x List.mem_cons_self
      have := ih (b := b.erase x) n2 fun k hk => (List.mem_erase_of_ne (fun z => n1 (by rw [← z]; exact hk))).mpr (hm k (List.mem_cons_of_mem _ hk))
      have h3 := List.length_erase_of_mem hx
      have h4 := List.length_pos_of_mem hx
      rw [List.length_cons]
      omega
  exact Nat.le_antisymm (le ha fun k => (h k).mp) (le hb fun k => (h k).mpr)
theorem Rps.intsE' {K : PySem.W.Frag} {H : Hp} {μ : List Addr} : ∀ {ns : List Int} {vs : List V}, Rps K H μ (ns.map D.int) vs → vs = ns.map V.int
  | [], vs, h => by
    rw [List.map_nil, Rps] at h
    exact h
  | n :: ns, vs, h => by
    rw [List.map_cons, Rps] at h
    obtain ⟨v, r, e, h1, h2⟩ := h
    rw [e, h1.intE, Rps.intsE' h2]
    rfl
end Ve
namespace Ve
open PySem PySem.Spec L2
end Ve
namespace Ve
open PySem PySem.Spec L2
theorem def_of {n : Nat} {b : AS} {ds : List D} {hp hp' : Hd} {ls' : Ls} {d : D} (e : b (stD n ds) hp = some (.rt d, ls', hp')) : mDef n b ds hp = some (d, hp') := by
  rw [mDef_s, e]
theorem ret_of {fa : AE} {ls : Ls} {hp hp' : Hd} {d : D} (e : fa ls hp = some (d, hp')) : sRet fa ls hp = some (.rt d, ls, hp') := by
  rw [sRet_s, e]
theorem asg_of {t : Tg} {fa : AE} {ls ls1 : Ls} {hp hp' : Hd} {d : D} (e : fa ls hp = some (d, hp')) (e2 : t.asg d ls = some ls1) : sAsg t fa ls hp = some (.nx, ls1, hp') := by
  rw [sAsg_s, e]
  dsimp only
  rw [e2]
theorem as_of {fr : AA} {g : List D → Hd → Option (D × Hd)} {ls : Ls} {hp hp1 : Hd} {ds : List D} {r : Option (D × Hd)} (e : fr ls hp = some (ds, hp1)) (e2 : g ds hp1 = r) : mAs fr g ls hp = r := by
  rw [mAs_s, e]
  exact e2
theorem call_of {k : Nat} {fr : AA} {g : List D → Hd → Option (D × Hd)} {ls : Ls} {hp hp1 : Hd} {ds : List D} {r : Option (D × Hd)} (e : fr ls hp = some (ds, hp1)) (h : ds.length = k) (e2 : g ds hp1 = r) : mAs fr (ar k g) ls hp = r := by
  rw [mAs_s, e]
  dsimp only
  rw [ar_s, if_pos h]
  exact e2
theorem cons_of {fa : AE} {fr : AA} {ls : Ls} {hp hp1 hp2 : Hd} {d : D} {ds : List D} (e : fa ls hp = some (d, hp1)) (e2 : fr ls hp1 = some (ds, hp2)) : mCons fa fr ls hp = some (d :: ds, hp2) := by
  rw [mCons_s, e]
  dsimp only
  rw [e2]
theorem tup_of {fr : AA} {ls : Ls} {hp hp1 : Hd} {ds : List D} (e : fr ls hp = some (ds, hp1)) (h : ds.length ≤ 1000) : mTup fr ls hp = some (.tup ds, hp1) := by
  rw [mTup_s, e]
  dsimp only
  rw [if_pos (by rw [sizeLine_eq]; omega)]
theorem m2_ev {fa fb : AE} {g : D → D → Hd → Option (D × Hd)} {ls : Ls} {hp hp1 hp2 : Hd} {a b : D} {r : Option (D × Hd)} (e1 : fa ls hp = some (a, hp1)) (e2 : fb ls hp1 = some (b, hp2)) (e3 : g a b hp2 = r) : m2 fa fb g ls hp = r := (m2_of e1 e2).trans e3
theorem mC_of {d : D} {ls : Ls} {hp : Hd} : mC d ls hp = some (d, hp) := rfl
theorem nil_of {ls : Ls} {hp : Hd} : mNil ls hp = some ([], hp) := rfl
theorem lst_of {fr : AA} {ls : Ls} {hp hp1 : Hd} {ds : List D} (e : fr ls hp = some (ds, hp1)) (h : ds.length ≤ 1000) : mLst fr ls hp = some (ds, hp1) := by
  rw [mLst_s, e]
  dsimp only
  rw [if_pos (by rw [sizeLine_eq]; omega)]
theorem not_of {ft : AT} {ls : Ls} {hp hp1 : Hd} {b : Bool} (e : ft ls hp = some (b, hp1)) : mNot ft ls hp = some (!b, hp1) := by
  rw [mNot_s, e]
theorem m1_ev {fa : AE} {g : D → Hd → Option (D × Hd)} {ls : Ls} {hp hp1 : Hd} {a : D} {r : Option (D × Hd)} (e1 : fa ls hp = some (a, hp1)) (e3 : g a hp1 = r) : m1 fa g ls hp = r := by
  rw [m1_s, e1]
  exact e3
theorem met_of {ck : D → Hd → Bool} {fa : AE} {fr : AA} {g : D → List D → Hd → Option (D × Hd)} {ls : Ls} {hp hp1 hp2 : Hd} {x : D} {ds : List D} {r : Option (D × Hd)} (e : fa ls hp = some (x, hp1)) (c : ck x hp1 = true) (e1 : fr ls hp1 = some (ds, hp2)) (e2 : g x ds hp2 = r) : mMet ck fa fr g ls hp = r := by
  rw [mMet_s, e]
  dsimp only
  rw [if_pos c, e1]
  exact e2
theorem c1V_of {m : List D → Hd → Option (D × Hd)} {ds : List D} {hp : Hd} {n : Nat} {o o' : O} {d : D} {g : Hd} (e : hp[n]? = some o) (hn : nrs ds = true) (ho : nrO o = true) (em : m (.ref 0 :: ds) [o] = some (d, o' :: g)) (hd : nr d = true) (ho' : nrO o' = true) : c1V m (.ref n :: ds) hp = some (d, hp.set n o') := by
  unfold c1V
  dsimp only
  rw [e]
  dsimp only
  rw [if_pos (by rw [hn, ho]; rfl), em]
  dsimp only
  rw [if_pos (by rw [hd, ho']; rfl)]
theorem range_at {m : Nat} {d r : List Nat} {x : Nat} (h : List.range m = d ++ x :: r) : x = d.length ∧ d.length < m := by
  have hl : d.length < m := by
    have := congrArg List.length h
    rw [List.length_range, List.length_append, List.length_cons] at this
    omega
  refine ⟨?_, hl⟩
  have e : (List.range m)[d.length]? = (d ++ x :: r)[d.length]? := by rw [h]
  rw [List.getElem?_range hl, List.getElem?_append_right (Nat.le_refl _), Nat.sub_self] at e
  exact (Option.some.inj e).symm
abbrev Sd := Nat × Nat
def pI (p : Sd) : List Int := [(p.1 : Int), (p.2 : Int)]
theorem pI_lt {p q : Sd} : pI p < pI q ↔ p.1 < q.1 ∨ (p.1 = q.1 ∧ p.2 < q.2) := by
  unfold pI
  rw [List.cons_lt_cons_iff, List.cons_lt_cons_iff]
  simp only [List.not_lt_nil, and_false, or_false]
  omega
def sds (n : Nat) : List Sd := (List.range n).flatMap fun f => (List.range 4).map fun i => (f, i)
theorem mem_sds {n : Nat} {p : Sd} : p ∈ sds n ↔ p.1 < n ∧ p.2 < 4 := by
  unfold sds
  rw [List.mem_flatMap]
  constructor
  · rintro ⟨f, hf, h⟩
    obtain ⟨i, hi, rfl⟩ := List.mem_map.mp h
    exact ⟨List.mem_range.mp hf, List.mem_range.mp hi⟩
  · intro ⟨h1, h2⟩
    exact ⟨p.1, List.mem_range.mpr h1, List.mem_map.mpr ⟨p.2, List.mem_range.mpr h2, rfl⟩⟩
theorem sds_succ (n : Nat) : sds (n + 1) = sds n ++ (List.range 4).map fun i => (n, i) := by
  unfold sds
  rw [List.range_succ (n := n), List.flatMap_append]
  simp
theorem sds_length : ∀ n, (sds n).length = 4 * n
  | 0 => rfl
  | n + 1 => by
    rw [sds_succ, List.length_append, sds_length n, List.length_map, List.length_range]
    omega
theorem sds_nodup : ∀ n, (sds n).Nodup
  | 0 => List.nodup_nil
  | n + 1 => by
    rw [sds_succ]
    refine List.nodup_append.mpr ⟨sds_nodup n, by simp [List.range_succ], fun a ha b hb e => ?_⟩
    subst e
    obtain ⟨i, _, rfl⟩ := List.mem_map.mp hb
    have := (mem_sds.mp ha).1
    simp at this
abbrev PJ := Nat → Nat → Option Sd
def oD : Option Sd → D
  | none => .non
  | some p => T (pI p)
def prow (P : PJ) (f : Nat) : List D := (List.range 4).map fun i => oD (P f i)
def opn (P : PJ) (m : Nat) : List Sd := (sds m).filter fun p => (P p.1 p.2).isNone
theorem mem_opn {P : PJ} {m : Nat} {p : Sd} : p ∈ opn P m ↔ (p.1 < m ∧ p.2 < 4) ∧ P p.1 p.2 = none := by
  unfold opn
  rw [List.mem_filter, mem_sds, Option.isNone_iff_eq_none]
def upd1 (P : PJ) (a : Sd) (v : Option Sd) : PJ := fun f i => if (f, i) = a then v else P f i
theorem prow_len (P : PJ) (f : Nat) : (prow P f).length = 4 := by simp [prow]
theorem prow_at (P : PJ) (f : Nat) {i : Nat} (h : i < 4) : (prow P f)[i]? = some (oD (P f i)) := by simp [prow, h]
theorem prow_set (P : PJ) (a : Sd) (v : Option Sd) : (prow P a.1).set a.2 (oD v) = prow (upd1 P a v) a.1 := by
  refine List.ext_getElem? fun k => ?_
  rw [List.getElem?_set, prow_len]
  by_cases hk : k < 4
  · rw [prow_at _ _ hk, prow_at _ _ hk]
    by_cases e : a.2 = k
    · subst e
      rw [if_pos rfl, if_pos hk]
      show _ = some (oD (if (a.1, a.2) = a then v else P a.1 a.2))
      rw [if_pos rfl]
    · rw [if_neg e]
      show _ = some (oD (if (a.1, k) = a then v else P a.1 k))
      rw [if_neg (fun z => e (by rw [← z]))]
  · have h1 : (prow P a.1)[k]? = none := List.getElem?_eq_none (by rw [prow_len]; omega)
    have h2 : (prow (upd1 P a v) a.1)[k]? = none := List.getElem?_eq_none (by rw [prow_len]; omega)
    rw [h1, h2]
    split
    · rw [if_neg (by omega)]
    · rfl
theorem prow_ne (P : PJ) {a : Sd} (v : Option Sd) {f : Nat} (h : f ≠ a.1) : prow (upd1 P a v) f = prow P f := by
  unfold prow
  congr 1
  funext i
  show oD (if (f, i) = a then v else P f i) = _
  rw [if_neg (fun z => h (by rw [← z]))]
structure RowsAt (hp : Hd) (r0 R n : Nat) (P : PJ) : Prop where
  lst : hp[R]? = some (.lst ((List.range n).map fun f => D.ref (r0 + f)))
  row : ∀ f, f < n → hp[r0 + f]? = some (.lst (prow P f))
theorem RowsAt.old {hp l : Hd} {r0 R n : Nat} {P : PJ} (h : RowsAt hp r0 R n P) : RowsAt (hp ++ l) r0 R n P := ⟨hget_old h.lst, fun f hf => hget_old (h.row f hf)⟩
theorem RowsAt.set {hp : Hd} {r0 R n k : Nat} {P : PJ} {o : O} (h : RowsAt hp r0 R n P) (hR : k ≠ R) (hr : ∀ f, f < n → k ≠ r0 + f) : RowsAt (hp.set k o) r0 R n P := ⟨hset_ne hR h.lst, fun f hf => hset_ne (hr f hf) (h.row f hf)⟩
theorem RowsAt.put {hp : Hd} {r0 R n : Nat} {P : PJ} (h : RowsAt hp r0 R n P) {a : Sd} (v : Option Sd) (ha : a.1 < n) (hR : r0 + a.1 ≠ R) : RowsAt (hp.set (r0 + a.1) (.lst ((prow P a.1).set a.2 (oD v)))) r0 R n (upd1 P a v) := by
  refine ⟨hset_ne hR h.lst, fun f hf => ?_⟩
  by_cases e : f = a.1
  · subst e
    rw [hset_same (h.row _ hf), prow_set]
  · rw [prow_ne P v e]
    exact hset_ne (by omega) (h.row f hf)
theorem RowsAt.at_ {hp : Hd} {r0 R n f : Nat} {P : PJ} (h : RowsAt hp r0 R n P) (hf : f < n) : gIx (.ref R) (.int (f : Nat)) hp = some (.ref (r0 + f), hp) :=
  gIx_refN (j := f) h.lst (x := .ref (r0 + f)) (by rw [List.getElem?_map, List.getElem?_range hf]; rfl)
def upJ (P : PJ) (a b : Sd) : PJ := fun f i => if (f, i) = a then some b else if (f, i) = b then some a else P f i
theorem upJ_a (P : PJ) (a b : Sd) : upJ P a b a.1 a.2 = some b := if_pos rfl
theorem upJ_b (P : PJ) {a b : Sd} (h : a ≠ b) : upJ P a b b.1 b.2 = some a := by
  unfold upJ
  rw [if_neg (fun z => h z.symm), if_pos rfl]
theorem upJ_o (P : PJ) {a b p : Sd} (h1 : p ≠ a) (h2 : p ≠ b) : upJ P a b p.1 p.2 = P p.1 p.2 := by
  unfold upJ
  rw [if_neg h1, if_neg h2]
theorem upd_two (P : PJ) {a b : Sd} (h : a ≠ b) : upd1 (upd1 P a (some b)) b (some a) = upJ P a b := by
  funext f i
  unfold upd1 upJ
  by_cases e1 : (f, i) = a
  · rw [if_neg (fun z => h (e1.symm.trans z)), if_pos e1, if_pos e1]
  · rw [if_neg e1, if_neg e1]
theorem RowsAt.two {hp : Hd} {r0 R n : Nat} {P : PJ} (h : RowsAt hp r0 R n P) {a b : Sd} (hab : a ≠ b) (ha : a.1 < n) (hb : b.1 < n) (hR : ∀ f, f < n → r0 + f ≠ R) (ha2 : a.2 < 4) (hb2 : b.2 < 4) :
    ∃ hp1 hp2, gSet (.ref (r0 + a.1)) (.int (a.2 : Nat)) (T (pI b)) hp = some hp1 ∧ RowsAt hp1 r0 R n (upd1 P a (some b)) ∧ gSet (.ref (r0 + b.1)) (.int (b.2 : Nat)) (T (pI a)) hp1 = some hp2 ∧ RowsAt hp2 r0 R n (upJ P a b) ∧ (∀ k, (∀ f, f < n → k ≠ r0 + f) → hp2[k]? = hp[k]?) ∧ hp2.length = hp.length := by
  have h1 := h.put (some b) ha (hR _ ha)
  have h2 := h1.put (some a) hb (hR _ hb)
  rw [upd_two P hab] at h2
  refine ⟨_, _, gSet_nat (h.row _ ha) (by rw [prow_len]; exact ha2), h1, gSet_nat (h1.row _ hb) (by rw [prow_len]; exact hb2), h2, fun k hk => ?_, by rw [List.length_set, List.length_set]⟩
  rw [List.getElem?_set_ne (Ne.symm (hk _ hb)), List.getElem?_set_ne (Ne.symm (hk _ ha))]
def PM (n : Nat) (P : PJ) : Prop := ∀ f i p, f < n → i < 4 → P f i = some p → p.1 < n ∧ p.2 < 4 ∧ P p.1 p.2 = some (f, i) ∧ p ≠ (f, i)
theorem PM.up {n : Nat} {P : PJ} {a b : Sd} (h : PM n P) (hab : a ≠ b) (ha : a ∈ opn P n) (hb : b ∈ opn P n) : PM n (upJ P a b) := by
  obtain ⟨a1, a2⟩ := mem_opn.mp ha
  obtain ⟨b1, b2⟩ := mem_opn.mp hb
  intro f i p hf hi e
  by_cases e1 : (f, i) = a
  · have e2 : upJ P a b f i = some b := if_pos e1
    rw [e2] at e
    cases e
    exact ⟨b1.1, b1.2, by rw [upJ_b P hab, e1], fun z => hab (z.trans e1).symm⟩
  · by_cases e2 : (f, i) = b
    · subst e2
      have e3 : upJ P a (f, i) f i = some a := upJ_b P hab
      rw [e3] at e
      cases e
      exact ⟨a1.1, a1.2, by rw [upJ_a], fun z => hab z⟩
    · have e3 : upJ P a b f i = P f i := upJ_o P (p := (f, i)) e1 e2
      rw [e3] at e
      obtain ⟨h1, h2, h3, h4⟩ := h f i p hf hi e
      refine ⟨h1, h2, ?_, h4⟩
      rw [upJ_o P (fun z => by rw [z, a2] at h3; cases h3) (fun z => by rw [z, b2] at h3; cases h3), h3]
def Lnk (m : Nat) (P : PJ) : Prop := ∀ f, 0 < f → f < m → ∃ i p, i < 4 ∧ P f i = some p ∧ p.1 < f
theorem Lnk.up {m : Nat} {P : PJ} {a b : Sd} (h : Lnk m P) (ha : P a.1 a.2 = none) (hb : P b.1 b.2 = none) : Lnk m (upJ P a b) := fun f h0 hf => by
  obtain ⟨i, p, hi, e, hp⟩ := h f h0 hf
  exact ⟨i, p, hi, by rw [upJ_o P (p := (f, i)) (fun z => by rw [← z] at ha; rw [ha] at e; cases e) (fun z => by rw [← z] at hb; rw [hb] at e; cases e), e], hp⟩
structure Skin (n : Nat) (J : Nat → Nat → Sd) : Prop where
  pos : 0 < n
  rng : ∀ f i, f < n → i < 4 → (J f i).1 < n ∧ (J f i).2 < 4
  inv : ∀ f i, f < n → i < 4 → J (J f i).1 (J f i).2 = (f, i)
  ne : ∀ f i, f < n → i < 4 → J f i ≠ (f, i)
  con : ∀ S : Nat → Prop, S 0 → (∀ f i, f < n → i < 4 → S f → S (J f i).1) → ∀ f, f < n → S f
theorem enumD_range (g : Nat → D) (n : Nat) : enumD ((List.range n).map g) = (List.range n).map fun k => D.tup [.int (k : Nat), g k] := by
  refine List.ext_getElem? fun k => ?_
  simp only [enumD, List.getElem?_map, List.getElem?_zipIdx]
  by_cases h : k < n
  · simp [h]
  · simp [h]
def sms (n : Nat) (J : Nat → Nat → Sd) : List Sd := (sds n).filter fun p => decide (pI p < pI (J p.1 p.2))
theorem mem_sms {n : Nat} {J : Nat → Nat → Sd} {p : Sd} : p ∈ sms n J ↔ (p.1 < n ∧ p.2 < 4) ∧ pI p < pI (J p.1 p.2) := by
  unfold sms
  rw [List.mem_filter, mem_sds, decide_eq_true_eq]
theorem sms_nodup (n : Nat) (J : Nat → Nat → Sd) : (sms n J).Nodup := (sds_nodup n).filter _
theorem Skin.sms_length {n : Nat} {J : Nat → Nat → Sd} (h : Skin n J) : (sms n J).length = 2 * n := by
  let A := sms n J
  let B := (sds n).filter fun p => !decide (pI p < pI (J p.1 p.2))
  have hAB : A.length + B.length = 4 * n := by
    rw [← sds_length n]
    show ((sds n).filter fun p => decide (pI p < pI (J p.1 p.2))).length + ((sds n).filter fun p => !decide (pI p < pI (J p.1 p.2))).length = _
    induction sds n with
    | nil => rfl
    | cons x l ih =>
      rw [List.filter_cons, List.filter_cons]
      by_cases q : pI x < pI (J x.1 x.2)
      · simp [q] at ih ⊢
        omega
      · simp [q] at ih ⊢
        omega
  let g : Sd → Sd := fun p => J p.1 p.2
  have inj : ∀ {l : List Sd}, l.Nodup → (∀ x ∈ l, x ∈ sds n) → (l.map g).Nodup := by
    intro l hl hm
    refine List.Pairwise.map g (R := fun a b => a ∈ l ∧ b ∈ l ∧ a ≠ b) (fun a b ⟨ha, hb, hab⟩ e => hab ?_) ?_
    · have ha := mem_sds.mp (hm a ha)
      have hb := mem_sds.mp (hm b hb)
      have e1 := h.inv a.1 a.2 ha.1 ha.2
      have e2 := h.inv b.1 b.2 hb.1 hb.2
      have e3 : J a.1 a.2 = J b.1 b.2 := e
      rw [e3, e2] at e1
      exact e1.symm
    · exact List.Pairwise.imp_of_mem (fun ha hb hab => ⟨ha, hb, hab⟩) hl
  have memA : ∀ x ∈ A, x ∈ sds n := fun x hx => (List.mem_filter.mp hx).1
  have memB : ∀ x ∈ B, x ∈ sds n := fun x hx => (List.mem_filter.mp hx).1
  have l1 : A.length ≤ B.length := by
    have := nodup_len (inj (sms_nodup n J) memA) (m := B) fun y hy => by
      obtain ⟨x, hx, rfl⟩ := List.mem_map.mp hy
      obtain ⟨⟨h1, h2⟩, h3⟩ := mem_sms.mp hx
      obtain ⟨r1, r2⟩ := h.rng x.1 x.2 h1 h2
      refine List.mem_filter.mpr ⟨mem_sds.mpr ⟨r1, r2⟩, ?_⟩
      show (!decide (pI (J x.1 x.2) < pI (J (J x.1 x.2).1 (J x.1 x.2).2))) = true
      rw [h.inv x.1 x.2 h1 h2]
      rw [pI_lt] at h3
      simp only [Bool.not_eq_true', decide_eq_false_iff_not, pI_lt]
      omega
    rwa [List.length_map] at this
  have l2 : B.length ≤ A.length := by
    have := nodup_len (inj ((sds_nodup n).filter _) memB) (m := A) fun y hy => by
      obtain ⟨x, hx, rfl⟩ := List.mem_map.mp hy
      obtain ⟨hs, h3⟩ := List.mem_filter.mp hx
      obtain ⟨h1, h2⟩ := mem_sds.mp hs
      obtain ⟨r1, r2⟩ := h.rng x.1 x.2 h1 h2
      refine mem_sms.mpr ⟨⟨r1, r2⟩, ?_⟩
      show pI (J x.1 x.2) < pI (J (J x.1 x.2).1 (J x.1 x.2).2)
      rw [h.inv x.1 x.2 h1 h2]
      have hne := h.ne x.1 x.2 h1 h2
      simp only [Bool.not_eq_true', decide_eq_false_iff_not, pI_lt] at h3
      rw [pI_lt]
      have : ¬ ((J x.1 x.2).1 = x.1 ∧ (J x.1 x.2).2 = x.2) := fun ⟨z1, z2⟩ => hne (Prod.ext z1 z2)
      show (J x.1 x.2).1 < x.1 ∨ (J x.1 x.2).1 = x.1 ∧ (J x.1 x.2).2 < x.2
      omega
    rwa [List.length_map] at this
  show A.length = 2 * n
  omega
end Ve
namespace Ve
open PySem PySem.Spec L2
theorem if_ev {ft : AT} {f g : AS} {ls : Ls} {hp hp1 : Hd} {b : Bool} {r : Option (Fl × Ls × Hd)} (e : ft ls hp = some (b, hp1)) (e2 : (if b = true then f else g) ls hp1 = r) : sIf ft f g ls hp = r := by
  cases b
  · exact sIf_f e e2
  · exact sIf_t e e2
end Ve
namespace Ve
open PySem PySem.Spec L2
def joinG (L : List Int) (a b : Nat) : List Int := L.map fun z => if z = max (L.getD a 0) (L.getD b 0) then min (L.getD a 0) (L.getD b 0) else z
theorem joinG_len (L : List Int) (a b : Nat) : (joinG L a b).length = L.length := by unfold joinG; rw [List.length_map]
def smAt (n : Nat) (J : Nat → Nat → Sd) (k : Int) : Sd := (sms n J).getD k.toNat (0, 0)
def grpS (n : Nat) (J : Nat → Nat → Sd) (L : List Int) (k : Int) : List Int := joinG L (smAt n J k).1 (J (smAt n J k).1 (smAt n J k).2).1
theorem smAt_mem {n : Nat} {J : Nat → Nat → Sd} {k : Int} (h : 0 ≤ k ∧ k < (sms n J).length) : smAt n J k ∈ sms n J := by
  unfold smAt
  rw [List.getD_eq_getElem?_getD, List.getElem?_eq_getElem (by omega)]
  exact List.getElem_mem _
end Ve
namespace Ve
open PySem PySem.Spec L2
def manyB (n : Nat) (J : Nat → Nat → Sd) (ks L : List Int) (lot : Int) : Nat := (ks.filter fun k => L.getD (smAt n J k).1 0 == lot).length
theorem bls_map {α : Type} (f : α → Bool) : ∀ l : List α, bls? (l.map fun x => D.bl (f x)) = some (l.map f)
  | [] => rfl
  | x :: l => by
    show (bls? (l.map fun x => D.bl (f x))).map (f x :: ·) = _
    rw [bls_map f l]
    rfl
theorem gAll_map {α : Type} (f : α → Bool) (l : List α) (hp : Hd) : gAll (l.map fun x => D.bl (f x)) hp = some (.bl (l.all f), hp) := by
  unfold gAll
  rw [bls_map]
  dsimp only
  rw [List.all_map]
  rfl
theorem seq_ret {f g : AS} {ls ls' : Ls} {hp hp' : Hd} {d : D} (e : f ls hp = some (.rt d, ls', hp')) : sSeq f g ls hp = some (.rt d, ls', hp') := by
  rw [sSeq_s, e]
end Ve
namespace Ve
open PySem PySem.Spec L2
end Ve
namespace Ve
open PySem PySem.Spec L2
theorem andV_f {fa fb : AE} {ls : Ls} {hp hp1 : Hd} (e : fa ls hp = some (.bl false, hp1)) : mAndV fa fb ls hp = some (.bl false, hp1) := by
  rw [mAndV_s2, e]
  rfl
theorem andV_t {fa fb : AE} {ls : Ls} {hp hp1 : Hd} {r : Option (D × Hd)} (e : fa ls hp = some (.bl true, hp1)) (e2 : fb ls hp1 = r) : mAndV fa fb ls hp = r := by
  rw [mAndV_s2, e]
  exact e2
theorem and_f {fa fb : AT} {ls : Ls} {hp hp1 : Hd} (e : fa ls hp = some (false, hp1)) : mAnd fa fb ls hp = some (false, hp1) := by
  rw [mAnd_s2, e]
  rfl
theorem and_t {fa fb : AT} {ls : Ls} {hp hp1 : Hd} {r : Option (Bool × Hd)} (e : fa ls hp = some (true, hp1)) (e2 : fb ls hp1 = r) : mAnd fa fb ls hp = r := by
  rw [mAnd_s2, e]
  exact e2
theorem or_f {fa fb : AT} {ls : Ls} {hp hp1 : Hd} {r : Option (Bool × Hd)} (e : fa ls hp = some (false, hp1)) (e2 : fb ls hp1 = r) : mOr fa fb ls hp = r := by
  rw [mOr_s2, e]
  exact e2
theorem or_t {fa fb : AT} {ls : Ls} {hp hp1 : Hd} (e : fa ls hp = some (true, hp1)) : mOr fa fb ls hp = some (true, hp1) := by
  rw [mOr_s2, e]
  rfl
theorem isi_ev {T : String} {fa : AE} {ls : Ls} {hp hp1 : Hd} {x : D} {r : Option (D × Hd)} (e : fa ls hp = some (x, hp1)) (e2 : gIsi T [x] hp1 = r) : mIsi T fa ls hp = r := by
  rw [mIsi_s, e]
  exact e2
theorem chain_f {fa fb fc : AE} {g g' : D → D → Hd → Option (D × Hd)} {ls : Ls} {hp hp1 hp2 hp3 : Hd} {x y : D} (e1 : fa ls hp = some (x, hp1)) (e2 : fb ls hp1 = some (y, hp2)) (e3 : g x y hp2 = some (.bl false, hp3)) : mChain fa fb fc g g' ls hp = some (.bl false, hp3) := by
  unfold mChain
  rw [e1]
  dsimp only
  rw [e2]
  dsimp only
  rw [e3]
theorem chain_t {fa fb fc : AE} {g g' : D → D → Hd → Option (D × Hd)} {ls : Ls} {hp hp1 hp2 hp3 hp4 : Hd} {x y z : D} {r : Option (D × Hd)} (e1 : fa ls hp = some (x, hp1)) (e2 : fb ls hp1 = some (y, hp2)) (e3 : g x y hp2 = some (.bl true, hp3)) (e4 : fc ls hp3 = some (z, hp4)) (e5 : g' y z hp4 = r) : mChain fa fb fc g g' ls hp = r := by
  unfold mChain
  rw [e1]
  dsimp only
  rw [e2]
  dsimp only
  rw [e3]
  dsimp only
  rw [e4]
  exact e5
theorem chain_int {fa fb fc : AE} {ls : Ls} {hp hp1 hp2 : Hd} {x y z : Int} {c1 c2 : Int → Int → Bool} {g g' : D → D → Hd → Option (D × Hd)} (h1 : ∀ i j hp, g (.int i) (.int j) hp = some (.bl (c1 i j), hp)) (h2 : ∀ i j hp, g' (.int i) (.int j) hp = some (.bl (c2 i j), hp))
    (e1 : fa ls hp = some (.int x, hp1)) (e2 : fb ls hp1 = some (.int y, hp2)) (e4 : fc ls hp2 = some (.int z, hp2)) : mChain fa fb fc g g' ls hp = some (.bl (c1 x y && c2 y z), hp2) := by
  cases hc : c1 x y
  · exact chain_f e1 e2 ((h1 x y hp2).trans (by rw [hc]))
  · exact chain_t e1 e2 ((h1 x y hp2).trans (by rw [hc])) e4 (h2 y z hp2)
end Ve
namespace Ve
open PySem PySem.Spec L2
theorem all_cons {α : Type} {P : α → Prop} {x : α} {l : List α} (h1 : P x) (h2 : ∀ y ∈ l, P y) : ∀ y ∈ x :: l, P y := fun y hy => by
  rcases List.mem_cons.mp hy with z | z
  · rw [z]; exact h1
  · exact h2 y z
end Ve
namespace Ve
open PySem PySem.Spec L2
end Ve
namespace Ve
open PySem PySem.Spec L2
theorem mIL_ev {fl : AA} {ls : Ls} {hp hp1 : Hd} {ds : List D} (e : fl ls hp = some (ds, hp1)) : mIL fl ls hp = some (ds, [], hp1) := by
  rw [mIL_s, e]
end Ve
namespace L2
open PySem PySem.Spec PyProof.Rows
def EnS (h : Heap) (e it : Addr) (i : Nat) : Prop := (∃ old, IsEnum h e it ((i : Nat) : Int) old) ∨ ∃ old T f oT, PySem.IsEnumHeld h e it ((i : Nat) : Int) old T f ∧ h.get? T = some oT ∧ T ≠ e ∧ T ≠ it
theorem EnS.keep {h h' : Heap} {e it : Addr} {i : Nat} (x : EnS h e it i) (k : ∀ b o, b = e ∨ b = it → h.get? b = some o → h'.get? b = some o) (there : ∀ b o, h.get? b = some o → ∃ u, h'.get? b = some u) : EnS h' e it i := by
  rcases x with ⟨old, he⟩ | ⟨old, T, f, oT, he, hT, r1, r2⟩
  · exact .inl ⟨old, k _ _ (.inl rfl) he⟩
  · obtain ⟨u, hu⟩ := there T oT hT
    exact .inr ⟨old, T, f, u, k _ _ (.inl rfl) he, hu, r1, r2⟩
theorem EnS.get {h : Heap} {e it : Addr} {i : Nat} (x : EnS h e it i) : ∃ o, h.get? e = some o ∧ o.cls = .type "enumerate" := by
  rcases x with ⟨old, he⟩ | ⟨old, T, f, oT, he, _⟩
  · exact ⟨_, he, rfl⟩
  · exact ⟨_, he, rfl⟩
end L2
namespace L2
open PySem PySem.Spec PyProof.Rows
end L2
namespace Ve
open PySem PySem.Spec L2
end Ve
namespace Ve
open PySem PySem.Spec L2
theorem fn_none {P : Program} {w : World} {K : PySem.W.Frag} {mg : Str → Option Value} {base : Heap} {k n : Nat} {x : Str} {f : Addr} {fd : FuncData} {ps : List Str} (hm : mg x = some (.ref f)) (kp : PySem.W.keepIn K (.ref f) = true) (hb : Binds K fd ps []) : Fn P w K mg base k x n (fun _ _ => none) := by
  refine ⟨f, fd, ps, ⟨?_, ?_⟩, hm, kp, hb⟩
  · rintro vs H Q E ⟨hp, μ, ds, d, hp', _, _, _, e, _⟩
    cases e
  · rintro A outer s H args us vs Q E _ _ _ _ ⟨hp, μ, ds, d, hp', _, _, _, e, _⟩
    cases e
theorem ds_no {X : Cx} {st : Stmt} : PS X st (tS X.K (fun _ _ => none)) := ⟨fun pins s σ H Q I h => by
  obtain ⟨ls, hp, μ, fl, ls', hp', _, _, e, _⟩ := h
  cases e⟩
end Ve
namespace Ve
open PySem PySem.Spec L2
structure Pl where
  x : Int
  y : Int
  t : Int
def dX (k : Int) : Int := if k = 0 then 1 else if k = 2 then -1 else 0
def dY (k : Int) : Int := if k = 1 then 1 else if k = 3 then -1 else 0
def nxt (p : Pl) (i j : Int) : Pl := ⟨p.x + dX ((i + p.t) % 4), p.y + dY ((i + p.t) % 4), ((i + p.t) % 4 + 2 - j) % 4⟩
theorem nxt_t (p : Pl) (i j : Int) : 0 ≤ (nxt p i j).t ∧ (nxt p i j).t < 4 := by
  show 0 ≤ ((i + p.t) % 4 + 2 - j) % 4 ∧ ((i + p.t) % 4 + 2 - j) % 4 < 4
  omega
theorem four {k : Int} (h : 0 ≤ k ∧ k < 4) : k = 0 ∨ k = 1 ∨ k = 2 ∨ k = 3 := by omega
theorem nxt_back {p : Pl} {i j : Int} (hp : 0 ≤ p.t ∧ p.t < 4) (hi : 0 ≤ i ∧ i < 4) (hj : 0 ≤ j ∧ j < 4) : nxt (nxt p i j) j i = p := by
  obtain ⟨x, y, t⟩ := p
  obtain ⟨k, hk⟩ : ∃ k, (i + t) % 4 = k := ⟨_, rfl⟩
  have hk2 : (j + (k + 2 - j) % 4) % 4 = (k + 2) % 4 := by omega
  show Pl.mk (x + dX ((i + t) % 4) + dX ((j + ((i + t) % 4 + 2 - j) % 4) % 4)) (y + dY ((i + t) % 4) + dY ((j + ((i + t) % 4 + 2 - j) % 4) % 4)) (((j + ((i + t) % 4 + 2 - j) % 4) % 4 + 2 - i) % 4) = ⟨x, y, t⟩
  rw [hk, hk2]
  have ht : ((k + 2) % 4 + 2 - i) % 4 = t := by
    dsimp only at hp
    omega
  rw [ht]
  rcases four (show 0 ≤ k ∧ k < 4 by omega) with rfl | rfl | rfl | rfl <;> simp [dX, dY] <;> omega
def mo (r a b : Int) (p : Pl) : Pl := if r = 0 then ⟨p.x + a, p.y + b, p.t⟩ else if r = 1 then ⟨-p.y + a, p.x + b, (p.t + 1) % 4⟩ else if r = 2 then ⟨-p.x + a, -p.y + b, (p.t + 2) % 4⟩ else ⟨p.y + a, -p.x + b, (p.t + 3) % 4⟩
theorem mo_t {r a b : Int} {p : Pl} (h : 0 ≤ p.t ∧ p.t < 4) : 0 ≤ (mo r a b p).t ∧ (mo r a b p).t < 4 := by
  unfold mo
  split
  · exact h
  · split
    · dsimp only; omega
    · split <;> (dsimp only; omega)
theorem nxt_mo {r a b i j : Int} {p : Pl} (hr : 0 ≤ r ∧ r < 4) : nxt (mo r a b p) i j = mo r a b (nxt p i j) := by
  obtain ⟨x, y, t⟩ := p
  obtain ⟨k, hk⟩ : ∃ k, (i + t) % 4 = k := ⟨_, rfl⟩
  have k4 : 0 ≤ k ∧ k < 4 := by omega
  have key : ∀ x' y' t', nxt ⟨x', y', t'⟩ i j = ⟨x' + dX ((i + t') % 4), y' + dY ((i + t') % 4), ((i + t') % 4 + 2 - j) % 4⟩ := fun _ _ _ => rfl
  rcases four hr with rfl | rfl | rfl | rfl
  · simp only [mo, if_true, key]
    congr 1 <;> omega
  · have e : (i + (t + 1) % 4) % 4 = (k + 1) % 4 := by omega
    simp only [mo, key, hk, e, show ¬ ((1 : Int) = 0) by decide, if_false, if_true]
    have e2 : ((k + 1) % 4 + 2 - j) % 4 = ((k + 2 - j) % 4 + 1) % 4 := by omega
    rw [e2]
    rcases four k4 with rfl | rfl | rfl | rfl <;> simp [dX, dY] <;> omega
  · have e : (i + (t + 2) % 4) % 4 = (k + 2) % 4 := by omega
    simp only [mo, key, hk, e, show ¬ ((2 : Int) = 0) by decide, show ¬ ((2 : Int) = 1) by decide, if_false, if_true]
    have e2 : ((k + 2) % 4 + 2 - j) % 4 = ((k + 2 - j) % 4 + 2) % 4 := by omega
    rw [e2]
    rcases four k4 with rfl | rfl | rfl | rfl <;> simp [dX, dY] <;> omega
  · have e : (i + (t + 3) % 4) % 4 = (k + 3) % 4 := by omega
    simp only [mo, key, hk, e, show ¬ ((3 : Int) = 0) by decide, show ¬ ((3 : Int) = 1) by decide, show ¬ ((3 : Int) = 2) by decide, if_false, if_true]
    have e2 : ((k + 3) % 4 + 2 - j) % 4 = ((k + 2 - j) % 4 + 3) % 4 := by omega
    rw [e2]
    rcases four k4 with rfl | rfl | rfl | rfl <;> simp [dX, dY] <;> omega
theorem mo_to {p q : Pl} (hp : 0 ≤ p.t ∧ p.t < 4) (hq : 0 ≤ q.t ∧ q.t < 4) : ∃ r a b, (0 ≤ r ∧ r < 4) ∧ mo r a b p = q := by
  obtain ⟨x, y, t⟩ := p
  obtain ⟨x2, y2, t2⟩ := q
  dsimp only at hp hq
  obtain ⟨r, hr⟩ : ∃ r, (t2 - t) % 4 = r := ⟨_, rfl⟩
  rcases four (show 0 ≤ r ∧ r < 4 by omega) with rfl | rfl | rfl | rfl
  · exact ⟨0, x2 - x, y2 - y, by decide, by simp only [mo, if_true]; congr 1 <;> omega⟩
  · exact ⟨1, x2 + y, y2 - x, by decide, by simp only [mo, show ¬ ((1 : Int) = 0) by decide, if_false, if_true]; congr 1 <;> omega⟩
  · exact ⟨2, x2 + x, y2 + y, by decide, by simp only [mo, show ¬ ((2 : Int) = 0) by decide, show ¬ ((2 : Int) = 1) by decide, if_false, if_true]; congr 1 <;> omega⟩
  · exact ⟨3, x2 - y, y2 + x, by decide, by simp only [mo, show ¬ ((3 : Int) = 0) by decide, show ¬ ((3 : Int) = 1) by decide, show ¬ ((3 : Int) = 2) by decide, if_false]; congr 1 <;> omega⟩
inductive Cn (A : Nat → Nat → Prop) (a : Nat) : Nat → Prop where
  | refl : Cn A a a
  | step {b c : Nat} : Cn A a b → A b c → Cn A a c
theorem Cn.trans {A : Nat → Nat → Prop} {a b c : Nat} (h1 : Cn A a b) (h2 : Cn A b c) : Cn A a c := by
  induction h2 with
  | refl => exact h1
  | step _ hc ih => exact ih.step hc
theorem Cn.symm {A : Nat → Nat → Prop} (hs : ∀ a b, A a b → A b a) {a b : Nat} (h : Cn A a b) : Cn A b a := by
  induction h with
  | refl => exact .refl
  | step _ hc ih => exact Cn.trans (.step .refl (hs _ _ hc)) ih
theorem Cn.mono {A B : Nat → Nat → Prop} (h : ∀ a b, A a b → B a b) {a b : Nat} (c : Cn A a b) : Cn B a b := by
  induction c with
  | refl => exact .refl
  | step _ hc ih => exact ih.step (h _ _ hc)
theorem Cn.closed {A : Nat → Nat → Prop} {a b : Nat} {S : Nat → Prop} (ha : S a) (cl : ∀ x y, S x → A x y → S y) (h : Cn A a b) : S b := by
  induction h with
  | refl => exact ha
  | step _ hc ih => exact cl _ _ ih hc
section
variable {n : Nat} {J : Nat → Nat → Sd}
def oth (J : Nat → Nat → Sd) (p : Sd) : Sd := J p.1 p.2
def Adj (n : Nat) (J : Nat → Nat → Sd) (E : List Int) (b c : Nat) : Prop := ∃ k ∈ E, (b = (smAt n J k).1 ∧ c = (oth J (smAt n J k)).1) ∨ (c = (smAt n J k).1 ∧ b = (oth J (smAt n J k)).1)
theorem Adj.symm {E : List Int} : ∀ a b, Adj n J E a b → Adj n J E b a := fun a b ⟨k, hk, h⟩ => ⟨k, hk, h.symm⟩
def Bes (Pt : Nat → Pl) (J : Nat → Nat → Sd) (p : Sd) : Prop := nxt (Pt p.1) p.2 (oth J p).2 = Pt (oth J p).1
def Inb (n : Nat) (E : List Int) : Prop := ∀ k ∈ E, 0 ≤ k ∧ k < (2 * n : Nat)
structure Frs (n : Nat) (J : Nat → Nat → Sd) (L E : List Int) : Prop where
  len : L.length = n
  inb : Inb n E
  pot : ∃ Pt : Nat → Pl, (∀ f, 0 ≤ (Pt f).t ∧ (Pt f).t < 4) ∧ ∀ k ∈ E, Bes Pt J (smAt n J k)
  same : ∀ k ∈ E, L.getD (smAt n J k).1 0 = L.getD (oth J (smAt n J k)).1 0
  conn : ∀ f g, f < n → g < n → L.getD f 0 = L.getD g 0 → Cn (Adj n J E) f g
theorem Skin.sm (sk : Skin n J) {k : Int} (h : 0 ≤ k ∧ k < (2 * n : Nat)) : (smAt n J k).1 < n ∧ (smAt n J k).2 < 4 ∧ (oth J (smAt n J k)).1 < n ∧ (oth J (smAt n J k)).2 < 4 := by
  have h2 : 0 ≤ k ∧ k < (sms n J).length := by rw [sk.sms_length]; exact h
  obtain ⟨⟨a, b⟩, _⟩ := mem_sms.mp (smAt_mem h2)
  obtain ⟨c, d⟩ := sk.rng _ _ a b
  exact ⟨a, b, c, d⟩
theorem Frs.start (n : Nat) (J : Nat → Nat → Sd) : Frs n J ((List.range n).map fun k : Nat => (k : Int)) [] := by
  have e : ∀ f, f < n → ((List.range n).map fun k : Nat => (k : Int)).getD f 0 = (f : Int) := fun f hf => by
    rw [List.getD_eq_getElem?_getD, List.getElem?_map, List.getElem?_range hf]
    rfl
  refine ⟨by rw [List.length_map, List.length_range], (fun k h => absurd h List.not_mem_nil), ⟨fun _ => ⟨0, 0, 0⟩, (fun _ => (by decide : (0 : Int) ≤ 0 ∧ (0 : Int) < 4)), (fun k h => absurd h List.not_mem_nil)⟩, (fun k h => absurd h List.not_mem_nil), fun f g hf hg h => ?_⟩
  rw [e f hf, e g hg] at h
  have : f = g := by omega
  rw [this]
  exact .refl
def joinL (L : List Int) (a b : Nat) : List Int := L.map fun z => if z = L.getD a 0 then L.getD b 0 else z
theorem joinL_at {L : List Int} {a b f : Nat} (h : f < L.length) : (joinL L a b).getD f 0 = if L.getD f 0 = L.getD a 0 then L.getD b 0 else L.getD f 0 := by
  have e1 : (joinL L a b).getD f 0 = ((joinL L a b)[f]?).getD 0 := List.getD_eq_getElem?_getD
  have e2 : L.getD f 0 = L[f] := by rw [List.getD_eq_getElem?_getD, List.getElem?_eq_getElem h]; rfl
  rw [e1, e2]
  unfold joinL
  rw [List.getElem?_map, List.getElem?_eq_getElem h]
  rfl
theorem Frs.put {L E : List Int} (h : Frs n J L E) (sk : Skin n J) {k : Int} (hk : 0 ≤ k ∧ k < (2 * n : Nat)) (hne : L.getD (smAt n J k).1 0 ≠ L.getD (oth J (smAt n J k)).1 0) : Frs n J (joinL L (smAt n J k).1 (oth J (smAt n J k)).1) (E ++ [k]) := by
  obtain ⟨hf, hi, hg, hj⟩ := sk.sm hk
  obtain ⟨Pt, ht, hb⟩ := h.pot
  have at_ : ∀ a, a < n → (joinL L (smAt n J k).1 (oth J (smAt n J k)).1).getD a 0 = if L.getD a 0 = L.getD (smAt n J k).1 0 then L.getD (oth J (smAt n J k)).1 0 else L.getD a 0 := fun a ha => joinL_at (by rw [h.len]; exact ha)
  have ends : ∀ e ∈ E, (smAt n J e).1 < n ∧ (oth J (smAt n J e)).1 < n := fun e he => let ⟨a, _, b, _⟩ := sk.sm (h.inb e he); ⟨a, b⟩
  obtain ⟨r, a, b, hr, em⟩ := mo_to (ht (smAt n J k).1) (nxt_t (Pt (oth J (smAt n J k)).1) (oth J (smAt n J k)).2 (smAt n J k).2)
  refine ⟨by unfold joinL; rw [List.length_map]; exact h.len, fun e he => ?_, ⟨fun f => if L.getD f 0 = L.getD (smAt n J k).1 0 then mo r a b (Pt f) else Pt f, fun f => ?_, fun e he => ?_⟩, fun e he => ?_, fun f g hf' hg' e => ?_⟩
  · rcases List.mem_append.mp he with z | z
    · exact h.inb e z
    · rw [List.mem_singleton.mp z]; exact hk
  · dsimp only
    split
    · exact mo_t (ht f)
    · exact ht f
  · rcases List.mem_append.mp he with z | z
    · have s := h.same e z
      have q := hb e z
      unfold Bes at q ⊢
      dsimp only
      by_cases c : L.getD (smAt n J e).1 0 = L.getD (smAt n J k).1 0
      · rw [if_pos c, if_pos (s.symm.trans c), nxt_mo hr, q]
      · rw [if_neg c, if_neg (fun z => c (s.trans z)), q]
    · rw [List.mem_singleton.mp z]
      unfold Bes
      dsimp only
      rw [if_pos rfl, if_neg (Ne.symm hne), em]
      exact nxt_back (ht _) (by omega) (by omega)
  · rcases List.mem_append.mp he with z | z
    · obtain ⟨e1, e2⟩ := ends e z
      rw [at_ _ e1, at_ _ e2, h.same e z]
    · rw [List.mem_singleton.mp z, at_ _ hf, at_ _ hg, if_pos rfl, if_neg (Ne.symm hne)]
  · have mono : ∀ x y, Adj n J E x y → Adj n J (E ++ [k]) x y := fun x y ⟨e, he, q⟩ => ⟨e, List.mem_append_left _ he, q⟩
    have edge : Cn (Adj n J (E ++ [k])) (smAt n J k).1 (oth J (smAt n J k)).1 := .step .refl ⟨k, by simp, .inl ⟨rfl, rfl⟩⟩
    rw [at_ f hf', at_ g hg'] at e
    by_cases c1 : L.getD f 0 = L.getD (smAt n J k).1 0 <;> by_cases c2 : L.getD g 0 = L.getD (smAt n J k).1 0
    · exact (h.conn f g hf' hg' (c1.trans c2.symm)).mono mono
    · rw [if_pos c1, if_neg c2] at e
      exact (((h.conn f _ hf' hf c1).mono mono).trans edge).trans ((h.conn _ g hg hg' e).mono mono)
    · rw [if_neg c1, if_pos c2] at e
      exact (((h.conn f _ hf' hg e).mono mono).trans (edge.symm Adj.symm)).trans ((h.conn _ g hf hg' c2.symm).mono mono)
    · rw [if_neg c1, if_neg c2] at e
      exact (h.conn f g hf' hg' e).mono mono
theorem Frs.all {L E : List Int} (h : Frs n J L E) (sk : Skin n J) (done : ∀ k : Int, 0 ≤ k → k < (2 * n : Nat) → L.getD (smAt n J k).1 0 = L.getD (oth J (smAt n J k)).1 0) : ∀ f, f < n → L.getD f 0 = L.getD 0 0 := by
  have side : ∀ p : Sd, p.1 < n → p.2 < 4 → L.getD p.1 0 = L.getD (oth J p).1 0 := by
    have one : ∀ p : Sd, p ∈ sms n J → L.getD p.1 0 = L.getD (oth J p).1 0 := fun p hp => by
      obtain ⟨k, hk, e⟩ := List.mem_iff_getElem.mp hp
      have e2 : smAt n J (k : Nat) = p := by
        unfold smAt
        rw [Int.toNat_natCast, List.getD_eq_getElem?_getD, List.getElem?_eq_getElem hk, e]
        rfl
      have := done (k : Nat) (by omega) (by rw [sk.sms_length] at hk; omega)
      rw [e2] at this
      exact this
    intro p h1 h2
    by_cases c : pI p < pI (oth J p)
    · exact one p (mem_sms.mpr ⟨⟨h1, h2⟩, c⟩)
    · obtain ⟨r1, r2⟩ := sk.rng _ _ h1 h2
      have inv : oth J (oth J p) = p := sk.inv _ _ h1 h2
      have ne := sk.ne _ _ h1 h2
      have : oth J p ∈ sms n J := mem_sms.mpr ⟨⟨r1, r2⟩, by
        show pI (oth J p) < pI (oth J (oth J p))
        rw [inv]
        rw [pI_lt] at c ⊢
        have : ¬ ((oth J p).1 = p.1 ∧ (oth J p).2 = p.2) := fun ⟨z1, z2⟩ => ne (Prod.ext z1 z2)
        omega⟩
      have q := one _ this
      rw [inv] at q
      exact q.symm
  exact sk.con (fun f => L.getD f 0 = L.getD 0 0) rfl fun f i hf hi h => (side (f, i) hf hi).symm.trans h
theorem Bes.back {Pt : Nat → Pl} {p : Sd} (h : Bes Pt J p) (ht : ∀ f, 0 ≤ (Pt f).t ∧ (Pt f).t < 4) (h2 : p.2 < 4) (h3 : (oth J p).2 < 4) : nxt (Pt (oth J p).1) (oth J p).2 p.2 = Pt p.1 := by
  unfold Bes at h
  rw [← h]
  exact nxt_back (ht _) (by omega) (by omega)
end
end Ve
namespace Ve
open PySem PySem.Spec L2
def Gi (g : Nat → D) (ks : List Nat) : List (D × D) := ks.map fun k => (D.int (k : Nat), g k)
theorem look_Gi (g : Nat → D) : ∀ (ks : List Nat) (a : Nat), look (Gi g ks) (.int (a : Nat)) = if a ∈ ks then some (g a) else none
  | [], a => rfl
  | c :: cs, a => by
    show (if D.same (.int (c : Nat)) (.int (a : Nat)) = true then some (g c) else look (Gi g cs) (.int (a : Nat))) = _
    rw [look_Gi g cs a]
    by_cases h : c = a
    · subst h
      rw [if_pos (same_iff.mpr rfl), if_pos List.mem_cons_self]
    · have hn : ¬ D.same (.int (c : Nat)) (.int (a : Nat)) = true := fun z => h (by have := D.int.inj (same_iff.mp z); omega)
      rw [if_neg hn]
      by_cases h2 : a ∈ cs
      · rw [if_pos h2, if_pos (List.mem_cons_of_mem _ h2)]
      · rw [if_neg h2, if_neg (fun z => by
          rcases List.mem_cons.mp z with z | z
          · exact h z.symm
          · exact h2 z)]
theorem dKind_Gi (g : Nat → D) (ks : List Nat) (a : Nat) : dKind (Gi g ks) (.int (a : Nat)) = true := by
  cases ks <;> rfl
theorem putD_Gi (g : Nat → D) : ∀ (ks : List Nat) (a : Nat), a ∉ ks → putD (Gi g ks) (.int (a : Nat)) (g a) = Gi g (ks ++ [a])
  | [], a, _ => rfl
  | c :: cs, a, h => by
    show (if D.same (.int (c : Nat)) (.int (a : Nat)) = true then _ else (D.int (c : Nat), g c) :: putD (Gi g cs) (.int (a : Nat)) (g a)) = _
    have hn : ¬ D.same (.int (c : Nat)) (.int (a : Nat)) = true := fun z => h (by have := D.int.inj (same_iff.mp z); rw [show a = c by omega]; exact List.mem_cons_self)
    rw [if_neg hn, putD_Gi g cs a fun z => h (List.mem_cons_of_mem _ z)]
    rfl
section
variable {hp : Hd} {q a : Nat} {g : Nat → D} {ks : List Nat}
theorem inB_Gi (h : hp[q]? = some (.dic (Gi g ks))) : inB (.int (a : Nat)) (.ref q) hp = some (decide (a ∈ ks)) := by
  show (match hp[q]? with
      | some (.lst ys) => inL hp (.int (a : Nat)) ys
      | some o => match dicOf o with
        | some kvs => if dKind kvs (.int (a : Nat)) = true then some (look kvs (.int (a : Nat))).isSome else none
        | none => none
      | none => none) = _
  rw [h]
  show (if dKind (Gi g ks) (.int (a : Nat)) = true then some (look (Gi g ks) (.int (a : Nat))).isSome else none) = _
  rw [if_pos (dKind_Gi g ks a), look_Gi]
  by_cases h2 : a ∈ ks
  · rw [if_pos h2, decide_eq_true h2]
    rfl
  · rw [if_neg h2, decide_eq_false h2]
    rfl
theorem gNotIn_Gi (h : hp[q]? = some (.dic (Gi g ks))) : gNotIn (.int (a : Nat)) (.ref q) hp = some (.bl (!decide (a ∈ ks)), hp) := by
  unfold gNotIn
  rw [inB_Gi h]
theorem gSet_Gi (h : hp[q]? = some (.dic (Gi g ks))) (hn : a ∉ ks) (hl : ks.length < 1000) : gSet (.ref q) (.int (a : Nat)) (g a) hp = some (hp.set q (.dic (Gi g (ks ++ [a])))) := by
  unfold gSet
  dsimp only
  rw [h]
  dsimp only
  have hz : (Gi g ks).length < sizeLine := by
    unfold Gi
    rw [List.length_map, sizeLine_eq]
    omega
  rw [dKind_Gi, decide_eq_true hz, Bool.and_self, if_pos rfl, putD_Gi g ks a hn]
end
end Ve
namespace Ve
open PySem PySem.Spec L2
end Ve
namespace Ve
open PySem PySem.Spec L2
section
variable {n : Nat} {J : Nat → Nat → Sd} {E : List Int}
def stp (n : Nat) (J : Nat → Nat → Sd) (K : List Nat) (k : Int) : List Nat :=
  if (smAt n J k).1 ∈ K ∧ (oth J (smAt n J k)).1 ∉ K then K ++ [(oth J (smAt n J k)).1] else if (oth J (smAt n J k)).1 ∈ K ∧ (smAt n J k).1 ∉ K then K ++ [(smAt n J k).1] else K
theorem stp_sub (K : List Nat) (k : Int) : ∀ f ∈ K, f ∈ stp n J K k := fun f hf => by
  unfold stp
  split
  · exact List.mem_append_left _ hf
  · split
    · exact List.mem_append_left _ hf
    · exact hf
theorem stp_nodup {K : List Nat} (k : Int) (h : K.Nodup) : (stp n J K k).Nodup := by
  unfold stp
  split
  · rename_i c
    exact List.nodup_append.mpr ⟨h, by simp, fun a ha b hb e => c.2 (by rw [← List.mem_singleton.mp hb, ← e]; exact ha)⟩
  · split
    · rename_i c
      exact List.nodup_append.mpr ⟨h, by simp, fun a ha b hb e => c.2 (by rw [← List.mem_singleton.mp hb, ← e]; exact ha)⟩
    · exact h
theorem stp_lt (sk : Skin n J) {K : List Nat} {k : Int} (hk : 0 ≤ k ∧ k < (2 * n : Nat)) (h : ∀ f ∈ K, f < n) : ∀ f ∈ stp n J K k, f < n := fun f hf => by
  obtain ⟨a, _, b, _⟩ := sk.sm hk
  unfold stp at hf
  split at hf
  · rcases List.mem_append.mp hf with z | z
    · exact h f z
    · rw [List.mem_singleton.mp z]; exact b
  · split at hf
    · rcases List.mem_append.mp hf with z | z
      · exact h f z
      · rw [List.mem_singleton.mp z]; exact a
    · exact h f hf
structure Met (n : Nat) (f0 : Nat) (K : List Nat) : Prop where
  nd : K.Nodup
  lt : ∀ f ∈ K, f < n
  has : f0 ∈ K
theorem Met.stp (sk : Skin n J) {f0 : Nat} {K : List Nat} {k : Int} (hk : 0 ≤ k ∧ k < (2 * n : Nat)) (h : Met n f0 K) : Met n f0 (stp n J K k) := ⟨stp_nodup k h.nd, stp_lt sk hk h.lt, stp_sub K k f0 h.has⟩
theorem Met.fold (sk : Skin n J) {f0 : Nat} : ∀ (E : List Int) (K : List Nat), Inb n E → Met n f0 K → Met n f0 (E.foldl (Ve.stp n J) K)
  | [], K, _, h => h
  | k :: E, K, hi, h => Met.fold sk E _ (fun z hz => hi z (List.mem_cons_of_mem _ hz)) (h.stp sk (hi k List.mem_cons_self))
theorem Met.len {f0 : Nat} {K : List Nat} (h : Met n f0 K) : K.length ≤ n := by
  have := nodup_len h.nd (m := List.range n) fun f hf => List.mem_range.mpr (h.lt f hf)
  rwa [List.length_range] at this
def tb1 (n : Nat) (J : Nat → Nat → Sd) (k : Int) (f : Nat) : List Nat := (if (smAt n J k).1 = f then [(smAt n J k).2] else []) ++ (if (oth J (smAt n J k)).1 = f then [(oth J (smAt n J k)).2] else [])
def tbl (n : Nat) (J : Nat → Nat → Sd) (E : List Int) (f : Nat) : List Nat := E.flatMap fun k => tb1 n J k f
end
end Ve
set_option maxHeartbeats 1000000
namespace L2
open PySem PySem.Spec PyProof.Rows
end L2
namespace Ve
open PySem PySem.Spec L2
end Ve
namespace Ve
open PySem PySem.Spec L2
def prsTo (fs : List Nat) (j : Nat) : List Sd := (List.range j).flatMap fun i => (fs.drop (i + 1)).map fun b => (fs.getD i 0, b)
def prs (fs : List Nat) : List Sd := prsTo fs fs.length
end Ve
namespace Ve
open PySem PySem.Spec L2
end Ve
namespace Ve
open PySem PySem.Spec L2
open PySem.W (Tup Datum DatumOrd listLt minOf minD_map)
structure Tot {α : Type} (lt : α → α → Bool) : Prop where
  irr : ∀ a, lt a a = false
  tra : ∀ a b c, lt a b = true → lt b c = true → lt a c = true
  tri : ∀ a b, lt a b = false → lt b a = false → a = b
theorem Tot.int : Tot (DatumOrd.lt : Int → Int → Bool) :=
  ⟨fun a => decide_eq_false (Int.lt_irrefl a), fun a b c h1 h2 => decide_eq_true (Int.lt_trans (of_decide_eq_true h1) (of_decide_eq_true h2)), fun a b h1 h2 => by
    have h1 := of_decide_eq_false h1
    have h2 := of_decide_eq_false h2
    omega⟩
section
variable {α : Type} [DecidableEq α] [DatumOrd α]
theorem Tot.list (h : Tot (DatumOrd.lt : α → α → Bool)) : Tot (listLt : List α → List α → Bool) := by
  refine ⟨fun a => ?_, ?_, ?_⟩
  · induction a with
    | nil => rfl
    | cons x xs ih => rw [listLt, if_pos rfl, ih]
  · intro a
    induction a with
    | nil =>
      intro b c h1 h2
      cases b with
      | nil => cases h1
      | cons y ys => cases c with
        | nil => cases h2
        | cons z zs => rfl
    | cons x xs ih =>
      intro b c h1 h2
      cases b with
      | nil => cases h1
      | cons y ys => cases c with
        | nil => cases h2
        | cons z zs =>
          rw [listLt] at h1 h2 ⊢
          by_cases e1 : x = y
          · rw [if_pos e1] at h1
            by_cases e2 : y = z
            · rw [if_pos e2] at h2
              rw [if_pos (e1.trans e2)]
              exact ih _ _ h1 h2
            · rw [if_neg e2] at h2
              rw [if_neg (by rw [e1]; exact e2), e1]
              exact h2
          · rw [if_neg e1] at h1
            by_cases e2 : y = z
            · rw [if_neg (by rw [← e2]; exact e1), ← e2]
              exact h1
            · rw [if_neg e2] at h2
              have q := h.tra _ _ _ h1 h2
              rw [if_neg (fun e => by rw [e, h.irr] at q; cases q)]
              exact q
  · intro a
    induction a with
    | nil =>
      intro b h1 h2
      cases b with
      | nil => rfl
      | cons y ys => cases h1
    | cons x xs ih =>
      intro b h1 h2
      cases b with
      | nil => cases h2
      | cons y ys =>
        rw [listLt] at h1 h2
        by_cases e : x = y
        · rw [if_pos e] at h1
          rw [if_pos e.symm] at h2
          rw [e, ih _ h1 h2]
        · rw [if_neg e] at h1
          rw [if_neg (fun z => e z.symm)] at h2
          exact absurd (h.tri _ _ h1 h2) e
theorem Tot.tup (h : Tot (DatumOrd.lt : α → α → Bool)) : Tot (DatumOrd.lt : Tup α → Tup α → Bool) := by
  have l := h.list
  refine ⟨fun a => l.irr a.items, fun a b c h1 h2 => l.tra _ _ _ h1 h2, fun a b h1 h2 => ?_⟩
  have := l.tri _ _ h1 h2
  cases a
  cases b
  exact congrArg Tup.mk this
end
abbrev T2 := Tup (Tup Int)
def toT2 (b : List (List Int)) : T2 := ⟨b.map fun a => ⟨a⟩⟩
theorem toD_T2 (b : List (List Int)) : Datum.toD (toT2 b) = PyData.tuple (b.map fun a => PyData.tuple (a.map PyData.int)) := by
  show PyData.tuple ((b.map fun a => (⟨a⟩ : Tup Int)).map Datum.toD) = _
  rw [List.map_map]
  rfl
theorem pyF_TT {hp : Hd} {n : Nat} (b : List (List Int)) : pyF hp (n + 3) (TT b) = some (Datum.toD (toT2 b)) := by
  rw [toD_T2]
  show (mapO (pyF hp (n + 2)) (b.map T)).map PyData.tuple = _
  rw [mapO_T]
  rfl
end Ve
namespace Ve
open PySem PySem.Spec L2
def Two (cs : List (List Int)) : Prop := ∀ c ∈ cs, ∃ x y : Int, c = [x, y]
def sub2 (a b : Int) (c : List Int) : List Int := [c.getD 0 0 - a, c.getD 1 0 - b]
def hm (cs : List (List Int)) : List (List Int) := sortC (cs.map (sub2 (mnC cs 0) (mnC cs 1)))
theorem two_sub {cs : List (List Int)} (a b : Int) : Two (cs.map (sub2 a b)) := fun c hc => by
  obtain ⟨d, _, rfl⟩ := List.mem_map.mp hc
  exact ⟨_, _, rfl⟩
theorem two_hm {cs : List (List Int)} : Two (hm cs) := fun c hc => two_sub _ _ c ((sortC_perm _).mem_iff.mp hc)
theorem hm_ne {cs : List (List Int)} (h : cs ≠ []) : hm cs ≠ [] := fun e => by
  have := (sortC_perm (cs.map (sub2 (mnC cs 0) (mnC cs 1)))).length_eq
  unfold hm at e
  rw [e, List.length_map] at this
  exact h (List.length_eq_zero_iff.mp this.symm)
theorem hm_len (cs : List (List Int)) : (hm cs).length = cs.length := by
  unfold hm
  rw [(sortC_perm _).length_eq, List.length_map]
theorem mnC_sub {cs : List (List Int)} (hne : cs ≠ []) (a b : Int) : mnC (cs.map (sub2 a b)) 0 = mnC cs 0 - a ∧ mnC (cs.map (sub2 a b)) 1 = mnC cs 1 - b := by
  have key : ∀ (i : Nat) (s : Int), (∀ c : List Int, (sub2 a b c).getD i 0 = c.getD i 0 - s) → mnC (cs.map (sub2 a b)) i = mnC cs i - s := fun i s hs => by
    obtain ⟨⟨l, hl, e⟩, h2⟩ := mnC_is hne i
    refine mnC_eq ⟨_, List.mem_map.mpr ⟨l, hl, rfl⟩, ?_⟩ fun m hm => ?_
    · rw [hs, e]
    · obtain ⟨m0, hm0, rfl⟩ := List.mem_map.mp hm
      have := h2 m0 hm0
      rw [hs]
      omega
  exact ⟨key 0 a fun c => rfl, key 1 b fun c => rfl⟩
end Ve
namespace L2
open PySem PySem.Spec PyProof.Rows
end L2
namespace Ve
open PySem PySem.Spec L2
end Ve
namespace Ve
open PySem PySem.Spec L2
theorem srtS_nodup (L : List Int) : (srtS L).Nodup := lt_nodup srtS_lt
theorem getD_mem' {L : List Int} {a : Nat} (h : a < L.length) : L.getD a 0 ∈ L := by
  rw [List.getD_eq_getElem?_getD, List.getElem?_eq_getElem h]
  exact List.getElem_mem h
theorem srtS_range (n : Nat) : (srtS ((List.range n).map fun k : Nat => (k : Int))).length = n := by
  have nd : ((List.range n).map fun k : Nat => (k : Int)).Nodup := by
    show List.Pairwise (· ≠ ·) _
    rw [List.pairwise_map]
    exact (List.pairwise_lt_range (n := n)).imp fun h => by omega
  rw [nodup_len_eq (srtS_nodup _) nd fun k => mem_srtS, List.length_map, List.length_range]
theorem srtS_one {L : List Int} {n : Nat} (hl : L.length = n) (hn : 0 < n) (h : ∀ f, f < n → L.getD f 0 = L.getD 0 0) : (srtS L).length = 1 := by
  have := nodup_len_eq (srtS_nodup L) (show [L.getD 0 0].Nodup by simp) fun k => by
    rw [mem_srtS, List.mem_singleton]
    constructor
    · intro hk
      obtain ⟨j, hj, e⟩ := List.mem_iff_getElem.mp hk
      rw [← e, ← h j (by omega), List.getD_eq_getElem?_getD, List.getElem?_eq_getElem hj]
      rfl
    · rintro rfl
      exact getD_mem' (by omega)
  exact this
section
variable {n : Nat} {J : Nat → Nat → Sd} {E : List Int}
theorem joinG_at {L : List Int} {a b f : Nat} (h : f < L.length) : (joinG L a b).getD f 0 = if L.getD f 0 = max (L.getD a 0) (L.getD b 0) then min (L.getD a 0) (L.getD b 0) else L.getD f 0 := by
  have e1 : (joinG L a b).getD f 0 = ((joinG L a b)[f]?).getD 0 := List.getD_eq_getElem?_getD
  have e2 : L.getD f 0 = L[f] := by rw [List.getD_eq_getElem?_getD, List.getElem?_eq_getElem h]; rfl
  rw [e1, e2]
  unfold joinG
  rw [List.getElem?_map, List.getElem?_eq_getElem h]
  rfl
structure Gps (n : Nat) (J : Nat → Nat → Sd) (ks L : List Int) : Prop where
  len : L.length = n
  pos : ∀ f, f < n → 0 ≤ L.getD f 0
  zero : L.getD 0 0 = 0
  same : ∀ k ∈ ks, L.getD (smAt n J k).1 0 = L.getD (oth J (smAt n J k)).1 0
theorem Gps.put (sk : Skin n J) {ks L : List Int} {k : Int} (hks : Inb n ks) (hk : 0 ≤ k ∧ k < (2 * n : Nat)) (h : Gps n J ks L) : Gps n J (ks ++ [k]) (grpS n J L k) := by
  obtain ⟨s1, _, s3, _⟩ := sk.sm hk
  have pa := h.pos _ s1
  have pb := h.pos _ s3
  have l0 := sk.pos
  have at_ : ∀ f, f < n → (grpS n J L k).getD f 0 = if L.getD f 0 = max (L.getD (smAt n J k).1 0) (L.getD (oth J (smAt n J k)).1 0) then min (L.getD (smAt n J k).1 0) (L.getD (oth J (smAt n J k)).1 0) else L.getD f 0 := fun f hf => joinG_at (by rw [h.len]; exact hf)
  refine ⟨(joinG_len _ _ _).trans h.len, fun f hf => ?_, ?_, fun k' hk' => ?_⟩
  · rw [at_ f hf]
    have := h.pos f hf
    split <;> omega
  · rw [at_ 0 l0, h.zero]
    split <;> omega
  · rcases List.mem_append.mp hk' with z | z
    · obtain ⟨t1, _, t3, _⟩ := sk.sm (hks k' z)
      rw [at_ _ t1, at_ _ t3, h.same k' z]
    · rw [List.mem_singleton.mp z, at_ _ s1, at_ _ s3]
      split <;> split <;> omega
end
end Ve
set_option maxHeartbeats 1000000
namespace PySem
end PySem
namespace L2
open PySem PySem.Spec PyProof.Rows PySem.W
end L2
namespace Ve
open PySem PySem.Spec L2
end Ve
set_option maxHeartbeats 1000000
namespace Ve
open PySem PySem.Spec L2 PyProof.Rows
end Ve
namespace Ve
open PySem PySem.Spec L2
open PySem.W (Tup Datum DatumOrd listLt)
theorem pyF_T2 {hp : Hd} {n : Nat} (a : List Int) : pyF hp (n + 2) (T a) = some (.tuple (a.map PyData.int)) := by
  have := mapO_T (hp := hp) (n := n) [a]
  rw [List.map_cons, List.map_nil, mapO] at this
  cases e : pyF hp (n + 2) (T a) with
  | none =>
    rw [e] at this
    cases this
  | some p =>
    rw [e] at this
    simp only [mapO] at this
    cases this
    rfl
theorem gLIdx_T {cs : List (List Int)} {a : List Int} (ha : a ∈ cs) : ∃ j : Nat, cs[j]? = some a ∧ ∀ (hp : Hd) (n : Nat), hp[n]? = some (.lst (cs.map T)) → gLIdx (.ref n) [T a] hp = some (.int (j : Nat), hp) := by
  have hx : ∃ j, idxP (.tuple (a.map PyData.int)) (cs.map fun b => .tuple (b.map PyData.int)) = some j := by
    cases e : idxP (.tuple (a.map PyData.int)) (cs.map fun b => .tuple (b.map PyData.int)) with
    | some j => exact ⟨j, rfl⟩
    | none =>
      unfold idxP at e
      rw [List.findIdx?_eq_none_iff] at e
      have := e _ (List.mem_map.mpr ⟨a, ha, rfl⟩)
      rw [eqv_T, beq_self_eq_true] at this
      cases this
  obtain ⟨j, hj⟩ := hx
  obtain ⟨z, hz, he, _⟩ := idxP_some hj
  rw [List.getElem?_map] at hz
  cases ec : cs[j]? with
  | none =>
    rw [ec] at hz
    cases hz
  | some b =>
    rw [ec] at hz
    cases hz
    rw [eqv_T, beq_iff_eq] at he
    refine ⟨j, by rw [ec, he], fun hp n h => ?_⟩
    unfold gLIdx
    dsimp only
    rw [h]
    dsimp only
    unfold idxD
    rw [pyF_T2 (n := 14), mapO_T (n := 13)]
    dsimp only
    rw [shaped_T, shaped_Ts, if_pos (by rfl), hj]
    rfl
end Ve
namespace Ve
open PySem PySem.Spec L2
def rel (u v : Int) (L : List Int) : List Int := L.map fun z => if z = u then v else z
theorem rel_len (u v : Int) (L : List Int) : (rel u v L).length = L.length := by unfold rel; rw [List.length_map]
theorem rel_self (u : Int) (L : List Int) : rel u u L = L := by
  unfold rel
  have : (fun z : Int => if z = u then u else z) = id := by
    funext z
    by_cases h : z = u
    · rw [if_pos h, h]; rfl
    · rw [if_neg h]; rfl
  rw [this, List.map_id]
theorem rel_at {u v : Int} {L : List Int} {f : Nat} (h : f < L.length) : (rel u v L).getD f 0 = if L.getD f 0 = u then v else L.getD f 0 := by
  have e2 : L.getD f 0 = L[f] := by rw [List.getD_eq_getElem?_getD, List.getElem?_eq_getElem h]; rfl
  rw [e2, List.getD_eq_getElem?_getD]
  unfold rel
  rw [List.getElem?_map, List.getElem?_eq_getElem h]
  rfl
theorem count_rel_v {u v : Int} (h : u ≠ v) : ∀ L : List Int, (rel u v L).count v = L.count u + L.count v
  | [] => rfl
  | z :: L => by
    have ih := count_rel_v h L
    unfold rel at ih ⊢
    rw [List.map_cons, List.count_cons, List.count_cons, List.count_cons, ih]
    by_cases c : z = u
    · subst c
      have : (z == v) = false := by simpa using h
      simp [this]
      omega
    · by_cases c2 : z = v
      · subst c2
        have : (z == u) = false := by simpa using c
        simp [c, this]
        omega
      · have h1 : (z == u) = false := by simpa using c
        have h2 : (z == v) = false := by simpa using c2
        simp [c, h1, h2]
theorem count_rel_o {u v w : Int} (h1 : w ≠ u) (h2 : w ≠ v) : ∀ L : List Int, (rel u v L).count w = L.count w
  | [] => rfl
  | z :: L => by
    have ih := count_rel_o h1 h2 L
    unfold rel at ih ⊢
    rw [List.map_cons, List.count_cons, List.count_cons, ih]
    by_cases c : z = u
    · subst c
      have a1 : (v == w) = false := by simpa using Ne.symm h2
      have a2 : (z == w) = false := by simpa using Ne.symm h1
      simp [a1, a2]
    · simp [c]
theorem mem_rel {u v w : Int} {L : List Int} (h : u ≠ v) (hu : u ∈ L) : w ∈ rel u v L ↔ w ≠ u ∧ (w ∈ L ∨ w = v) := by
  unfold rel
  rw [List.mem_map]
  constructor
  · rintro ⟨z, hz, e⟩
    by_cases c : z = u
    · rw [if_pos c] at e
      rw [← e]
      exact ⟨h.symm, .inr rfl⟩
    · rw [if_neg c] at e
      rw [← e]
      exact ⟨c, .inl hz⟩
  · rintro ⟨h1, h2 | h2⟩
    · exact ⟨w, h2, if_neg h1⟩
    · exact ⟨u, hu, by rw [if_pos rfl, h2]⟩
theorem srtS_rel {u v : Int} {L : List Int} (h : u ≠ v) (hu : u ∈ L) (hv : v ∈ L) : (srtS (rel u v L)).length + 1 = (srtS L).length := by
  have ma : u ∈ srtS L := mem_srtS.mpr hu
  have e := nodup_len_eq (srtS_nodup (rel u v L)) ((srtS_nodup L).erase u) fun k => by
    rw [mem_srtS, (srtS_nodup L).mem_erase_iff, mem_srtS, mem_rel h hu]
    constructor
    · rintro ⟨h1, h2 | h2⟩
      · exact ⟨h1, h2⟩
      · rw [h2]; exact ⟨h.symm, hv⟩
    · rintro ⟨h1, h2⟩
      exact ⟨h1, .inl h2⟩
  rw [e, List.length_erase_of_mem ma]
  have := List.length_pos_of_mem ma
  omega
section
variable {n : Nat} {J : Nat → Nat → Sd}
theorem manyB_app (ks : List Int) (k : Int) (L : List Int) (w : Int) : manyB n J (ks ++ [k]) L w = manyB n J ks L w + (if L.getD (smAt n J k).1 0 = w then 1 else 0) := by
  unfold manyB
  rw [List.filter_append, List.length_append]
  congr 1
  by_cases c : L.getD (smAt n J k).1 0 = w
  · rw [if_pos c, List.filter_cons_of_pos (by simpa using c)]; rfl
  · rw [if_neg c, List.filter_cons_of_neg (by simpa using c)]; rfl
theorem manyB_rel_v {u v : Int} (h : u ≠ v) {L : List Int} : ∀ ks : List Int, (∀ k ∈ ks, (smAt n J k).1 < L.length) → manyB n J ks (rel u v L) v = manyB n J ks L u + manyB n J ks L v
  | [], _ => rfl
  | k :: ks, hk => by
    have ih := manyB_rel_v h ks fun z hz => hk z (List.mem_cons_of_mem _ hz)
    unfold manyB at ih ⊢
    have hl := hk k List.mem_cons_self
    rw [List.filter_cons, List.filter_cons, List.filter_cons, rel_at hl]
    by_cases c : L.getD (smAt n J k).1 0 = u
    · have c2 : ¬ L.getD (smAt n J k).1 0 = v := fun z => h (c.symm.trans z)
      rw [if_pos c]
      simp only [beq_self_eq_true, if_true, beq_iff_eq]
      rw [if_pos c, if_neg c2, List.length_cons, List.length_cons, ih]
      omega
    · rw [if_neg c]
      simp only [beq_iff_eq]
      rw [if_neg c]
      by_cases c2 : L.getD (smAt n J k).1 0 = v
      · rw [if_pos c2, if_pos c2, List.length_cons, List.length_cons, ih]; omega
      · rw [if_neg c2, if_neg c2, ih]
theorem manyB_rel_o {u v w : Int} (h1 : w ≠ u) (h2 : w ≠ v) {L : List Int} (ks : List Int) (hk : ∀ k ∈ ks, (smAt n J k).1 < L.length) : manyB n J ks (rel u v L) w = manyB n J ks L w := by
  unfold manyB
  congr 1
  refine List.filter_congr fun k hkm => ?_
  rw [rel_at (hk k hkm)]
  by_cases c : L.getD (smAt n J k).1 0 = u
  · rw [if_pos c, c]
    have a1 : (v == w) = false := by simpa using Ne.symm h2
    have a2 : (u == w) = false := by simpa using Ne.symm h1
    rw [a1, a2]
  · rw [if_neg c]
structure Fo (n : Nat) (J : Nat → Nat → Sd) (ks L : List Int) : Prop where
  len : L.length = n
  inb : Inb n ks
  same : ∀ k ∈ ks, L.getD (smAt n J k).1 0 = L.getD (oth J (smAt n J k)).1 0
  conn : ∀ f g, f < n → g < n → L.getD f 0 = L.getD g 0 → Cn (Adj n J ks) f g
  cnt : ∀ v ∈ L, L.count v ≤ manyB n J ks L v + 1
  pot : ∃ Pt : Nat → Pl, (∀ f, 0 ≤ (Pt f).t ∧ (Pt f).t < 4) ∧ ∀ k ∈ ks, manyB n J ks L (L.getD (smAt n J k).1 0) < L.count (L.getD (smAt n J k).1 0) → Bes Pt J (smAt n J k)
  exc : n < ks.length + (srtS L).length ↔ ∃ v ∈ L, L.count v ≤ manyB n J ks L v
  le : n ≤ ks.length + (srtS L).length
theorem range_at0 {n f : Nat} (hf : f < n) : ((List.range n).map fun k : Nat => (k : Int)).getD f 0 = (f : Int) := by
  rw [List.getD_eq_getElem?_getD, List.getElem?_map, List.getElem?_range hf]
  rfl
theorem Fo.start (n : Nat) (J : Nat → Nat → Sd) : Fo n J [] ((List.range n).map fun k : Nat => (k : Int)) := by
  have nd : ((List.range n).map fun k : Nat => (k : Int)).Nodup := by
    show List.Pairwise (· ≠ ·) _
    rw [List.pairwise_map]
    exact (List.pairwise_lt_range (n := n)).imp fun h => by omega
  refine ⟨by rw [List.length_map, List.length_range], (fun k h => absurd h List.not_mem_nil), (fun k h => absurd h List.not_mem_nil), fun f g hf hg h => ?_, fun v hv => ?_, ⟨fun _ => ⟨0, 0, 0⟩, (fun _ => (by decide : (0 : Int) ≤ 0 ∧ (0 : Int) < 4)), (fun k h => absurd h List.not_mem_nil)⟩, ?_, ?_⟩
  · rw [range_at0 hf, range_at0 hg] at h
    have : f = g := by omega
    rw [this]
    exact .refl
  · have := List.nodup_iff_count.mp nd v
    omega
  · rw [srtS_range]
    constructor
    · intro h
      simp at h
    · rintro ⟨v, hv, h⟩
      have := List.count_pos_iff.mpr hv
      have h0 : manyB n J [] ((List.range n).map fun k : Nat => (k : Int)) v = 0 := rfl
      omega
  · rw [srtS_range]; simp
theorem Fo.put {ks L : List Int} (h : Fo n J ks L) (sk : Skin n J) {k : Int} (hk : 0 ≤ k ∧ k < (2 * n : Nat)) {u v : Int} (huv : (u = L.getD (smAt n J k).1 0 ∧ v = L.getD (oth J (smAt n J k)).1 0) ∨ (u = L.getD (oth J (smAt n J k)).1 0 ∧ v = L.getD (smAt n J k).1 0)) :
    Fo n J (ks ++ [k]) (rel u v L) := by
  obtain ⟨hf, hi, hg, hj⟩ := sk.sm hk
  have hlt : ∀ e ∈ ks, (smAt n J e).1 < L.length := fun e he => by rw [h.len]; exact (sk.sm (h.inb e he)).1
  have inb' : Inb n (ks ++ [k]) := fun e he => by
    rcases List.mem_append.mp he with z | z
    · exact h.inb e z
    · rw [List.mem_singleton.mp z]; exact hk
  have mono : ∀ x y, Adj n J ks x y → Adj n J (ks ++ [k]) x y := fun x y ⟨e, he, q⟩ => ⟨e, List.mem_append_left _ he, q⟩
  have edge : Cn (Adj n J (ks ++ [k])) (smAt n J k).1 (oth J (smAt n J k)).1 := .step .refl ⟨k, by simp, .inl ⟨rfl, rfl⟩⟩
  have mf : L.getD (smAt n J k).1 0 ∈ L := getD_mem' (by rw [h.len]; exact hf)
  have mg : L.getD (oth J (smAt n J k)).1 0 ∈ L := getD_mem' (by rw [h.len]; exact hg)
  obtain ⟨Pt, ht, hb⟩ := h.pot
  by_cases hne : L.getD (smAt n J k).1 0 = L.getD (oth J (smAt n J k)).1 0
  · have euv : u = v := by rcases huv with ⟨rfl, rfl⟩ | ⟨rfl, rfl⟩ <;> first | exact hne | exact hne.symm
    rw [euv, rel_self]
    have same' : ∀ e ∈ ks ++ [k], L.getD (smAt n J e).1 0 = L.getD (oth J (smAt n J e)).1 0 := fun e he => by
      rcases List.mem_append.mp he with z | z
      · exact h.same e z
      · rw [List.mem_singleton.mp z]; exact hne
    refine ⟨h.len, inb', same', fun f g a b e => (h.conn f g a b e).mono mono, fun w hw => ?_, ⟨Pt, ht, fun e he hm => ?_⟩, ?_, ?_⟩
    · rw [manyB_app]
      have := h.cnt w hw
      omega
    · rw [manyB_app] at hm
      rcases List.mem_append.mp he with z | z
      · by_cases c : L.getD (smAt n J k).1 0 = L.getD (smAt n J e).1 0
        · rw [if_pos c] at hm
          have := h.cnt _ (getD_mem' (hlt e z))
          omega
        · rw [if_neg c] at hm
          exact hb e z hm
      · rw [List.mem_singleton.mp z, if_pos rfl] at hm
        have := h.cnt _ mf
        omega
    · rw [List.length_append, List.length_singleton]
      have := h.le
      refine ⟨fun _ => ⟨_, mf, ?_⟩, fun _ => by omega⟩
      rw [manyB_app, if_pos rfl]
      exact h.cnt _ mf
    · rw [List.length_append, List.length_singleton]
      have := h.le
      omega
  · have une : u ≠ v := by rcases huv with ⟨rfl, rfl⟩ | ⟨rfl, rfl⟩ <;> first | exact hne | exact fun z => hne z.symm
    have hu : u ∈ L := by rcases huv with ⟨rfl, rfl⟩ | ⟨rfl, rfl⟩ <;> assumption
    have hv : v ∈ L := by rcases huv with ⟨rfl, rfl⟩ | ⟨rfl, rfl⟩ <;> assumption
    have at_ : ∀ a, a < n → (rel u v L).getD a 0 = if L.getD a 0 = u then v else L.getD a 0 := fun a ha => rel_at (by rw [h.len]; exact ha)
    have fu : (rel u v L).getD (smAt n J k).1 0 = v := by
      rw [at_ _ hf]
      rcases huv with ⟨a, b⟩ | ⟨a, b⟩
      · rw [if_pos a.symm]
      · rw [← b, if_neg (fun z => une z.symm)]
    have gu : (rel u v L).getD (oth J (smAt n J k)).1 0 = v := by
      rw [at_ _ hg]
      rcases huv with ⟨a, b⟩ | ⟨a, b⟩
      · rw [← b, if_neg (fun z => une z.symm)]
      · rw [if_pos a.symm]
    have ends : ∀ e ∈ ks, (smAt n J e).1 < n ∧ (oth J (smAt n J e)).1 < n := fun e he => let ⟨a, _, b, _⟩ := sk.sm (h.inb e he); ⟨a, b⟩
    have cv := count_rel_v une L
    have mv : manyB n J (ks ++ [k]) (rel u v L) v = manyB n J ks L u + manyB n J ks L v + 1 := by
      rw [manyB_app, fu, if_pos rfl, manyB_rel_v une ks hlt]
    have mo' : ∀ w, w ≠ u → w ≠ v → manyB n J (ks ++ [k]) (rel u v L) w = manyB n J ks L w := fun w h1 h2 => by
      rw [manyB_app, fu, if_neg (fun z => h2 z.symm), manyB_rel_o h1 h2 ks hlt]
      rfl
    have cu := h.cnt u hu
    have cv0 := h.cnt v hv
    obtain ⟨r, a, b, hr, em⟩ := mo_to (ht (smAt n J k).1) (nxt_t (Pt (oth J (smAt n J k)).1) (oth J (smAt n J k)).2 (smAt n J k).2)
    refine ⟨(rel_len _ _ _).trans h.len, inb', fun e he => ?_, fun f g hf' hg' e => ?_, fun w hw => ?_, ⟨fun f => if L.getD f 0 = L.getD (smAt n J k).1 0 then mo r a b (Pt f) else Pt f, fun f => ?_, fun e he hm => ?_⟩, ?_, ?_⟩
    · rcases List.mem_append.mp he with z | z
      · obtain ⟨e1, e2⟩ := ends e z
        rw [at_ _ e1, at_ _ e2, h.same e z]
      · rw [List.mem_singleton.mp z, fu, gu]
    · rw [at_ f hf', at_ g hg'] at e
      have key : ∀ x, x < n → L.getD x 0 = u ∨ L.getD x 0 = v → Cn (Adj n J (ks ++ [k])) x (smAt n J k).1 := fun x hx hxx => by
        have : L.getD x 0 = L.getD (smAt n J k).1 0 ∨ L.getD x 0 = L.getD (oth J (smAt n J k)).1 0 := by
          rcases huv with ⟨p, q⟩ | ⟨p, q⟩ <;> rcases hxx with w | w
          · exact .inl (w.trans p)
          · exact .inr (w.trans q)
          · exact .inr (w.trans p)
          · exact .inl (w.trans q)
        rcases this with w | w
        · exact (h.conn x _ hx hf w).mono mono
        · exact ((h.conn x _ hx hg w).mono mono).trans (edge.symm Adj.symm)
      by_cases c1 : L.getD f 0 = u <;> by_cases c2 : L.getD g 0 = u
      · exact (h.conn f g hf' hg' (c1.trans c2.symm)).mono mono
      · rw [if_pos c1, if_neg c2] at e
        exact (key f hf' (.inl c1)).trans ((key g hg' (.inr e.symm)).symm Adj.symm)
      · rw [if_neg c1, if_pos c2] at e
        exact (key f hf' (.inr e)).trans ((key g hg' (.inl c2)).symm Adj.symm)
      · rw [if_neg c1, if_neg c2] at e
        exact (h.conn f g hf' hg' e).mono mono
    · obtain ⟨w1, w2⟩ := (mem_rel une hu).mp hw
      by_cases c : w = v
      · rw [c, cv, mv]; omega
      · rw [count_rel_o w1 c, mo' w w1 c]
        exact h.cnt w (w2.resolve_right c)
    · dsimp only
      split
      · exact mo_t (ht f)
      · exact ht f
    · rcases List.mem_append.mp he with z | z
      · obtain ⟨e1, e2⟩ := ends e z
        have q : Bes Pt J (smAt n J e) := by
          refine hb e z ?_
          rw [at_ _ e1] at hm
          by_cases c1 : L.getD (smAt n J e).1 0 = u
          · rw [if_pos c1, cv, mv] at hm
            rw [c1]; omega
          · rw [if_neg c1] at hm
            by_cases c2 : L.getD (smAt n J e).1 0 = v
            · rw [c2, cv, mv] at hm
              rw [c2]; omega
            · rw [count_rel_o c1 c2, mo' _ c1 c2] at hm
              exact hm
        have s := h.same e z
        unfold Bes at q ⊢
        dsimp only
        by_cases c : L.getD (smAt n J e).1 0 = L.getD (smAt n J k).1 0
        · rw [if_pos c, if_pos (s.symm.trans c), nxt_mo hr, q]
        · rw [if_neg c, if_neg (fun z => c (s.trans z)), q]
      · rw [List.mem_singleton.mp z]
        unfold Bes
        dsimp only
        rw [if_pos rfl, if_neg (fun z => hne z.symm), em]
        exact nxt_back (ht _) (by omega) (by omega)
    · have sl := srtS_rel une hu hv
      rw [List.length_append, List.length_singleton]
      have e0 : (n < ks.length + 1 + (srtS (rel u v L)).length) ↔ n < ks.length + (srtS L).length := by omega
      rw [e0, h.exc]
      constructor
      · rintro ⟨w, hw, hc⟩
        by_cases c1 : w = u ∨ w = v
        · refine ⟨v, (mem_rel une hu).mpr ⟨une.symm, .inr rfl⟩, ?_⟩
          rw [cv, mv]
          rcases c1 with rfl | rfl <;> omega
        · have c2 : w ≠ u := fun z => c1 (.inl z)
          have c3 : w ≠ v := fun z => c1 (.inr z)
          exact ⟨w, (mem_rel une hu).mpr ⟨c2, .inl hw⟩, by rw [count_rel_o c2 c3, mo' w c2 c3]; exact hc⟩
      · rintro ⟨w, hw, hc⟩
        obtain ⟨w1, w2⟩ := (mem_rel une hu).mp hw
        by_cases c : w = v
        · rw [c, cv, mv] at hc
          by_cases d : L.count u ≤ manyB n J ks L u
          · exact ⟨u, hu, d⟩
          · exact ⟨v, hv, by omega⟩
        · rw [count_rel_o w1 c, mo' w w1 c] at hc
          exact ⟨w, w2.resolve_right c, hc⟩
    · have sl := srtS_rel une hu hv
      rw [List.length_append, List.length_singleton]
      have := h.le
      omega
theorem Fo.putG {ks L : List Int} (h : Fo n J ks L) (sk : Skin n J) {k : Int} (hk : 0 ≤ k ∧ k < (2 * n : Nat)) : Fo n J (ks ++ [k]) (grpS n J L k) := by
  show Fo n J (ks ++ [k]) (rel (max (L.getD (smAt n J k).1 0) (L.getD (oth J (smAt n J k)).1 0)) (min (L.getD (smAt n J k).1 0) (L.getD (oth J (smAt n J k)).1 0)) L)
  refine h.put sk hk ?_
  by_cases c : L.getD (smAt n J k).1 0 ≤ L.getD (oth J (smAt n J k)).1 0
  · exact .inr ⟨by omega, by omega⟩
  · exact .inl ⟨by omega, by omega⟩
theorem fo_fold (sk : Skin n J) : ∀ (ks ks0 L : List Int), Inb n ks → Fo n J ks0 L → Fo n J (ks0 ++ ks) (ks.foldl (grpS n J) L)
  | [], ks0, L, _, h => by rw [List.append_nil]; exact h
  | k :: ks, ks0, L, hi, h => by
    have := fo_fold sk ks (ks0 ++ [k]) (grpS n J L k) (fun z hz => hi z (List.mem_cons_of_mem _ hz)) (h.putG sk (hi k List.mem_cons_self))
    rw [List.append_assoc] at this
    exact this
def hngS (n : Nat) (J : Nat → Nat → Sd) (L : List Int) (k : Int) : List Int := joinL L (smAt n J k).1 (oth J (smAt n J k)).1
def hngI (n : Nat) (J : Nat → Nat → Sd) (ks : List Int) : List Int := ks.foldl (hngS n J) ((List.range n).map fun k : Nat => (k : Int))
theorem Fo.putL {ks L : List Int} (h : Fo n J ks L) (sk : Skin n J) {k : Int} (hk : 0 ≤ k ∧ k < (2 * n : Nat)) : Fo n J (ks ++ [k]) (hngS n J L k) :=
  h.put sk hk (.inl ⟨rfl, rfl⟩)
theorem fo_foldL (sk : Skin n J) : ∀ (ks ks0 L : List Int), Inb n ks → Fo n J ks0 L → Fo n J (ks0 ++ ks) (ks.foldl (hngS n J) L)
  | [], ks0, L, _, h => by rw [List.append_nil]; exact h
  | k :: ks, ks0, L, hi, h => by
    have := fo_foldL sk ks (ks0 ++ [k]) (hngS n J L k) (fun z hz => hi z (List.mem_cons_of_mem _ hz)) (h.putL sk (hi k List.mem_cons_self))
    rw [List.append_assoc] at this
    exact this
theorem hngI_fo (sk : Skin n J) {ks : List Int} (hi : Inb n ks) : Fo n J ks (hngI n J ks) := fo_foldL sk ks [] _ hi (Fo.start n J)
theorem Fo.lab {ks L : List Int} (h : Fo n J ks L) {f g : Nat} (c : Cn (Adj n J ks) f g) : L.getD f 0 = L.getD g 0 :=
  c.closed (S := fun x => L.getD f 0 = L.getD x 0) rfl fun x y hx ⟨k, hk, q⟩ => by
    have s := h.same k hk
    rcases q with ⟨rfl, rfl⟩ | ⟨rfl, rfl⟩
    · exact hx.trans s
    · exact hx.trans s.symm
theorem Fo.iff {ks L : List Int} (h : Fo n J ks L) {f g : Nat} (hf : f < n) (hg : g < n) : L.getD f 0 = L.getD g 0 ↔ Cn (Adj n J ks) f g := ⟨h.conn f g hf hg, h.lab⟩
end
end Ve
namespace Ve
open PySem PySem.Spec L2
section
variable {n : Nat} {J : Nat → Nat → Sd}
theorem Adj.of_mem {E E' : List Int} (h : ∀ k ∈ E, k ∈ E') : ∀ a b, Adj n J E a b → Adj n J E' a b := fun a b ⟨k, hk, q⟩ => ⟨k, h k hk, q⟩
def Hang (n : Nat) (J : Nat → Nat → Sd) (E : List Int) : Prop := ∀ f, f < n → Cn (Adj n J E) 0 f
theorem Hang.two {E : List Int} (h : Hang n J E) {f g : Nat} (hf : f < n) (hg : g < n) : Cn (Adj n J E) f g := ((h f hf).symm Adj.symm).trans (h g hg)
theorem Hang.mono {E E' : List Int} (h : Hang n J E) (s : ∀ k ∈ E, k ∈ E') : Hang n J E' := fun f hf => (h f hf).mono (Adj.of_mem s)
theorem Fo.one {ks L : List Int} (h : Fo n J ks L) (h0 : 0 < n) (c : Hang n J ks) : (srtS L).length = 1 := srtS_one h.len h0 fun f hf => (h.lab (c f hf)).symm
theorem Fo.hang {ks L : List Int} (h : Fo n J ks L) (h0 : 0 < n) (c : (srtS L).length = 1) : Hang n J ks := fun f hf => by
  refine h.conn 0 f h0 hf ?_
  have m0 := mem_srtS.mpr (getD_mem' (L := L) (a := 0) (by rw [h.len]; exact h0))
  have m1 := mem_srtS.mpr (getD_mem' (L := L) (a := f) (by rw [h.len]; exact hf))
  match hh : srtS L with
  | [] => rw [hh] at m0; cases m0
  | [x] =>
    rw [hh] at m0 m1
    rw [List.mem_singleton.mp m0, List.mem_singleton.mp m1]
  | x :: y :: r => rw [hh] at c; simp at c
theorem fo_mono (sk : Skin n J) : ∀ (r ks L : List Int), Inb n r → Fo n J ks L → n < ks.length + (srtS L).length → n < (ks ++ r).length + (srtS (r.foldl (grpS n J) L)).length
  | [], ks, L, _, _, h => by rw [List.append_nil]; exact h
  | k :: r, ks, L, hi, h, e => by
    have hk := hi k List.mem_cons_self
    have hp := h.putG sk hk
    have ⟨hf, _, hg, _⟩ := sk.sm hk
    have := fo_mono sk r (ks ++ [k]) (grpS n J L k) (fun z hz => hi z (List.mem_cons_of_mem _ hz)) hp (by
      rw [List.length_append, List.length_singleton]
      have mf : L.getD (smAt n J k).1 0 ∈ L := getD_mem' (by rw [h.len]; exact hf)
      have mg : L.getD (oth J (smAt n J k)).1 0 ∈ L := getD_mem' (by rw [h.len]; exact hg)
      by_cases c : L.getD (smAt n J k).1 0 = L.getD (oth J (smAt n J k)).1 0
      · have : grpS n J L k = L := by
          show rel (max (L.getD (smAt n J k).1 0) (L.getD (oth J (smAt n J k)).1 0)) (min (L.getD (smAt n J k).1 0) (L.getD (oth J (smAt n J k)).1 0)) L = L
          rw [show max (L.getD (smAt n J k).1 0) (L.getD (oth J (smAt n J k)).1 0) = min (L.getD (smAt n J k).1 0) (L.getD (oth J (smAt n J k)).1 0) by omega, rel_self]
        rw [this]; omega
      · have : (srtS (grpS n J L k)).length + 1 = (srtS L).length := by
          show (srtS (rel (max (L.getD (smAt n J k).1 0) (L.getD (oth J (smAt n J k)).1 0)) (min (L.getD (smAt n J k).1 0) (L.getD (oth J (smAt n J k)).1 0)) L)).length + 1 = _
          by_cases d : L.getD (smAt n J k).1 0 ≤ L.getD (oth J (smAt n J k)).1 0
          · rw [show max (L.getD (smAt n J k).1 0) (L.getD (oth J (smAt n J k)).1 0) = L.getD (oth J (smAt n J k)).1 0 by omega, show min (L.getD (smAt n J k).1 0) (L.getD (oth J (smAt n J k)).1 0) = L.getD (smAt n J k).1 0 by omega]
            exact srtS_rel (fun z => c z.symm) mg mf
          · rw [show max (L.getD (smAt n J k).1 0) (L.getD (oth J (smAt n J k)).1 0) = L.getD (smAt n J k).1 0 by omega, show min (L.getD (smAt n J k).1 0) (L.getD (oth J (smAt n J k)).1 0) = L.getD (oth J (smAt n J k)).1 0 by omega]
            exact srtS_rel c mf mg
        omega)
    rw [List.append_assoc] at this
    exact this
structure Tr0 (n : Nat) (J : Nat → Nat → Sd) (E : List Int) : Prop where
  nd : E.Nodup
  inb : Inb n E
  len : E.length + 1 = n
  hang : Hang n J E
theorem Tr0.split {E ks : List Int} (t : Tr0 n J E) (nd : ks.Nodup) (h : ∀ k ∈ ks, k ∈ E) : ∃ r, Inb n r ∧ (ks ++ r).length + 1 = n ∧ Hang n J (ks ++ r) ∧ (∀ k, k ∈ ks ++ r ↔ k ∈ E) := by
  have mm : ∀ k, k ∈ ks ++ E.filter (fun k => decide (k ∉ ks)) ↔ k ∈ E := fun k => by
    rw [List.mem_append, List.mem_filter]
    constructor
    · rintro (a | ⟨a, _⟩)
      · exact h k a
      · exact a
    · intro a
      by_cases c : k ∈ ks
      · exact .inl c
      · exact .inr ⟨a, decide_eq_true c⟩
  have nd2 : (ks ++ E.filter (fun k => decide (k ∉ ks))).Nodup := List.nodup_append.mpr ⟨nd, t.nd.filter _, fun a ha b hb e => by
    rw [List.mem_filter] at hb
    exact of_decide_eq_true hb.2 (by rw [← e]; exact ha)⟩
  refine ⟨E.filter (fun k => decide (k ∉ ks)), fun k hk => t.inb k (List.mem_filter.mp hk).1, ?_, t.hang.mono fun k hk => (mm k).mpr hk, mm⟩
  rw [nodup_len_eq nd2 t.nd mm]
  exact t.len
end
end Ve
namespace Ve
open PySem PySem.Spec L2
end Ve
namespace Ve
open PySem PySem.Spec L2
open PySem.W (Tup Datum DatumOrd listLt minOf minD_map)
end Ve
namespace Ve
open PySem PySem.Spec L2
end Ve
namespace Ve
open PySem PySem.Spec L2
end Ve
namespace L2
open PySem PySem.Spec PyProof.Rows
end L2
namespace Ve
open PySem PySem.Spec L2 PyProof.Rows
end Ve
namespace Ve
open PySem PySem.Spec L2
section
variable {n : Nat} {J : Nat → Nat → Sd}
def rst (n j : Nat) : List Int := (List.range (2 * n - j)).map fun i : Nat => ((j + i : Nat) : Int)
theorem mem_rst {j : Nat} {k : Int} : k ∈ rst n j ↔ (j : Int) ≤ k ∧ k < (2 * n : Nat) := by
  unfold rst
  rw [List.mem_map]
  constructor
  · rintro ⟨i, hi, rfl⟩
    have := List.mem_range.mp hi
    omega
  · rintro ⟨h1, h2⟩
    exact ⟨k.toNat - j, List.mem_range.mpr (by omega), by omega⟩
theorem hngI_snoc (S : List Int) (k : Int) : hngI n J (S ++ [k]) = hngS n J (hngI n J S) k := by
  unfold hngI
  rw [List.foldl_append]
  rfl
def ext (n : Nat) (J : Nat → Nat → Sd) (ks cs : List Int) (j : Int) (S : List Int) : List (List Int) :=
  (if j ∈ ks then [] else [S]) ++ (if j ∉ cs ∧ (hngI n J S).getD (smAt n J j).1 0 ≠ (hngI n J S).getD (oth J (smAt n J j)).1 0 then [S ++ [j]] else [])
theorem mem_ext {ks cs : List Int} {j : Int} {S R : List Int} : R ∈ ext n J ks cs j S ↔ (j ∉ ks ∧ R = S) ∨ ((j ∉ cs ∧ (hngI n J S).getD (smAt n J j).1 0 ≠ (hngI n J S).getD (oth J (smAt n J j)).1 0) ∧ R = S ++ [j]) := by
  unfold ext
  rw [List.mem_append]
  constructor
  · rintro (h | h)
    · split at h
      · cases h
      · exact .inl ⟨by assumption, List.mem_singleton.mp h⟩
    · split at h
      · exact .inr ⟨by assumption, List.mem_singleton.mp h⟩
      · cases h
  · rintro (⟨h1, rfl⟩ | ⟨h1, rfl⟩)
    · exact .inl (by rw [if_neg h1]; exact List.mem_singleton_self _)
    · exact .inr (by rw [if_pos h1]; exact List.mem_singleton_self _)
theorem ext_len (ks cs : List Int) (j : Int) (S : List Int) : (ext n J ks cs j S).length ≤ 2 := by
  unfold ext
  rw [List.length_append]
  split <;> split <;> simp
def hangsB (n : Nat) (J : Nat → Nat → Sd) (j : Nat) (S : List Int) : Bool := ((srtS (hngI n J (S ++ rst n j))).length : Int) == 1
structure Trs (n : Nat) (J : Nat → Nat → Sd) (ks cs : List Int) (j : Nat) (F : List (List Int)) : Prop where
  so : ∀ S ∈ F, S.Pairwise (· < ·)
  rg : ∀ S ∈ F, ∀ k ∈ S, 0 ≤ k ∧ k < (j : Nat)
  rf : ∀ S ∈ F, S.length + (srtS (hngI n J S)).length = n
  hk : ∀ S ∈ F, ∀ k ∈ ks, k < (j : Nat) → k ∈ S
  hc : ∀ S ∈ F, ∀ k ∈ cs, k ∉ S
  hg : 0 < j → ∀ S ∈ F, hangsB n J j S = true
  all : ∀ E, Tr0 n J E → E.Pairwise (· < ·) → (∀ k ∈ ks, k ∈ E) → (∀ k ∈ cs, k ∉ E) → E.filter (fun k : Int => decide (k < (j : Nat))) ∈ F
  len : F.length ≤ 2 ^ j
theorem Trs.start (ks cs : List Int) (ik : Inb n ks) : Trs n J ks cs 0 [[]] := by
  refine ⟨fun S h => ?_, fun S h => ?_, fun S h => ?_, fun S h k hk hlt => ?_, fun S h => ?_, fun h => absurd h (by omega), fun E t _ _ _ => ?_, Nat.le_refl _⟩
  · rw [List.mem_singleton.mp h]; exact List.Pairwise.nil
  · rw [List.mem_singleton.mp h]; exact fun k hk => absurd hk List.not_mem_nil
  · rw [List.mem_singleton.mp h]
    show 0 + (srtS ((List.range n).map fun k : Nat => (k : Int))).length = n
    rw [srtS_range]
    omega
  · have := (ik k hk).1
    omega
  · rw [List.mem_singleton.mp h]; exact fun k _ => List.not_mem_nil
  · rw [List.filter_eq_nil_iff.mpr fun k hk => by
      have := (t.inb k hk).1
      rw [decide_eq_true_eq]
      omega]
    exact List.mem_singleton_self _
theorem cut_snoc {E : List Int} (so : E.Pairwise (· < ·)) {j : Nat} (hj : ((j : Nat) : Int) ∈ E) : E.filter (fun k : Int => decide (k < ((j + 1 : Nat) : Int))) = E.filter (fun k : Int => decide (k < (j : Nat))) ++ [(j : Int)] := by
  refine lt_unique (so.filter _) ?_ fun k => ?_
  · refine List.pairwise_append.mpr ⟨so.filter _, List.pairwise_singleton _ _, fun a ha b hb => ?_⟩
    rw [List.mem_filter, decide_eq_true_eq] at ha
    rw [List.mem_singleton.mp hb]
    exact ha.2
  · rw [List.mem_append, List.mem_filter, List.mem_filter, List.mem_singleton, decide_eq_true_eq, decide_eq_true_eq]
    constructor
    · rintro ⟨h1, h2⟩
      by_cases c : k < (j : Nat)
      · exact .inl ⟨h1, c⟩
      · exact .inr (by omega)
    · rintro (⟨h1, h2⟩ | rfl)
      · exact ⟨h1, by omega⟩
      · exact ⟨hj, by omega⟩
theorem cut_same {E : List Int} {j : Nat} (hj : ((j : Nat) : Int) ∉ E) : E.filter (fun k : Int => decide (k < ((j + 1 : Nat) : Int))) = E.filter (fun k : Int => decide (k < (j : Nat))) := List.filter_congr fun k hk => by
  refine decide_eq_decide.mpr ⟨fun h => ?_, fun h => by omega⟩
  have : k ≠ (j : Nat) := fun e => hj (by rw [← e]; exact hk)
  omega
theorem part_apart (sk : Skin n J) {E S : List Int} {k : Int} (t : Tr0 n J E) (nd : (S ++ [k]).Nodup) (h : ∀ z ∈ S ++ [k], z ∈ E) (rf : S.length + (srtS (hngI n J S)).length = n) : (hngI n J S).getD (smAt n J k).1 0 ≠ (hngI n J S).getD (oth J (smAt n J k)).1 0 := fun e => by
  obtain ⟨r, ir, lr, hr, mr⟩ := t.split nd h
  have hS : Inb n (S ++ [k]) := fun z hz => t.inb z (h z hz)
  have f0 := hngI_fo sk hS
  have same : hngI n J (S ++ [k]) = hngI n J S := by
    rw [hngI_snoc]
    show rel ((hngI n J S).getD (smAt n J k).1 0) ((hngI n J S).getD (oth J (smAt n J k)).1 0) (hngI n J S) = _
    rw [e, rel_self]
  have x : n < (S ++ [k]).length + (srtS (hngI n J (S ++ [k]))).length := by rw [same, List.length_append, List.length_singleton]; omega
  have y := fo_mono sk r (S ++ [k]) (hngI n J (S ++ [k])) ir f0 x
  have z := fo_fold sk r (S ++ [k]) (hngI n J (S ++ [k])) ir f0
  rw [z.one sk.pos hr] at y
  omega
theorem hangsB_of (sk : Skin n J) {j : Nat} {S : List Int} (hS : Inb n S) (hh : Hang n J (S ++ rst n j)) : hangsB n J j S = true := by
  have f := hngI_fo sk (ks := S ++ rst n j) (fun k hk => by
    rcases List.mem_append.mp hk with z | z
    · exact hS k z
    · have := mem_rst.mp z
      omega)
  unfold hangsB
  rw [f.one sk.pos hh]
  rfl
theorem Trs.step (sk : Skin n J) {ks cs : List Int} {j : Nat} (hj : j < 2 * n) {F : List (List Int)} (h : Trs n J ks cs j F) :
    Trs n J ks cs (j + 1) ((F.flatMap (ext n J ks cs (j : Int))).filter (hangsB n J (j + 1))) := by
  have hjI : 0 ≤ ((j : Nat) : Int) ∧ ((j : Nat) : Int) < (2 * n : Nat) := by omega
  have key : ∀ R ∈ (F.flatMap (ext n J ks cs (j : Int))).filter (hangsB n J (j + 1)), ∃ S ∈ F, hangsB n J (j + 1) R = true ∧ (((j : Int) ∉ ks ∧ R = S) ∨ (((j : Int) ∉ cs ∧ (hngI n J S).getD (smAt n J (j : Int)).1 0 ≠ (hngI n J S).getD (oth J (smAt n J (j : Int))).1 0) ∧ R = S ++ [(j : Int)])) := fun R hR => by
    obtain ⟨h1, h2⟩ := List.mem_filter.mp hR
    obtain ⟨S, hS, hx⟩ := List.mem_flatMap.mp h1
    exact ⟨S, hS, h2, mem_ext.mp hx⟩
  refine ⟨fun R hR => ?_, fun R hR k hk => ?_, fun R hR => ?_, fun R hR k hk hlt => ?_, fun R hR k hk => ?_, fun _ R hR => ?_, fun E t so hk hc => ?_, ?_⟩
  · obtain ⟨S, hS, _, ⟨_, rfl⟩ | ⟨_, rfl⟩⟩ := key R hR
    · exact h.so _ hS
    · refine List.pairwise_append.mpr ⟨h.so S hS, List.pairwise_singleton _ _, fun a ha b hb => ?_⟩
      rw [List.mem_singleton.mp hb]
      exact (h.rg S hS a ha).2
  · obtain ⟨S, hS, _, ⟨_, rfl⟩ | ⟨_, rfl⟩⟩ := key R hR
    · have := h.rg _ hS k hk
      omega
    · rcases List.mem_append.mp hk with z | z
      · have := h.rg S hS k z
        omega
      · rw [List.mem_singleton.mp z]
        omega
  · obtain ⟨S, hS, _, ⟨_, rfl⟩ | ⟨⟨_, hne⟩, rfl⟩⟩ := key R hR
    · exact h.rf _ hS
    · have hSi : Inb n S := fun k hk => by
        have := h.rg S hS k hk
        omega
      have f0 := hngI_fo sk hSi
      obtain ⟨s1, _, s3, _⟩ := sk.sm hjI
      have := srtS_rel (u := (hngI n J S).getD (smAt n J (j : Int)).1 0) (v := (hngI n J S).getD (oth J (smAt n J (j : Int))).1 0) hne (getD_mem' (by rw [f0.len]; exact s1)) (getD_mem' (by rw [f0.len]; exact s3))
      have rf := h.rf S hS
      rw [hngI_snoc, List.length_append, List.length_singleton]
      show S.length + 1 + (srtS (rel _ _ (hngI n J S))).length = n
      omega
  · obtain ⟨S, hS, _, ⟨hn, rfl⟩ | ⟨_, rfl⟩⟩ := key R hR
    · by_cases c : k = (j : Nat)
      · exact absurd (by rw [← c]; exact hk) hn
      · exact h.hk _ hS k hk (by omega)
    · by_cases c : k = (j : Nat)
      · rw [c]; exact List.mem_append_right _ (List.mem_singleton_self _)
      · exact List.mem_append_left _ (h.hk S hS k hk (by omega))
  · obtain ⟨S, hS, _, ⟨_, rfl⟩ | ⟨⟨hn, _⟩, rfl⟩⟩ := key R hR
    · exact h.hc _ hS k hk
    · intro z
      rcases List.mem_append.mp z with w | w
      · exact h.hc S hS k hk w
      · rw [List.mem_singleton.mp w] at hk
        exact hn hk
  · exact (List.mem_filter.mp hR).2
  · have m0 := h.all E t so hk hc
    have hang : ∀ R : List Int, (∀ z ∈ E, z < ((j + 1 : Nat) : Int) → z ∈ R) → (∀ z ∈ R, z ∈ E) → hangsB n J (j + 1) R = true := fun R hR hR2 => by
      refine hangsB_of sk (fun k hk => t.inb k (hR2 k hk)) (t.hang.mono fun k hk => ?_)
      by_cases c : k < ((j + 1 : Nat) : Int)
      · exact List.mem_append_left _ (hR k hk c)
      · exact List.mem_append_right _ (mem_rst.mpr ⟨by omega, (t.inb k hk).2⟩)
    have mem1 : ∀ z ∈ E.filter (fun k : Int => decide (k < ((j + 1 : Nat) : Int))), z ∈ E := fun z hz => (List.mem_filter.mp hz).1
    have mem2 : ∀ z ∈ E, z < ((j + 1 : Nat) : Int) → z ∈ E.filter (fun k : Int => decide (k < ((j + 1 : Nat) : Int))) := fun z hz hlt => List.mem_filter.mpr ⟨hz, decide_eq_true hlt⟩
    have hh := hang _ mem2 mem1
    by_cases c : ((j : Nat) : Int) ∈ E
    · rw [cut_snoc so c] at hh mem1 ⊢
      refine List.mem_filter.mpr ⟨List.mem_flatMap.mpr ⟨_, m0, mem_ext.mpr (.inr ⟨⟨fun z => hc _ z c, ?_⟩, rfl⟩)⟩, hh⟩
      refine part_apart sk t ?_ mem1 (h.rf _ m0)
      rw [← cut_snoc so c]
      exact (so.filter _).imp fun h => by omega
    · rw [cut_same c] at hh ⊢
      exact List.mem_filter.mpr ⟨List.mem_flatMap.mpr ⟨_, m0, mem_ext.mpr (.inl ⟨fun z => c (hk _ z), rfl⟩)⟩, hh⟩
  · have l1 := List.length_filter_le (hangsB n J (j + 1)) (F.flatMap (ext n J ks cs (j : Int)))
    have l2 : ∀ G : List (List Int), (G.flatMap (ext n J ks cs (j : Int))).length ≤ 2 * G.length := by
      intro G
      induction G with
      | nil => exact Nat.le_refl _
      | cons S G ih =>
        have := ext_len (n := n) (J := J) ks cs (j : Int) S
        rw [List.flatMap_cons, List.length_append, List.length_cons]
        omega
    have := l2 F
    have := h.len
    rw [Nat.pow_succ]
    omega
end
end Ve
namespace Ve
open PySem PySem.Spec L2
def gNeS (x y : D) (hp : Hd) : Option (D × Hd) := match x, y with
  | .str a, .str b => some (.bl (!decide (V.str a = V.str b)), hp)
  | _, _ => none
def gEqS (x y : D) (hp : Hd) : Option (D × Hd) := match x, y with
  | .str a, .str b => some (.bl (decide (V.str a = V.str b)), hp)
  | _, _ => none
section
variable {X : Cx}
theorem o_neS : OpR X (compareOp .NotEq) (RD X.K gNeS) := fun pins s σ H x y v u Q I rx ry ⟨hp, μ, d1, d2, d, hp', rh, r1, r2, e, q⟩ => by
  unfold gNeS at e
  split at e
  · rename_i a b
    cases e
    have h1 := r1.strE
    have h2 := r2.strE
    subst h1 h2
    exact op_ne pins s σ H _ _ v u Q I rx ry ⟨rfl, q _ H μ Ext.refl rh Rp.bl⟩
  · cases e
theorem o_eqS : OpR X (compareOp .Eq) (RD X.K gEqS) := fun pins s σ H x y v u Q I rx ry ⟨hp, μ, d1, d2, d, hp', rh, r1, r2, e, q⟩ => by
  unfold gEqS at e
  split at e
  · rename_i a b
    cases e
    have h1 := r1.strE
    have h2 := r2.strE
    subst h1 h2
    exact op_eq pins s σ H _ _ v u Q I rx ry ⟨rfl, q _ H μ Ext.refl rh Rp.bl⟩
  · cases e
end
theorem gNeS_self (a : Str) (hp : Hd) : gNeS (.str a) (.str a) hp = some (.bl false, hp) := by
  unfold gNeS
  dsimp only
  rw [decide_eq_true rfl]
  rfl
structure Shw (n w : Nat) (p : PyData) : Prop where
  lay : p.canLay0 = true
  sh : p.showable = true
  nd : p.hasDict = false
  dep : p.depth ≤ n
  wt : p.weight ≤ w
  ish : p.intsShort 13 = true
theorem Shw.int {i : Int} (h : i.natAbs < 10 ^ 12) : Shw 0 64 (.int i) := by
  have hl : i.natAbs.log2 < 40 := by
    by_cases z : i.natAbs = 0
    · rw [z]; decide
    · exact (Nat.log2_lt z).mpr (Nat.lt_of_lt_of_le h (by decide))
  refine ⟨rfl, ?_, rfl, Nat.le_refl _, ?_, ?_⟩
  · show decide (i.natAbs.log2 < 1920) = true
    exact decide_eq_true (by omega)
  · show (if i == 0 then 0 else i.natAbs.log2 + 1) ≤ 64
    split <;> omega
  · show decide ((PyData.shown (.int i)).length ≤ 13) = true
    have := int_text_length_le10 (a := i) (k := 12) (by decide) h
    refine decide_eq_true ?_
    rw [PyData.shown, ofString_length]
    exact this
theorem Shw.tup {n w : Nat} {xs : List PyData} (h : ∀ x ∈ xs, Shw n w x) : Shw (n + 1) (xs.length * (w + 1)) (.tuple xs) := by
  have key : ∀ ys : List PyData, (∀ y ∈ ys, Shw n w y) → PyData.canLayAll0 ys = true ∧ PyData.showableAll ys = true ∧ PyData.hasDictAll ys = false ∧ PyData.depthAll ys ≤ n ∧ PyData.weightAll ys ≤ ys.length * (w + 1) ∧ PyData.intsShortAll 13 ys = true := by
    intro ys
    induction ys with
    | nil => exact fun _ => ⟨rfl, rfl, rfl, Nat.zero_le _, Nat.zero_le _, rfl⟩
    | cons y r ih =>
      intro hy
      obtain ⟨h1, h2, h3, h4, h5, h6⟩ := ih fun z hz => hy z (List.mem_cons_of_mem _ hz)
      have a := hy y List.mem_cons_self
      refine ⟨?_, ?_, ?_, ?_, ?_, ?_⟩
      · rw [PyData.canLayAll0, a.lay, h1]; rfl
      · rw [PyData.showableAll, a.sh, h2]; rfl
      · rw [PyData.hasDictAll, a.nd, h3]; rfl
      · have := a.dep
        rw [PyData.depthAll]
        omega
      · have := a.wt
        rw [PyData.weightAll, List.length_cons, Nat.add_mul, Nat.one_mul]
        omega
      · rw [PyData.intsShortAll, a.ish, h6]; rfl
  obtain ⟨h1, h2, h3, h4, h5, h6⟩ := key xs h
  refine ⟨by rw [PyData.canLay0]; exact h1, by rw [PyData.showable]; exact h2, by rw [PyData.hasDict]; exact h3, ?_, by rw [PyData.weight]; exact h5, by rw [PyData.intsShort]; exact h6⟩
  rw [PyData.depth]
  omega
theorem Shw.ok {n w : Nat} {p : PyData} (h : Shw n w p) (hn : n ≤ 40) (hw : w ≤ 1000000) : reprOk p = true := by
  have hl : p.layable0 = true := by
    unfold PyData.layable0
    rw [h.lay, decide_eq_true (by have := h.dep; omega), decide_eq_true (Nat.le_trans h.wt (Nat.le_trans hw (by decide)))]
    rfl
  have hs := PyData.shown_le_of_layable0 hl h.ish
  unfold reprOk
  rw [h.sh, h.nd, decide_eq_true (by have := h.dep; omega), decide_eq_true (by rw [sizeLine_eq]; omega)]
  rfl
end Ve
namespace L2
open PySem PySem.Spec PyProof.Rows
section
variable {X : Cx} {es : List Expr} {t : TA} {pos : Pos}
def tyW (K : PySem.W.Frag) (x : V) (H : Hp) : Prop := ∃ p, x = .ref p ∧ ((∃ o xs, o.dict = none ∧ H p = some (.frz o (.tup xs))) ∨ ∃ o, K.lookup p = some o ∧ o.cls = .type "tuple" ∧ o.dict = none)
theorem tyW_is {pins : List (Addr × Obj)} {σ : St} {H : Hp} {s : Shared} {x : V} {v : Value} (I : Inv X pins σ H s) (r : RelV x v) (ty : tyW X.K x H) :
    s.TypeIs v "tuple" ∧ ∀ a, v = .ref a → ∃ ob, s.heap.get? a = some ob ∧ ob.dict = none := by
  obtain ⟨p, rfl, ty⟩ := ty
  cases r
  rcases ty with ⟨o, xs, hd, hk⟩ | ⟨o, hk, hc, hd⟩
  · obtain ⟨e, _, its, _, tp⟩ := I.hok p _ hk
    refine ⟨tp.typeIs, fun a e2 => ?_⟩
    cases e2
    exact ⟨o, e, hd⟩
  · refine ⟨⟨o, I.kIn p o hk, hc⟩, fun a e => ?_⟩
    cases e
    exact ⟨o, I.kIn _ o hk, hd⟩
def tBMW (K : PySem.W.Frag) (r : V → List V → Hp → VK → Prop) (to : TE) (t : TA) : TE := fun σ H Q => to σ H fun x H1 => tyW K x H1 ∧ t σ H1 fun xs H2 => r x xs H2 Q
variable {o e : Expr} {to : TE} {name : Str} {apos cpos : Pos} {id : String} {r : V → List V → Hp → VK → Prop}
theorem pe_bmW (slot : Slot "tuple" name id) (hty : typeOf (.builtin id) = pure (.type "method_descriptor")) (hm : MtR X id r) (ho : PE X o to) (ha : PA X (e :: es) t)
    (hbase : attributeBase o name X.env (eval o X.env) = eval o X.env := by rfl)
    (hfew : ((backTo cpos (starEach (e :: es) X.env)).all (fun x => !x.1) && (backToKw cpos (keywordEach [] X.env)).all (fun x => x.1.isSome)
      && decide ((e :: es).length + ([] : List Keyword).length + (if ([] : List Keyword).isEmpty then 0 else 1) < 30)) = true := by rfl)
    (hline : (apos.endLine == cpos.line) = true := by rfl) (hs : starEach (e :: es) X.env = (false, eval e X.env) :: starEach es X.env := by rfl) (hplain : (backTo cpos (starEach es X.env)).any (·.1) = false := by rfl) :
    PE X (.Call (.Attribute o name apos) (e :: es) [] cpos) (tBMW X.K r to t) := by
  refine ⟨fun pins s σ H Q I h => ?_⟩
  refine wpAny_Call_method_late hbase hfew hline rfl (thn (ho.run pins s σ H _ I h) fun v s1 ⟨x, H1, I1, r1, ty, q1⟩ => ?_)
  obtain ⟨h1, h2⟩ := tyW_is I1 r1 ty
  refine ⟨"tuple", id, PySem.F.plainAttrs_tuple, slot, hty, h1, h2, ?_⟩
  have hA := ha.run cpos pins s1 σ H1 _ I1 q1
  rw [hs] at hA ⊢
  refine Calls.callWith_builtin (by show (false || (backTo cpos (starEach es X.env)).any (·.1)) = false; rw [hplain] <;> rfl) (Calls.evalArgs_plain ?_)
  exact thn hA fun us s2 ⟨vs, H2, I2, r2, q2⟩ => hm pins s2 σ H2 x vs v us Q I2 r1 r2 q2
end
end L2
namespace Ve
open PySem PySem.Spec L2
section
variable {X : Cx} {e : Expr} {es : List Expr} {fr : AA} {pos : Pos}
def isW : D → Hd → Bool
  | .wt _, _ => true
  | _, _ => false
theorem isW_ty {K : PySem.W.Frag} {H : Hp} {μ : List Addr} {hp : Hd} {d : D} {v : V} (r : Rp K H μ d v) (h : isW d hp = true) : tyW K v H := by
  cases d <;> try (cases h; done)
  rename_i ds
  obtain ⟨a, vs, rfl, t, _⟩ := r.wtE
  rcases t with ⟨o, hd, e⟩ | ⟨o, its, n, h1, h2, h3, _⟩
  · exact ⟨a, rfl, .inl ⟨o, vs, hd, e⟩⟩
  · exact ⟨a, rfl, .inr ⟨o, h1, h2, h3⟩⟩
theorem de_wm {name : Str} {id : String} {o : Expr} {fo : AE} {apos cpos : Pos} {g : D → List D → Hd → Option (D × Hd)} (slot : Slot "tuple" name id) (hty : typeOf (.builtin id) = pure (.type "method_descriptor")) (hm : MtR X id (RM X.K g)) (ho : DE X o fo) (ha : DA X (e :: es) fr)
    (hbase : attributeBase o name X.env (eval o X.env) = eval o X.env := by rfl)
    (hfew : ((backTo cpos (starEach (e :: es) X.env)).all (fun x => !x.1) && (backToKw cpos (keywordEach [] X.env)).all (fun x => x.1.isSome)
      && decide ((e :: es).length + ([] : List Keyword).length + (if ([] : List Keyword).isEmpty then 0 else 1) < 30)) = true := by rfl)
    (hline : (apos.endLine == cpos.line) = true := by rfl) (hs : starEach (e :: es) X.env = (false, eval e X.env) :: starEach es X.env := by rfl) (hplain : (backTo cpos (starEach es X.env)).any (·.1) = false := by rfl) :
    DE X (.Call (.Attribute o name apos) (e :: es) [] cpos) (mMet isW fo fr g) :=
  PE.imp (pe_bmW slot hty hm ho ha hbase hfew hline hs hplain) fun σ H Q ⟨ls, hp, μ, d, hp', rl, rh, e, q⟩ => by
    unfold mMet at e
    split at e
    · rename_i x hp1 e1
      split at e
      · rename_i hck
        split at e
        · rename_i ds hp2 e2
          exact ⟨ls, hp, μ, x, hp1, rl, rh, e1, fun v1 H1 μ1 x1 rh1 r1 => ⟨isW_ty r1 hck, ls, hp1, μ1, ds, hp2, rl.ext x1, rh1, e2, fun vs H2 μ2 x2 rh2 r2 =>
            ⟨hp2, μ2, x, ds, d, hp', rh2, r1.ext x2, r2, e, fun v H3 μ3 x3 rh3 r3 => q v H3 μ3 ((x1.trans x2).trans x3) rh3 r3⟩⟩⟩
        · cases e
      · cases e
    · cases e
end
end Ve
namespace Ve
open PySem PySem.Spec L2
def tw (w : Bool) (ds : List D) : D := match w with
  | true => .wt ds
  | false => .tup ds
section
variable {w : Bool} {ds : List D} {hp : Hd}
theorem gLen_tw : gLen [tw w ds] hp = some (.int ds.length, hp) := by cases w <;> rfl
theorem gIsi_tw : gIsi "tuple" [tw w ds] hp = some (.bl true, hp) := by cases w <;> rfl
theorem gIx_tw {d : D} {j : Nat} (e : ds[j]? = some d) : gIx (tw w ds) (.int (j : Nat)) hp = some (d, hp) := by
  have := atI_nat (xs := ds) e
  cases w
  · show (match atI ds (j : Nat) with | some d => some (d, hp) | none => none) = _
    rw [this]
  · show (match atI ds (j : Nat) with | some d => some (d, hp) | none => none) = _
    rw [this]
theorem tupOf_tw : tupOf (tw w ds) = some ds := by cases w <;> rfl
theorem mIS_tw {fa : AE} {ls : Ls} {hp' : Hd} (e : fa ls hp = some (tw w ds, hp')) : mIS fa ls hp = some (ds, [], hp') := by
  unfold mIS
  rw [e]
  cases w <;> rfl
theorem nr_tw (h : nrs ds = true) : nr (tw w ds) = true := by cases w <;> exact h
end
theorem idxD_T {hp : Hd} {cs : List (List Int)} {a : List Int} (ha : a ∈ cs) : idxD hp (T a) (cs.map T) = some (cs.idxOf a) := by
  have f2 : mapO (pyF hp 15) (cs.map T) = some (cs.map fun b => PyData.tuple (b.map PyData.int)) := mapO_T (n := 13) cs
  have f1 : pyF hp 16 (T a) = some (.tuple (a.map PyData.int)) := pyF_T (n := 14) a
  have e : ∀ cs : List (List Int), a ∈ cs → idxP (.tuple (a.map PyData.int)) (cs.map fun b => PyData.tuple (b.map PyData.int)) = some (cs.idxOf a) := by
    intro cs
    induction cs with
    | nil => intro h; cases h
    | cons b cs ih =>
      intro h
      unfold idxP at ih ⊢
      rw [List.map_cons, List.findIdx?_cons, eqv_T]
      by_cases z : b = a
      · subst z
        rw [beq_self_eq_true]
        simp [List.idxOf_cons]
      · have zb : (b == a) = false := by simpa using z
        rw [zb, ih (by rcases List.mem_cons.mp h with h | h; exact absurd h.symm z; exact h), List.idxOf_cons, zb]
        rfl
  unfold idxD
  rw [f1, f2]
  dsimp only
  rw [shaped_T, show SeqAt.shaped (.list (cs.map fun b => PyData.tuple (b.map PyData.int))) = true from shaped_Ts cs, e cs ha]
  rfl
theorem gTIdx_tw {hp : Hd} {w : Bool} {cs : List (List Int)} {a : List Int} (ha : a ∈ cs) : gTIdx (tw w (cs.map T)) [T a] hp = some (.int (cs.idxOf a : Nat), hp) := by
  unfold gTIdx
  rw [tupOf_tw]
  dsimp only
  rw [idxD_T ha]
  rfl
theorem idxOf_at {α : Type} [BEq α] [LawfulBEq α] {cs : List α} {a : α} (h : a ∈ cs) : cs[cs.idxOf a]? = some a := by
  rw [List.getElem?_eq_getElem (List.idxOf_lt_length_of_mem h), List.getElem_idxOf]
theorem idxOf_eq {α : Type} [BEq α] [LawfulBEq α] {cs : List α} {a : α} {j : Nat} (nd : cs.Nodup) (h : cs[j]? = some a) : cs.idxOf a = j := by
  obtain ⟨hj, e⟩ := List.getElem?_eq_some_iff.mp h
  have hm : a ∈ cs := by rw [← e]; exact List.getElem_mem hj
  have h2 := idxOf_at hm
  obtain ⟨hk, e2⟩ := List.getElem?_eq_some_iff.mp h2
  exact (List.getElem_inj nd).mp (e2.trans e.symm)
def SSt : List (List Int) := [[1, 0], [0, 1], [-1, 0], [0, -1]]
def dif (a b : List Int) : List Int := [b.getD 0 0 - a.getD 0 0, b.getD 1 0 - a.getD 1 0]
def twK (a b : List Int) : Nat := SSt.idxOf (dif a b)
def adK (a : List Int) (k : Nat) : List Int := [a.getD 0 0 + (SSt.getD k []).getD 0 0, a.getD 1 0 + (SSt.getD k []).getD 1 0]
def Sbs (a b : List Int) : Prop := dif a b ∈ SSt
instance (a b : List Int) : Decidable (Sbs a b) := inferInstanceAs (Decidable (_ ∈ _))
theorem four_nat {k : Nat} (h : k < 4) : k = 0 ∨ k = 1 ∨ k = 2 ∨ k = 3 := by omega
theorem mem_SSt {x y : Int} : [x, y] ∈ SSt ↔ (x = 1 ∧ y = 0) ∨ (x = 0 ∧ y = 1) ∨ (x = -1 ∧ y = 0) ∨ (x = 0 ∧ y = -1) := by
  unfold SSt
  simp
theorem twK_lt {a b : List Int} (h : Sbs a b) : twK a b < 4 := List.idxOf_lt_length_of_mem h
theorem twK_adK {a : List Int} {k : Nat} (hk : k < 4) : Sbs a (adK a k) ∧ twK a (adK a k) = k := by
  have e : dif a (adK a k) = SSt.getD k [] := by
    unfold dif adK
    rcases four_nat hk with rfl | rfl | rfl | rfl <;> simp [SSt] <;> omega
  unfold Sbs twK
  rw [e]
  rcases four_nat hk with rfl | rfl | rfl | rfl <;> decide
theorem Sbs.symm {a b : List Int} (h : Sbs a b) : Sbs b a := by
  unfold Sbs dif at *
  rw [mem_SSt] at *
  omega
theorem twK_back {a b : List Int} (h : Sbs a b) : twK b a = (twK a b + 2) % 4 := by
  unfold Sbs dif at h
  unfold twK dif
  rw [mem_SSt] at h
  rcases h with ⟨h1, h2⟩ | ⟨h1, h2⟩ | ⟨h1, h2⟩ | ⟨h1, h2⟩
  · rw [h1, h2, show a.getD 0 0 - b.getD 0 0 = -1 by omega, show a.getD 1 0 - b.getD 1 0 = 0 by omega]
    decide
  · rw [h1, h2, show a.getD 0 0 - b.getD 0 0 = 0 by omega, show a.getD 1 0 - b.getD 1 0 = -1 by omega]
    decide
  · rw [h1, h2, show a.getD 0 0 - b.getD 0 0 = 1 by omega, show a.getD 1 0 - b.getD 1 0 = 0 by omega]
    decide
  · rw [h1, h2, show a.getD 0 0 - b.getD 0 0 = 0 by omega, show a.getD 1 0 - b.getD 1 0 = 1 by omega]
    decide
theorem adK_two (a : List Int) (k : Nat) : ∃ x y : Int, adK a k = [x, y] := ⟨_, _, rfl⟩
def sqA (P : List (List Int)) (i : Nat) : List Int := P.getD i []
def ngb (P : List (List Int)) (J : List Sd) (i : Nat) : List Sd :=
  J.flatMap fun p => (if p.1 = i then [(p.2, twK (sqA P p.1) (sqA P p.2))] else []) ++ if p.2 = i then [(p.1, (twK (sqA P p.1) (sqA P p.2) + 2) % 4)] else []
def JointsOk (P : List (List Int)) (J : List Sd) : Prop := ∀ p ∈ J, (p.1 < p.2 ∧ p.2 < P.length) ∧ Sbs (sqA P p.1) (sqA P p.2)
def CnJ (n : Nat) (J : List Sd) : Prop := ∀ S : Nat → Prop, (∃ i, i < n ∧ S i) → (∀ p ∈ J, S p.1 ↔ S p.2) → ∀ i, i < n → S i
theorem mem_ngb {P : List (List Int)} {J : List Sd} {i : Nat} {q : Sd} : q ∈ ngb P J i ↔ ∃ p ∈ J, (p.1 = i ∧ q = (p.2, twK (sqA P p.1) (sqA P p.2))) ∨ (p.2 = i ∧ q = (p.1, (twK (sqA P p.1) (sqA P p.2) + 2) % 4)) := by
  unfold ngb
  rw [List.mem_flatMap]
  constructor
  · rintro ⟨p, hp, h⟩
    refine ⟨p, hp, ?_⟩
    rcases List.mem_append.mp h with h | h
    · split at h
      · rename_i e; exact .inl ⟨e, List.mem_singleton.mp h⟩
      · cases h
    · split at h
      · rename_i e; exact .inr ⟨e, List.mem_singleton.mp h⟩
      · cases h
  · rintro ⟨p, hp, ⟨e, rfl⟩ | ⟨e, rfl⟩⟩
    · exact ⟨p, hp, List.mem_append_left _ (by rw [if_pos e]; simp)⟩
    · exact ⟨p, hp, List.mem_append_right _ (by rw [if_pos e]; simp)⟩
theorem JointsOk.ngb {P : List (List Int)} {J : List Sd} (h : JointsOk P J) {i : Nat} {q : Sd} (hq : q ∈ Ve.ngb P J i) : i < P.length ∧ q.1 < P.length ∧ i ≠ q.1 ∧ q.2 < 4 ∧ Sbs (sqA P i) (sqA P q.1) ∧ q.2 = twK (sqA P i) (sqA P q.1) := by
  obtain ⟨p, hp, ⟨rfl, rfl⟩ | ⟨rfl, rfl⟩⟩ := mem_ngb.mp hq
  · obtain ⟨⟨h1, h2⟩, h3⟩ := h p hp
    exact ⟨by omega, h2, by dsimp only; omega, twK_lt h3, h3, rfl⟩
  · obtain ⟨⟨h1, h2⟩, h3⟩ := h p hp
    exact ⟨h2, by dsimp only; omega, by dsimp only; omega, by dsimp only; omega, h3.symm, by dsimp only; rw [twK_back h3]⟩
theorem ngb_len (P : List (List Int)) (J : List Sd) (i : Nat) : (ngb P J i).length ≤ 2 * J.length := by
  unfold ngb
  induction J with
  | nil => exact Nat.le_refl _
  | cons p J ih =>
    rw [List.flatMap_cons, List.length_append, List.length_append, List.length_cons]
    have h1 : (if p.1 = i then [(p.2, twK (sqA P p.1) (sqA P p.2))] else ([] : List Sd)).length ≤ 1 := by split <;> simp
    have h2 : (if p.2 = i then [(p.1, (twK (sqA P p.1) (sqA P p.2) + 2) % 4)] else ([] : List Sd)).length ≤ 1 := by split <;> simp
    omega
theorem cnJ_iff {P : List (List Int)} {J : List Sd} {met : List Nat} (h0 : 0 < P.length) (hm : Mt (Rch (fun i => (ngb P J i).map (·.1)) 0) (fun i => (ngb P J i).map (·.1)) met []) (hz : 0 ∈ met) (hin : ∀ a ∈ met, a < P.length) :
    (met.length = P.length) ↔ CnJ P.length J := by
  constructor
  · intro hl S ⟨a, ha, sa⟩ cl i hi
    have all : ∀ i, i < P.length → i ∈ met := fun i hi => by
      rcases Decidable.em (i ∈ met) with q | q
      · exact q
      · have nd2 : (i :: met).Nodup := List.nodup_cons.mpr ⟨q, hm.nd⟩
        have := nodup_len (m := List.range P.length) nd2 fun b hb => List.mem_range.mpr (by
          rcases List.mem_cons.mp hb with z | z
          · rw [z]; exact hi
          · exact hin b z)
        rw [List.length_cons, List.length_range] at this
        omega
    have go : ∀ {b}, Rch (fun i => (ngb P J i).map (·.1)) 0 b → (S b ↔ S 0) := by
      intro b r
      induction r with
      | refl => exact Iff.rfl
      | step _ q ih =>
        obtain ⟨q, hq, rfl⟩ := List.mem_map.mp q
        rw [← ih]
        obtain ⟨p, hp, ⟨rfl, rfl⟩ | ⟨rfl, rfl⟩⟩ := mem_ngb.mp hq
        · exact (cl p hp).symm
        · exact cl p hp
    exact (go (hm.pr i (all i hi))).mpr ((go (hm.pr a (all a ha))).mp sa)
  · intro hc
    have all := hc (fun i => i ∈ met) ⟨0, h0, hz⟩ fun p hp => ⟨fun h => hm.cl p.1 h (by simp) _ (List.mem_map.mpr ⟨_, mem_ngb.mpr ⟨p, hp, .inl ⟨rfl, rfl⟩⟩, rfl⟩), fun h => hm.cl p.2 h (by simp) _ (List.mem_map.mpr ⟨_, mem_ngb.mpr ⟨p, hp, .inr ⟨rfl, rfl⟩⟩, rfl⟩)⟩
    have l1 := nodup_len (l := List.range P.length) (m := met) List.nodup_range fun a ha => all a (List.mem_range.mp ha)
    have l2 := nodup_len (m := List.range P.length) hm.nd fun a ha => List.mem_range.mpr (hin a ha)
    rw [List.length_range] at l1 l2
    omega
structure Sqr (P : List (List Int)) : Prop where
  two : Two P
  ne : P ≠ []
  few : P.length ≤ 130
  srt : P.Pairwise (· < ·)
  m0 : mnC P 0 = 0
  m1 : mnC P 1 = 0
structure Pce (P : List (List Int)) (J : List Sd) : Prop where
  sq : Sqr P
  ok : JointsOk P J
  srt : J.Pairwise fun p q => pI p < pI q
  con : CnJ P.length J
end Ve
namespace Ve
open PySem PySem.Spec L2
def risB (l : List (List Int)) : Bool := (l.zip (l.drop 1)).all fun p => decide (p.1 < p.2)
theorem risB_iff : ∀ l : List (List Int), risB l = true ↔ l.Pairwise (· < ·)
  | [] => by simp [risB]
  | [a] => by simp [risB]
  | a :: b :: r => by
    have ih := risB_iff (b :: r)
    have e : risB (a :: b :: r) = (decide (a < b) && risB (b :: r)) := rfl
    rw [e, Bool.and_eq_true, ih, decide_eq_true_eq, List.pairwise_cons (a := a)]
    constructor
    · rintro ⟨h1, h2⟩
      refine ⟨fun c hc => ?_, h2⟩
      rcases List.mem_cons.mp hc with z | z
      · rw [z]; exact h1
      · exact List.lt_trans h1 ((List.pairwise_cons.mp h2).1 c z)
    · rintro ⟨h1, h2⟩
      exact ⟨h1 b List.mem_cons_self, h2⟩
theorem mSl_one {w : Bool} {fa : AE} {ls : Ls} {hp hp1 : Hd} {l : List (List Int)} (e : fa ls hp = some (tw w (l.map T), hp1)) (h : w = false ∨ l ≠ []) : mSl fa (some (mC (.int 1))) none ls hp = some (.tup ((l.drop 1).map T), hp1) := by
  unfold mSl
  rw [e]
  show gSl (tw w (l.map T)) (some 1) none hp1 = _
  cases w
  · show some (D.tup (cutD (l.map T) (some 1) none), hp1) = _
    by_cases hl : l = []
    · subst hl; rfl
    · rw [cutD_one hl]
  · have hl : l ≠ [] := h.resolve_left (by simp)
    have hp : 0 < l.length := List.length_pos_iff.mpr hl
    have hs : HT.sIx (l.map T).length 0 (some 1) = 1 := by
      have := HT.sIx_nat (l.map T).length 0 1
      rw [show ((1 : Nat) : Int) = 1 from rfl] at this
      rw [this, List.length_map]
      omega
    show (if HT.sIx (l.map T).length 0 (some 1) = 0 ∧ HT.sIx (l.map T).length (l.map T).length none = (l.map T).length then some (D.wt (l.map T), hp1) else some (.tup (cutD (l.map T) (some 1) none), hp1)) = _
    rw [hs, if_neg (by simp), cutD_one hl]
theorem mZip_tw {w : Bool} {fa fb : AE} {ls : Ls} {hp hp1 hp2 : Hd} {xs ys : List D} (e1 : fa ls hp = some (tw w xs, hp1)) (e2 : fb ls hp1 = some (.tup ys, hp2)) : mZip fa fb ls hp = some (zipD xs ys, [], hp2) := by
  unfold mZip
  rw [e1]
  dsimp only
  rw [e2]
  dsimp only
  rw [tupOf_tw]
  rfl
theorem two_a {H : Hd} {a b : O} : (H ++ [a, b])[H.length]? = some a := by simp
theorem two_b {H : Hd} {a b : O} : (H ++ [a, b])[H.length + 1]? = some b := by simp
theorem two_sa {H : Hd} {a b x : O} : (H ++ [a, b]).set H.length x = H ++ [x, b] := by simp
theorem two_sb {H : Hd} {a b x : O} : (H ++ [a, b]).set (H.length + 1) x = H ++ [a, x] := by
  rw [List.set_append_right _ _ (by omega)]
  simp
structure Nbs (o n : Nat) (hp : Hd) (Q : Nat → List Sd) : Prop where
  tb : hp[o + n]? = some (.lst ((List.range n).map fun f => D.ref (o + f)))
  row : ∀ f, f < n → hp[o + f]? = some (.lst ((Q f).map fun q => T (pI q)))
theorem Nbs.keep {o n : Nat} {hp hp2 : Hd} {Q : Nat → List Sd} (h : Nbs o n hp Q) (he : ∀ k, k ≤ o + n → hp2[k]? = hp[k]?) : Nbs o n hp2 Q := ⟨(he _ (Nat.le_refl _)).trans h.tb, fun f hf => (he _ (by omega)).trans (h.row f hf)⟩
theorem Nbs.app {o n : Nat} {hp : Hd} {Q : Nat → List Sd} (h : Nbs o n hp Q) {f : Nat} (hf : f < n) (q : Sd) (hl : (Q f).length < 100000) :
    ∃ hp2, gAppend (.ref (o + f)) [T (pI q)] hp = some (.non, hp2) ∧ Nbs o n hp2 (fun g => Q g ++ if f = g then [q] else []) ∧ hp2.length = hp.length ∧ ∀ k, k < o → hp2[k]? = hp[k]? := by
  refine ⟨_, gAppend_of (h.row f hf) (by rw [List.length_map]; omega), ⟨hset_ne (by omega) h.tb, fun g hg => ?_⟩, List.length_set, fun k hk => ?_⟩
  · by_cases e : f = g
    · subst e
      rw [if_pos rfl, hset_same (h.row f hf), List.map_append]
      rfl
    · rw [if_neg e, List.append_nil]
      exact hset_ne (by omega) (h.row g hg)
  · rw [List.getElem?_set_ne (by omega)]
theorem Nbs.at_ {o n : Nat} {hp : Hd} {Q : Nat → List Sd} (h : Nbs o n hp Q) {f : Nat} (hf : f < n) : gIx (.ref (o + n)) (.int (f : Nat)) hp = some (.ref (o + f), hp) :=
  gIx_refN (j := f) h.tb (x := .ref (o + f)) (by rw [List.getElem?_map, List.getElem?_range hf]; rfl)
theorem two_at {H : Hd} {a b : O} {k : Nat} (h : H.length = k) : (H ++ [a, b])[k]? = some a := by subst h; exact two_a
theorem two_bt {H : Hd} {a b : O} {k : Nat} (h : H.length + 1 = k) : (H ++ [a, b])[k]? = some b := by subst h; exact two_b
theorem two_sat {H : Hd} {a b x : O} {k : Nat} (h : H.length = k) : (H ++ [a, b]).set k x = H ++ [x, b] := by subst h; exact two_sa
theorem two_sbt {H : Hd} {a b x : O} {k : Nat} (h : H.length + 1 = k) : (H ++ [a, b]).set k x = H ++ [a, x] := by subst h; exact two_sb
theorem sStore_of {fv fo fi : AE} {ls : Ls} {hp hp1 hp2 hp3 hp4 : Hd} {v o i : D} (e1 : fv ls hp = some (v, hp1)) (e2 : fo ls hp1 = some (o, hp2)) (e3 : fi ls hp2 = some (i, hp3)) (e4 : gSet o i v hp3 = some hp4) : sStore fv fo fi ls hp = some (.nx, ls, hp4) := by
  rw [sStore_s, e1]
  dsimp only
  rw [e2]
  dsimp only
  rw [e3]
  dsimp only
  rw [e4]
theorem gLen_Gi {hp : Hd} {n : Nat} {g : Nat → D} {ks : List Nat} (h : hp[n]? = some (.dic (Gi g ks))) : gLen [.ref n] hp = some (.int ks.length, hp) := by
  show (match hp[n]? with
    | some (.lst ds) => some (D.int ds.length, hp)
    | some (.dic ds) => some (D.int ds.length, hp)
    | _ => none) = _
  rw [h]
  show some (D.int ((Gi g ks).length : Nat), hp) = _
  unfold Gi
  rw [List.length_map]
theorem pI_inj' {p q : Sd} (h : pI p = pI q) : p = q := by
  obtain ⟨a, b⟩ := p
  obtain ⟨c, d⟩ := q
  have h1 : [(a : Int), (b : Int)] = [(c : Int), (d : Int)] := h
  injection h1 with h1 h2
  injection h2 with h2 _
  rw [show a = c by omega, show b = d by omega]
theorem pI_map_inj : ∀ {J J' : List Sd}, J.map pI = J'.map pI → J = J'
  | [], [], _ => rfl
  | [], _ :: _, h => by simp at h
  | _ :: _, [], h => by simp at h
  | p :: J, q :: J', h => by
    rw [List.map_cons, List.map_cons] at h
    injection h with h1 h2
    rw [pI_inj' h1, pI_map_inj h2]
structure Grw (L : List (List Int)) (JJ : List (List Int × List Int)) : Prop where
  two : Two L
  nd : L.Nodup
  ne : L ≠ []
  inn : ∀ p ∈ JJ, p.1 ∈ L ∧ p.2 ∈ L ∧ Sbs p.1 p.2
  con : ∀ S : List Int → Prop, (∃ q ∈ L, S q) → (∀ p ∈ JJ, S p.1 ↔ S p.2) → ∀ q ∈ L, S q
theorem Grw.one : Grw [[0, 0]] [] := by
  refine ⟨fun c hc => ?_, by simp, by simp, fun p hp => (by cases hp), fun S ⟨q, hq, s⟩ _ r hr => ?_⟩
  · rw [List.mem_singleton.mp hc]
    exact ⟨0, 0, rfl⟩
  · rw [List.mem_singleton.mp hr]
    rw [List.mem_singleton.mp hq] at s
    exact s
theorem Grw.add {L : List (List Int)} {JJ : List (List Int × List Int)} (h : Grw L JJ) {a : List Int} (ha : a ∈ L) {k : Nat} (hk : k < 4) (hn : adK a k ∉ L) : Grw (L ++ [adK a k]) (JJ ++ [(a, adK a k)]) := by
  refine ⟨fun c hc => ?_, List.nodup_append.mpr ⟨h.nd, by simp, fun x hx y hy e => hn (by rw [← List.mem_singleton.mp hy, ← e]; exact hx)⟩, by simp, fun p hp => ?_, fun S ⟨q, hq, s⟩ cl r hr => ?_⟩
  · rcases List.mem_append.mp hc with z | z
    · exact h.two c z
    · rw [List.mem_singleton.mp z]; exact adK_two a k
  · rcases List.mem_append.mp hp with z | z
    · obtain ⟨h1, h2, h3⟩ := h.inn p z
      exact ⟨List.mem_append_left _ h1, List.mem_append_left _ h2, h3⟩
    · rw [List.mem_singleton.mp z]
      exact ⟨List.mem_append_left _ ha, by simp, (twK_adK hk).1⟩
  · have e := cl (a, adK a k) (by simp)
    have old : ∀ q ∈ L, S q := by
      refine h.con S ?_ fun p hp => cl p (List.mem_append_left _ hp)
      rcases List.mem_append.mp hq with z | z
      · exact ⟨q, z, s⟩
      · rw [List.mem_singleton.mp z] at s
        exact ⟨a, ha, e.mpr s⟩
    rcases List.mem_append.mp hr with z | z
    · exact old r z
    · rw [List.mem_singleton.mp z]
      exact e.mp (old a ha)
def sbsR (P : List (List Int)) (a : Nat) : List Nat := ((List.range (P.length - (a + 1))).map fun k => a + 1 + k).filter fun b => decide (Sbs (sqA P a) (sqA P b))
def sbsP (P : List (List Int)) : List Sd := (List.range P.length).flatMap fun a => (sbsR P a).map fun b => (a, b)
theorem mem_sbsR {P : List (List Int)} {a b : Nat} : b ∈ sbsR P a ↔ (a < b ∧ b < P.length) ∧ Sbs (sqA P a) (sqA P b) := by
  unfold sbsR
  rw [List.mem_filter, List.mem_map, decide_eq_true_eq]
  constructor
  · rintro ⟨⟨k, hk, rfl⟩, h⟩
    have := List.mem_range.mp hk
    exact ⟨by omega, h⟩
  · rintro ⟨h1, h2⟩
    exact ⟨⟨b - (a + 1), List.mem_range.mpr (by omega), by omega⟩, h2⟩
theorem mem_sbsP {P : List (List Int)} {p : Sd} : p ∈ sbsP P ↔ (p.1 < p.2 ∧ p.2 < P.length) ∧ Sbs (sqA P p.1) (sqA P p.2) := by
  unfold sbsP
  rw [List.mem_flatMap]
  constructor
  · rintro ⟨a, ha, h⟩
    obtain ⟨b, hb, rfl⟩ := List.mem_map.mp h
    exact mem_sbsR.mp hb
  · intro h
    exact ⟨p.1, List.mem_range.mpr (by omega), List.mem_map.mpr ⟨p.2, mem_sbsR.mpr h, rfl⟩⟩
theorem flat_len4 {f : Nat → List Sd} {k : Nat} (d : List Nat) (h : ∀ a ∈ d, (f a).length ≤ k) : (d.flatMap f).length ≤ k * d.length := by
  induction d with
  | nil => exact Nat.zero_le _
  | cons a d ih =>
    rw [List.flatMap_cons, List.length_append, List.length_cons, Nat.mul_succ]
    have := h a List.mem_cons_self
    have := ih fun b hb => h b (List.mem_cons_of_mem _ hb)
    omega
theorem sub2_inj {a b : Int} {c d : List Int} (hc : ∃ x y : Int, c = [x, y]) (hd : ∃ x y : Int, d = [x, y]) (h : sub2 a b c = sub2 a b d) : c = d := by
  obtain ⟨x, y, rfl⟩ := hc
  obtain ⟨x', y', rfl⟩ := hd
  have h : [x - a, y - b] = [x' - a, y' - b] := h
  injection h with h1 h2
  injection h2 with h2 _
  rw [show x = x' by omega, show y = y' by omega]
theorem Sbs.sub {a b : Int} {c d : List Int} : Sbs (sub2 a b c) (sub2 a b d) ↔ Sbs c d := by
  have : dif (sub2 a b c) (sub2 a b d) = dif c d := by
    show [(d.getD 0 0 - a) - (c.getD 0 0 - a), (d.getD 1 0 - b) - (c.getD 1 0 - b)] = [d.getD 0 0 - c.getD 0 0, d.getD 1 0 - c.getD 1 0]
    rw [show (d.getD 0 0 - a) - (c.getD 0 0 - a) = d.getD 0 0 - c.getD 0 0 by omega, show (d.getD 1 0 - b) - (c.getD 1 0 - b) = d.getD 1 0 - c.getD 1 0 by omega]
  unfold Sbs
  rw [this]
theorem Sbs.irr {c : List Int} : ¬ Sbs c c := fun h => by
  unfold Sbs dif at h
  rw [show c.getD 0 0 - c.getD 0 0 = 0 by omega, show c.getD 1 0 - c.getD 1 0 = 0 by omega] at h
  revert h
  decide
section
variable {L : List (List Int)} {JJ : List (List Int × List Int)}
def hix (L : List (List Int)) (q : List Int) : Nat := (hm L).idxOf (sub2 (mnC L 0) (mnC L 1) q)
theorem hm_mem {q : List Int} (h : q ∈ L) : sub2 (mnC L 0) (mnC L 1) q ∈ hm L := (sortC_perm _).mem_iff.mpr (List.mem_map_of_mem h)
theorem hix_lt {q : List Int} (h : q ∈ L) : hix L q < (hm L).length := List.idxOf_lt_length_of_mem (hm_mem h)
theorem hix_at {q : List Int} (h : q ∈ L) : sqA (hm L) (hix L q) = sub2 (mnC L 0) (mnC L 1) q := by
  unfold sqA hix
  rw [List.getD_eq_getElem?_getD, idxOf_at (hm_mem h)]
  rfl
theorem Grw.hmq (g : Grw L JJ) (hl : L.length ≤ 130) : Sqr (hm L) := by
  have hnd : (hm L).Nodup := by
    refine (sortC_perm _).nodup_iff.mpr ?_
    have nd := g.nd
    unfold List.Nodup at *
    rw [List.pairwise_map]
    exact nd.imp_of_mem fun ha hb hne he => hne (sub2_inj (g.two _ ha) (g.two _ hb) he)
  refine ⟨two_hm, hm_ne g.ne, by rw [hm_len]; exact hl, ?_, ?_, ?_⟩
  · have h1 := sortC_sorted (L.map (sub2 (mnC L 0) (mnC L 1)))
    have h2 : (sortC (L.map (sub2 (mnC L 0) (mnC L 1)))).Pairwise (· ≠ ·) := hnd
    exact (h1.and h2).imp fun ⟨a, b⟩ => lt_of a b
  · have e := (mnC_sub g.ne (mnC L 0) (mnC L 1)).1
    have : mnC (hm L) 0 = mnC (L.map (sub2 (mnC L 0) (mnC L 1))) 0 := by
      have hn : L.map (sub2 (mnC L 0) (mnC L 1)) ≠ [] := by simpa using g.ne
      obtain ⟨⟨l, hl1, hl2⟩, hl3⟩ := mnC_is hn 0
      exact mnC_eq ⟨l, (sortC_perm _).mem_iff.mpr hl1, hl2⟩ fun m hm => hl3 m ((sortC_perm _).mem_iff.mp hm)
    rw [this, e]
    omega
  · have e := (mnC_sub g.ne (mnC L 0) (mnC L 1)).2
    have : mnC (hm L) 1 = mnC (L.map (sub2 (mnC L 0) (mnC L 1))) 1 := by
      have hn : L.map (sub2 (mnC L 0) (mnC L 1)) ≠ [] := by simpa using g.ne
      obtain ⟨⟨l, hl1, hl2⟩, hl3⟩ := mnC_is hn 1
      exact mnC_eq ⟨l, (sortC_perm _).mem_iff.mpr hl1, hl2⟩ fun m hm => hl3 m ((sortC_perm _).mem_iff.mp hm)
    rw [this, e]
    omega
def jnt (L : List (List Int)) (p : List Int × List Int) : Sd := if hix L p.1 < hix L p.2 then (hix L p.1, hix L p.2) else (hix L p.2, hix L p.1)
theorem Grw.jnt_ok (g : Grw L JJ) {p : List Int × List Int} (hp : p ∈ JJ) : ((jnt L p).1 < (jnt L p).2 ∧ (jnt L p).2 < (hm L).length) ∧ Sbs (sqA (hm L) (jnt L p).1) (sqA (hm L) (jnt L p).2) := by
  obtain ⟨h1, h2, h3⟩ := g.inn p hp
  have l1 := hix_lt h1
  have l2 := hix_lt h2
  have hne : hix L p.1 ≠ hix L p.2 := fun e => by
    have a1 := hix_at h1
    have a2 := hix_at h2
    rw [e, a2] at a1
    have := sub2_inj (g.two _ h2) (g.two _ h1) a1
    rw [this] at h3
    exact Sbs.irr h3
  unfold jnt
  by_cases c : hix L p.1 < hix L p.2
  · rw [if_pos c]
    refine ⟨⟨c, l2⟩, ?_⟩
    dsimp only
    rw [hix_at h1, hix_at h2, Sbs.sub]
    exact h3
  · rw [if_neg c]
    refine ⟨⟨by dsimp only; omega, l1⟩, ?_⟩
    dsimp only
    rw [hix_at h1, hix_at h2, Sbs.sub]
    exact h3.symm
theorem Grw.pce (g : Grw L JJ) (hl : L.length ≤ 130) {J : List Sd} (hok : JointsOk (hm L) J) (hj : ∀ p ∈ JJ, jnt L p ∈ J) (srt : J.Pairwise fun p q => pI p < pI q) : Pce (hm L) J := by
  refine ⟨g.hmq hl, hok, srt, fun S ⟨i, hi, si⟩ cl j hj2 => ?_⟩
  have at_ : ∀ i, i < (hm L).length → ∃ q ∈ L, hix L q = i := fun i hi => by
    have hm1 : (hm L)[i] ∈ hm L := List.getElem_mem hi
    obtain ⟨q, hq, e⟩ := List.mem_map.mp ((sortC_perm _).mem_iff.mp hm1)
    refine ⟨q, hq, ?_⟩
    unfold hix
    rw [e]
    exact idxOf_eq (nodup_of_lt (g.hmq hl).srt) (List.getElem?_eq_getElem hi)
  obtain ⟨q, hq, rfl⟩ := at_ i hi
  obtain ⟨r, hr, rfl⟩ := at_ j hj2
  refine g.con (fun q => S (hix L q)) ⟨q, hq, si⟩ (fun p hp => ?_) r hr
  have := cl _ (hj p hp)
  unfold jnt at this
  split at this
  · exact this
  · exact this.symm
end
end Ve
namespace Ve
open PySem PySem.Spec L2
theorem foldl_min : ∀ (r : List Int) (a : Int), r.foldl min a ∈ a :: r ∧ ∀ v ∈ a :: r, r.foldl min a ≤ v
  | [], a => ⟨List.mem_cons_self, fun v hv => by rw [List.mem_singleton.mp hv]; exact Int.le_refl a⟩
  | b :: r, a => by
    obtain ⟨h1, h2⟩ := foldl_min r (min a b)
    rw [List.foldl_cons]
    refine ⟨?_, fun v hv => ?_⟩
    · rcases List.mem_cons.mp h1 with z | z
      · rw [z]
        rcases Int.le_total a b with q | q
        · rw [Int.min_eq_left q]; exact List.mem_cons_self
        · rw [Int.min_eq_right q]; exact List.mem_cons_of_mem _ List.mem_cons_self
      · exact List.mem_cons_of_mem _ (List.mem_cons_of_mem _ z)
    · have h0 := h2 (min a b) List.mem_cons_self
      rcases List.mem_cons.mp hv with z | z
      · rw [z]; omega
      · rcases List.mem_cons.mp z with z | z
        · rw [z]; omega
        · exact h2 v (List.mem_cons_of_mem _ z)
theorem gBestL_mn {hp : Hd} {bs : List (List Int)} (hne : bs ≠ []) (i : Nat) : gBestL false (bs.map fun l => D.int (l.getD i 0)) hp = some (.int (mnC bs i), hp) := by
  have e : (bs.map fun l => D.int (l.getD i 0)) = (bs.map fun l => l.getD i 0).map D.int := by rw [List.map_map]; rfl
  rw [e]
  cases e2 : bs.map fun l => l.getD i 0 with
  | nil => exact absurd (List.map_eq_nil_iff.mp e2) hne
  | cons a r =>
    rw [gBestL_I false a r]
    have : mnC bs i = r.foldl min a := by
      obtain ⟨h1, h2⟩ := foldl_min r a
      rw [← e2] at h1 h2
      obtain ⟨l, hl, hl2⟩ := List.mem_map.mp h1
      exact mnC_eq ⟨l, hl, hl2⟩ fun l hl => h2 _ (List.mem_map_of_mem (f := fun l : List Int => l.getD i 0) hl)
    rw [this]
    rfl
def pcD (w : Bool) (P : List (List Int)) (J : List Sd) : D := .tup [tw w (P.map T), .tup ((J.map pI).map T)]
theorem nr_pcD (w : Bool) (P : List (List Int)) (J : List Sd) : nr (pcD w P J) = true := nr_tup (nrs_cons (nr_tw (nrs_T _)) (nrs_cons (nr_tup (nrs_T _)) rfl))
theorem joints_of {D : List (List Int)} (nd : D.Nodup) {Q : Sd → Prop} (h : ∀ c ∈ D, ∃ p : Sd, c = pI p ∧ Q p) : ∃ J : List Sd, sortC D = J.map pI ∧ (∀ p ∈ J, Q p) ∧ (∀ p : Sd, pI p ∈ D → p ∈ J) ∧ (J.Pairwise fun p q => pI p < pI q) ∧ J.length = D.length := by
  have e : sortC D = ((sortC D).map fun c => ((c.getD 0 0).toNat, (c.getD 1 0).toNat)).map pI := by
    rw [List.map_map]
    conv => lhs; rw [← List.map_id (sortC D)]
    refine List.map_congr_left fun c hc => ?_
    obtain ⟨p, rfl, _⟩ := h c ((sortC_perm _).mem_iff.mp hc)
    rfl
  have hs := sortC_sorted D
  have hn : (sortC D).Pairwise (· ≠ ·) := (sortC_perm D).nodup_iff.mpr nd
  refine ⟨_, e, fun p hp => ?_, fun p hp => ?_, ?_, by rw [List.length_map, (sortC_perm D).length_eq]⟩
  · obtain ⟨c, hc, rfl⟩ := List.mem_map.mp hp
    obtain ⟨q, rfl, hq⟩ := h c ((sortC_perm _).mem_iff.mp hc)
    exact hq
  · exact List.mem_map.mpr ⟨pI p, (sortC_perm _).mem_iff.mpr hp, rfl⟩
  · rw [← List.pairwise_map, ← e]
    exact (hs.and hn).imp fun ⟨a, b⟩ => lt_of a b
end Ve
namespace Ve
open PySem PySem.Spec L2 PyProof.Rows
def noTxt : PyData → Bool
  | .str _ => false
  | _ => true
def gStr (ds : List D) (hp : Hd) : Option (D × Hd) := match ds with
  | [x] => match pyF hp 15 x with
    | some p => if (reprOk p && noTxt p) = true then some (.str p.shown, hp) else none
    | none => none
  | _ => none
section
variable {X : Cx}
theorem c_str (hg : X.A.guards = some []) (hu : X.A.units + 65 < cLine) : CallR X (.type "str") (RDs X.K gStr) := fun pins s σ H xs us Q I r ⟨hp, μ, ds, d, hp', rh, rs, e, q⟩ => by
  unfold gStr at e
  split at e
  · rename_i x
    split at e
    · rename_i p ep
      split at e
      · rename_i hc
        cases e
        rw [Bool.and_eq_true] at hc
        obtain ⟨hc, hz⟩ := hc
        have h2 := hc
        unfold reprOk at h2
        rw [Bool.and_eq_true, Bool.and_eq_true, Bool.and_eq_true] at h2
        obtain ⟨⟨h3, h4⟩, h5, h6⟩ := h2
        have h5 := of_decide_eq_true h5
        have h6 := of_decide_eq_true h6
        have h4 : p.hasDict = false := by simpa using h4
        obtain ⟨v, rfl, rv⟩ := rs.one
        have dp := pyF_dp rh _ _ _ _ ep rv
        cases r with
        | cons r1 r2 =>
          rename_i u ut
          cases r2
          obtain ⟨as, hr⟩ := Dp.reads I p v u dp r1
          have fin : ∀ a : Addr, u = .ref a → wpAny (model X.prog X.w) X.A (call (.type "str") [u]) (EP X pins σ Q) X.xe s := fun a ea => by
            subst ea
            exact str_of_reads hr h3 (fun h' => by rw [h4] at h'; cases h') hg (by omega) (fun _ _ e => e) (fun h' tu tk hk => ⟨.str p.shown, H, I.kept (t' := tk) hk, ⟨_, rfl⟩, q _ H μ Ext.refl rh Rp.str⟩) h6
          cases dp with
          | lst hs ha => exact fin _ r1
          | tup hs ha => exact fin _ r1
          | non =>
            obtain rfl : u = Value.none := r1
            refine PySem.P.str_of_none ⟨.str "None", H, I.tok _, ⟨_, rfl⟩, ?_⟩
            have := q (.str (PyData.shown .none)) H μ Ext.refl rh Rp.str
            rw [PyData.shown] at this
            exact this
          | int i =>
            obtain ⟨t, rfl⟩ := r1
            refine PySem.P.str_of_int (by simpa [PyData.showable] using h3) ⟨.str (toString i), H, I.tok _, ⟨_, rfl⟩, ?_⟩
            have := q (.str (PyData.shown (.int i))) H μ Ext.refl rh Rp.str
            rw [PyData.shown] at this
            exact this
          | bl b =>
            obtain rfl : u = Value.bool b := r1
            refine PySem.P.str_of_bool ⟨.str (if b then "True" else "False"), H, I.tok _, ⟨_, rfl⟩, ?_⟩
            have := q (.str (PyData.shown (.bool b))) H μ Ext.refl rh Rp.str
            rw [PyData.shown] at this
            exact this
          | str z => cases hz
      · cases e
    · cases e
  · cases e
end
end Ve
namespace Ve
open PySem PySem.Spec L2 PyProof.Rows
end Ve
namespace Ve
open PySem PySem.Spec L2 PyProof.Rows
end Ve
namespace Ve
open PySem PySem.Spec L2 PyProof.Rows PySem.W PySem.SeqAt PySem.Calls
end Ve
namespace Ve
open PySem PySem.Spec L2 PyProof.Rows
end Ve
namespace L2
open PySem PySem.Spec PyProof.Rows
end L2
namespace Ve
open PySem PySem.Spec L2
theorem Rps.tups {K : PySem.W.Frag} {H : Hp} {μ : List Addr} : ∀ {cs : List (List Int)} {vs : List V}, Rps K H μ (cs.map T) vs → ∃ ks : List (Addr × List Int), vs = ks.map (fun p => V.ref p.1) ∧ cs = ks.map (·.2) ∧ ∀ p ∈ ks, TpAt H p.1 (p.2.map V.int)
  | [], vs, h => by
    rw [List.map_nil, Rps] at h
    exact ⟨[], h, rfl, fun p hp => (by cases hp)⟩
  | c :: cs, vs, h => by
    rw [List.map_cons, Rps] at h
    obtain ⟨v, r, rfl, h1, h2⟩ := h
    obtain ⟨ks, e1, e2, h3⟩ := Rps.tups h2
    obtain ⟨a, ws, rfl, t, rs⟩ := Rp.tupE h1
    have := rs.intsE'
    subst this
    refine ⟨(a, c) :: ks, by rw [e1]; rfl, by rw [e2]; rfl, fun p hp => ?_⟩
    rcases List.mem_cons.mp hp with z | z
    · rw [z]; exact t
    · exact h3 p z
section
variable {X : Cx} {e : Expr} {fa : AE} {fl : AA} {p p2 pos pos2 : Pos}
theorem TpAt.laid {H : Hp} {a b : Addr} {vs : List V} {o : HO} (h : TpAt H a vs) (h0 : H b = none) : TpAt (upd H b o) a vs := by
  show upd H b o a = _
  rw [upd_ne (ne_of_none h h0)]
  exact h
end
end Ve
namespace Ve
open PySem PySem.Spec L2
end Ve
namespace Ve
open PySem PySem.Spec L2
section
variable {α : Type} [DecidableEq α]
structure Lab (n : Nat) (N : Nat → List Sd) (st : α → Nat → α) (s : α) (l : Nat → α) : Prop where
  at0 : l 0 = s
  on : ∀ i, i < n → ∀ q ∈ N i, l q.1 = st (l i) q.2
abbrev LS (α : Type) := List Nat × (Nat → α)
def putL (l : Nat → α) (a : Nat) (v : α) : Nat → α := fun i => if i = a then v else l i
def lstp (s : LS α) (b : Nat) (v : α) : Option (LS α) := if b ∈ s.1 then (if s.2 b = v then some s else none) else some (s.1 ++ [b], putL s.2 b v)
structure LOk (n : Nat) (N : Nat → List Sd) (st : α → Nat → α) (s : α) (k : LS α) : Prop where
  nd : k.1.Nodup
  in0 : 0 ∈ k.1
  inn : ∀ a ∈ k.1, a < n
  at0 : k.2 0 = s
  forced : ∀ l, Lab n N st s l → ∀ a ∈ k.1, k.2 a = l a
variable {n : Nat} {N : Nat → List Sd} {st : α → Nat → α} {s : α}
theorem LOk.start (hn : 0 < n) : LOk n N st s ([0], fun _ => s) := ⟨by simp, by simp, fun a ha => by rw [List.mem_singleton.mp ha]; exact hn, rfl, fun l h a ha => by
  rw [List.mem_singleton.mp ha, h.at0]⟩
theorem LOk.step {k : LS α} (h : LOk n N st s k) {a : Nat} (ha : a ∈ k.1) {q : Sd} (hq : q ∈ N a) (hb : q.1 < n) :
    (∃ k2, lstp k q.1 (st (k.2 a) q.2) = some k2 ∧ LOk n N st s k2 ∧ (∀ b ∈ k.1, b ∈ k2.1 ∧ k2.2 b = k.2 b) ∧ q.1 ∈ k2.1 ∧ k2.2 q.1 = st (k2.2 a) q.2 ∧ ((q.1 ∈ k.1 ∧ k2 = k) ∨ (q.1 ∉ k.1 ∧ k2.1 = k.1 ++ [q.1]))) ∨ (lstp k q.1 (st (k.2 a) q.2) = none ∧ q.1 ∈ k.1 ∧ ∀ l, ¬ Lab n N st s l) := by
  unfold lstp
  by_cases c : q.1 ∈ k.1
  · rw [if_pos c]
    by_cases e : k.2 q.1 = st (k.2 a) q.2
    · rw [if_pos e]
      exact .inl ⟨k, rfl, h, fun b hb => ⟨hb, rfl⟩, c, e, .inl ⟨c, rfl⟩⟩
    · rw [if_neg e]
      refine .inr ⟨rfl, c, fun l hl => e ?_⟩
      rw [h.forced l hl _ c, h.forced l hl _ ha]
      exact hl.on a (h.inn a ha) q hq
  · rw [if_neg c]
    have old : ∀ b ∈ k.1, putL k.2 q.1 (st (k.2 a) q.2) b = k.2 b := fun b hb => by
      unfold putL
      rw [if_neg (fun e => c (by rw [← e]; exact hb))]
    refine .inl ⟨_, rfl, ⟨?_, List.mem_append_left _ h.in0, fun b hb2 => ?_, ?_, fun l hl b hb2 => ?_⟩, fun b hb2 => ⟨List.mem_append_left _ hb2, old b hb2⟩, by simp, ?_, .inr ⟨c, rfl⟩⟩
    · exact List.nodup_append.mpr ⟨h.nd, by simp, fun x hx y hy e => c (by rw [← List.mem_singleton.mp hy, ← e]; exact hx)⟩
    · rcases List.mem_append.mp hb2 with z | z
      · exact h.inn b z
      · rw [List.mem_singleton.mp z]; exact hb
    · rw [← h.at0]; exact old 0 h.in0
    · rcases List.mem_append.mp hb2 with z | z
      · show putL _ _ _ b = _
        rw [old b z]; exact h.forced l hl b z
      · rw [List.mem_singleton.mp z]
        show putL k.2 q.1 (st (k.2 a) q.2) q.1 = _
        unfold putL
        rw [if_pos rfl, h.forced l hl _ ha]
        exact (hl.on a (h.inn a ha) q hq).symm
    · show putL k.2 q.1 (st (k.2 a) q.2) q.1 = st (putL k.2 q.1 (st (k.2 a) q.2) a) q.2
      rw [old a ha]
      unfold putL
      rw [if_pos rfl]
def lnbs (st : α → Nat → α) (here : Nat) (x : LS α × List Nat) (q : Sd) : Option (LS α × List Nat) := (lstp x.1 q.1 (st (x.1.2 here) q.2)).map fun k2 => (k2, if q.1 ∈ x.1.1 then x.2 else x.2 ++ [q.1])
structure LQ (n : Nat) (N : Nat → List Sd) (st : α → Nat → α) (s : α) (x : LS α × List Nat) : Prop where
  ok : LOk n N st s x.1
  wm : ∀ a ∈ x.2, a ∈ x.1.1
  done : ∀ a ∈ x.1.1, a ∉ x.2 → ∀ q ∈ N a, q.1 ∈ x.1.1 ∧ x.1.2 q.1 = st (x.1.2 a) q.2
  cnt : x.2.length ≤ x.1.1.length
structure LP (n : Nat) (N : Nat → List Sd) (st : α → Nat → α) (s : α) (here : Nat) (y : LS α × List Nat) (d : List Sd) (x : LS α × List Nat) : Prop where
  ok : LOk n N st s x.1
  wm : ∀ a ∈ x.2, a ∈ x.1.1
  hh : here ∈ x.1.1
  w0 : ∀ a ∈ y.2, a ∈ x.2
  new : ∀ a ∈ x.1.1, (a ∈ y.1.1 ∧ x.1.2 a = y.1.2 a) ∨ a ∈ x.2
  keep : ∀ a ∈ y.1.1, a ∈ x.1.1 ∧ x.1.2 a = y.1.2 a
  seen : ∀ q ∈ d, q.1 ∈ x.1.1 ∧ x.1.2 q.1 = st (x.1.2 here) q.2
  cnt : x.2.length + y.1.1.length = y.2.length + x.1.1.length
theorem LP.step {here : Nat} {y x : LS α × List Nat} {d : List Sd} (h : LP n N st s here y d x) {q : Sd} (hq : q ∈ N here) (hb : q.1 < n) : (∃ x2, lnbs st here x q = some x2 ∧ LP n N st s here y (d ++ [q]) x2) ∨ (lnbs st here x q = none ∧ ∀ l, ¬ Lab n N st s l) := by
  unfold lnbs
  rcases h.ok.step h.hh hq hb with ⟨k2, e, ok2, kp, k3, k4, c⟩ | ⟨e, _, no⟩
  · rw [e]
    refine .inl ⟨_, rfl, ?_⟩
    rcases c with ⟨c, rfl⟩ | ⟨c, e2⟩
    · refine ⟨ok2, ?_, h.hh, ?_, ?_, h.keep, fun q' hq' => ?_, ?_⟩
      · dsimp only; rw [if_pos c]; exact h.wm
      · dsimp only; rw [if_pos c]; exact h.w0
      · dsimp only; rw [if_pos c]; exact h.new
      · rcases List.mem_append.mp hq' with z | z
        · exact h.seen q' z
        · rw [List.mem_singleton.mp z]; exact ⟨k3, k4⟩
      · dsimp only; rw [if_pos c]; exact h.cnt
    · refine ⟨ok2, fun a ha => ?_, (kp _ h.hh).1, fun a ha => ?_, fun a ha => ?_, fun a ha => ⟨(kp a (h.keep a ha).1).1, (kp a (h.keep a ha).1).2.trans (h.keep a ha).2⟩, fun q' hq' => ?_, ?_⟩
      · dsimp only at ha ⊢
        rw [if_neg c] at ha
        rcases List.mem_append.mp ha with z | z
        · exact (kp a (h.wm a z)).1
        · rw [List.mem_singleton.mp z]; exact k3
      · dsimp only
        rw [if_neg c]
        exact List.mem_append_left _ (h.w0 a ha)
      · dsimp only at ha ⊢
        rw [if_neg c]
        rw [e2] at ha
        rcases List.mem_append.mp ha with z | z
        · rcases h.new a z with w | w
          · exact .inl ⟨w.1, (kp a z).2.trans w.2⟩
          · exact .inr (List.mem_append_left _ w)
        · exact .inr (List.mem_append_right _ z)
      · rcases List.mem_append.mp hq' with z | z
        · obtain ⟨s1, s2⟩ := h.seen q' z
          refine ⟨(kp _ s1).1, ?_⟩
          rw [(kp _ s1).2, (kp _ h.hh).2]
          exact s2
        · rw [List.mem_singleton.mp z]; exact ⟨k3, k4⟩
      · dsimp only
        rw [if_neg c, e2, List.length_append, List.length_append, List.length_singleton]
        have := h.cnt
        omega
  · rw [e]
    exact .inr ⟨rfl, no⟩
theorem LP.fold {here : Nat} {y : LS α × List Nat} (hN : ∀ q ∈ N here, q.1 < n) : ∀ (r d : List Sd) (x : LS α × List Nat), N here = d ++ r → LP n N st s here y d x → (∃ x2, r.foldlM (lnbs st here) x = some x2 ∧ LP n N st s here y (d ++ r) x2) ∨ (r.foldlM (lnbs st here) x = none ∧ ∀ l, ¬ Lab n N st s l)
  | [], d, x, _, h => .inl ⟨x, rfl, by rw [List.append_nil]; exact h⟩
  | q :: r, d, x, e, h => by
    have hq : q ∈ N here := by rw [e]; simp
    rw [List.foldlM_cons]
    rcases h.step hq (hN q hq) with ⟨x2, e1, h2⟩ | ⟨e1, no⟩
    · rw [e1]
      have := LP.fold hN r (d ++ [q]) x2 (by rw [e, List.append_assoc]; rfl) h2
      rw [List.append_assoc] at this
      exact this
    · rw [e1]
      exact .inr ⟨rfl, no⟩
theorem LQ.pop {here : Nat} {k : LS α} {w : List Nat} (h : LQ n N st s (k, w ++ [here])) (hN : ∀ a q, q ∈ N a → q.1 < n) :
    (∃ x2, (N here).foldlM (lnbs st here) (k, w) = some x2 ∧ LQ n N st s x2 ∧ (n - x2.1.1.length) + x2.2.length < (n - k.1.length) + (w ++ [here]).length) ∨ ((N here).foldlM (lnbs st here) (k, w) = none ∧ ∀ l, ¬ Lab n N st s l) := by
  have hh : here ∈ k.1 := h.wm here (by simp)
  have p0 : LP n N st s here (k, w) [] (k, w) := ⟨h.ok, fun a ha => h.wm a (List.mem_append_left _ ha), hh, fun _ h => h, fun a ha => .inl ⟨ha, rfl⟩, fun a ha => ⟨ha, rfl⟩, fun q hq => (by cases hq), rfl⟩
  rcases LP.fold (fun q hq => hN here q hq) (N here) [] (k, w) rfl p0 with ⟨x2, e, p⟩ | z
  · refine .inl ⟨x2, e, ⟨p.ok, p.wm, fun a ha hw q hq => ?_, ?_⟩, ?_⟩
    · rcases p.new a ha with ⟨z1, z2⟩ | z
      · by_cases c : a = here
        · rw [c] at hq ⊢
          exact p.seen q hq
        · have hw2 : a ∉ w ++ [here] := fun z => by
            rcases List.mem_append.mp z with z | z
            · exact hw (p.w0 a z)
            · exact c (List.mem_singleton.mp z)
          obtain ⟨s1, s2⟩ := h.done a z1 hw2 q hq
          refine ⟨(p.keep _ s1).1, ?_⟩
          rw [(p.keep _ s1).2, (p.keep _ z1).2]
          exact s2
      · exact absurd z hw
    · have := p.cnt
      have := h.cnt
      dsimp only at *
      rw [List.length_append, List.length_singleton] at *
      omega
    · have l1 : x2.1.1.length ≤ n := by
        have := nodup_len (m := List.range n) p.ok.nd fun a ha => List.mem_range.mpr (p.ok.inn a ha)
        rwa [List.length_range] at this
      have l2 : k.1.length ≤ x2.1.1.length := nodup_len h.ok.nd fun a ha => (p.keep a ha).1
      have := p.cnt
      dsimp only at this
      rw [List.length_append, List.length_singleton]
      omega
  · exact .inr z
theorem LOk.len {k : LS α} (h : LOk n N st s k) : k.1.length ≤ n := by
  have := nodup_len (m := List.range n) h.nd fun a ha => List.mem_range.mpr (h.inn a ha)
  rwa [List.length_range] at this
theorem LQ.lab {k : LS α} (h : LQ n N st s (k, [])) (hn : 0 < n) (con : ∀ S : Nat → Prop, S 0 → (∀ a, a < n → S a → ∀ q ∈ N a, S q.1) → ∀ i, i < n → S i) : (∀ i, i < n → i ∈ k.1) ∧ Lab n N st s k.2 := by
  have all := con (fun i => i ∈ k.1) h.ok.in0 fun a _ ha q hq => (h.done a ha (by simp) q hq).1
  exact ⟨all, h.ok.at0, fun i hi q hq => (h.done i (all i hi) (by simp) q hq).2⟩
def estp (st : α → Nat → α) (k : LS α) (e : Nat × Sd) : Option (LS α) := if e.1 ∈ k.1 then lstp k e.2.1 (st (k.2 e.1) e.2.2) else some k
structure EOk (n : Nat) (N : Nat → List Sd) (st : α → Nat → α) (s : α) (y : LS α) (d : List (Nat × Sd)) (k : LS α) : Prop where
  ok : LOk n N st s k
  keep : ∀ b ∈ y.1, b ∈ k.1 ∧ k.2 b = y.2 b
  seen : ∀ e ∈ d, e.1 ∈ y.1 → e.2.1 ∈ k.1 ∧ k.2 e.2.1 = st (k.2 e.1) e.2.2
theorem EOk.fold {y : LS α} : ∀ (r d : List (Nat × Sd)) (k : LS α), (∀ e ∈ r, e.2 ∈ N e.1 ∧ e.2.1 < n) → EOk n N st s y d k → (∃ k2, r.foldlM (estp st) k = some k2 ∧ EOk n N st s y (d ++ r) k2) ∨ (r.foldlM (estp st) k = none ∧ ∀ l, ¬ Lab n N st s l)
  | [], d, k, _, h => .inl ⟨k, rfl, by rw [List.append_nil]; exact h⟩
  | e :: r, d, k, hr, h => by
    rw [List.foldlM_cons]
    unfold estp
    obtain ⟨he1, he2⟩ := hr e List.mem_cons_self
    by_cases c : e.1 ∈ k.1
    · rw [if_pos c]
      rcases h.ok.step c he1 he2 with ⟨k2, e1, ok2, kp, k3, k4, _⟩ | ⟨e1, _, no⟩
      · rw [e1]
        have := EOk.fold r (d ++ [e]) k2 (fun e' h' => hr e' (List.mem_cons_of_mem _ h')) ⟨ok2, fun b hb => ⟨(kp b (h.keep b hb).1).1, (kp b (h.keep b hb).1).2.trans (h.keep b hb).2⟩, fun e' he' hin => by
          rcases List.mem_append.mp he' with z | z
          · obtain ⟨s1, s2⟩ := h.seen e' z hin
            refine ⟨(kp _ s1).1, ?_⟩
            rw [(kp _ s1).2, (kp _ (h.keep _ hin).1).2]
            exact s2
          · rw [List.mem_singleton.mp z]; exact ⟨k3, k4⟩⟩
        rw [List.append_assoc] at this
        exact this
      · rw [e1]
        exact .inr ⟨rfl, no⟩
    · rw [if_neg c]
      have := EOk.fold r (d ++ [e]) k (fun e' h' => hr e' (List.mem_cons_of_mem _ h')) ⟨h.ok, h.keep, fun e' he' hin => by
        rcases List.mem_append.mp he' with z | z
        · exact h.seen e' z hin
        · rw [List.mem_singleton.mp z] at hin
          exact absurd (h.keep _ hin).1 c⟩
      rw [List.append_assoc] at this
      exact this
end
theorem Pce.conn {P : List (List Int)} {J : List Sd} (con : CnJ P.length J) (ok : JointsOk P J) (hn : 0 < P.length) : ∀ S : Nat → Prop, S 0 → (∀ a, a < P.length → S a → ∀ q ∈ ngb P J a, S q.1) → ∀ i, i < P.length → S i := fun S h0 cl => by
  refine con S ⟨0, hn, h0⟩ fun p hp => ?_
  obtain ⟨⟨h1, h2⟩, _⟩ := ok p hp
  exact ⟨fun h => cl p.1 (by omega) h (p.2, twK (sqA P p.1) (sqA P p.2)) (mem_ngb.mpr ⟨p, hp, .inl ⟨rfl, rfl⟩⟩), fun h => cl p.2 h2 h (p.1, (twK (sqA P p.1) (sqA P p.2) + 2) % 4) (mem_ngb.mpr ⟨p, hp, .inr ⟨rfl, rfl⟩⟩)⟩
theorem gLIdx_ref {hp : Hd} {n : Nat} {cs : List (List Int)} {a : List Int} (h : hp[n]? = some (.lst (cs.map T))) (ha : a ∈ cs) : gLIdx (.ref n) [T a] hp = some (.int (cs.idxOf a : Nat), hp) := by
  unfold gLIdx
  dsimp only
  rw [h]
  dsimp only
  rw [idxD_T ha]
  rfl
end Ve
set_option maxHeartbeats 4000000
namespace L2
open PySem PySem.Spec PyProof.Rows
end L2
namespace Ve
open PySem PySem.Spec L2
end Ve
namespace L2
open PySem PySem.Spec PyProof.Rows
end L2
namespace L2
open PySem PySem.Spec PyProof.Rows
structure ZlS (h : Heap) (z TI TO i1 i2 a b : Addr) (i : Nat) : Prop where
  ob : (IsZip h z TI TO .none ∧ ∃ x y, IsTupOf2 h TO x y) ∨ ∃ (T : Addr) (f : Bool) (oT : Obj), PySem.IsZipHeld h z TI TO T f ∧ h.get? T = some oT ∧ T ≠ z ∧ T ≠ i1 ∧ T ≠ i2
  to : ∃ o, h.get? TO = some o
  ti : IsTupOf2 h TI (.ref i1) (.ref i2)
  t1 : h.IsTupleIter i1 a i
  t2 : h.IsTupleIter i2 b i
def zCells (z TI TO i1 i2 : Addr) : List Addr := [z, TI, TO, i1, i2]
theorem ZlS.keep {h h' : Heap} {z TI TO i1 i2 a b : Addr} {i : Nat} (x : ZlS h z TI TO i1 i2 a b i) (k : ∀ c o, c ∈ zCells z TI TO i1 i2 → h.get? c = some o → h'.get? c = some o) (there : ∀ b o, h.get? b = some o → ∃ u, h'.get? b = some u) : ZlS h' z TI TO i1 i2 a b i := by
  obtain ⟨ob, ⟨oTO, to⟩, ti, t1, t2⟩ := x
  refine ⟨?_, ⟨oTO, k _ _ (by simp [zCells]) to⟩, k _ _ (by simp [zCells]) ti, t1.at fun o q => k _ o (by simp [zCells]) q, t2.at fun o q => k _ o (by simp [zCells]) q⟩
  rcases ob with ⟨hz, x, y, hT⟩ | ⟨T, f, oT, hz, hT, r⟩
  · exact .inl ⟨k _ _ (by simp [zCells]) hz, x, y, k _ _ (by simp [zCells]) hT⟩
  · obtain ⟨u, hu⟩ := there T oT hT
    exact .inr ⟨T, f, u, k _ _ (by simp [zCells]) hz, hu, r⟩
theorem ZlS.get {h : Heap} {z TI TO i1 i2 a b : Addr} {i : Nat} (x : ZlS h z TI TO i1 i2 a b i) : ∃ o, h.get? z = some o ∧ o.cls = .type "zip" := by
  rcases x.ob with ⟨hz, _⟩ | ⟨T, f, oT, hz, hT⟩
  · exact ⟨_, hz, rfl⟩
  · exact ⟨_, hz, rfl⟩
end L2
namespace Ve
open PySem PySem.Spec L2
end Ve
namespace Ve
open PySem PySem.Spec L2 PyProof.Rows
end Ve
namespace Ve
open PySem PySem.Spec L2
end Ve
namespace Ve
open PySem PySem.Spec L2
def strsD : List D → Option (List Str)
  | [] => some []
  | .str x :: r => match strsD r with
    | some ys => some (x :: ys)
    | none => none
  | _ => none
theorem strsD_map : ∀ ys : List Str, strsD (ys.map D.str) = some ys
  | [] => rfl
  | y :: ys => by rw [List.map_cons, strsD, strsD_map ys]
theorem strsD_some : ∀ {ds : List D} {ys : List Str}, strsD ds = some ys → ds = ys.map D.str
  | [], ys, h => by
    rw [strsD] at h
    cases h
    rfl
  | d :: ds, ys, h => by
    cases d <;> simp only [strsD] at h <;> try (cases h; done)
    split at h
    · rename_i zs e
      cases h
      rw [List.map_cons, ← strsD_some e]
    · cases h
theorem Rps.strs {K : PySem.W.Frag} {H : Hp} {μ : List Addr} : ∀ {ys : List Str} {vs : List V}, Rps K H μ (ys.map D.str) vs → vs = ys.map V.str
  | [], vs, h => by
    rw [List.map_nil, Rps] at h
    exact h
  | y :: ys, vs, h => by
    rw [List.map_cons, Rps] at h
    obtain ⟨v, r, e, h1, h2⟩ := h
    rw [e, h1.strE, Rps.strs h2]
    rfl
theorem Rps.ofStrs {K : PySem.W.Frag} {H : Hp} {μ : List Addr} : ∀ {ys : List Str}, Rps K H μ (ys.map D.str) (ys.map V.str)
  | [] => Rps.nil
  | y :: ys => by
    rw [List.map_cons, List.map_cons, Rps]
    exact ⟨_, _, rfl, Rp.str, Rps.ofStrs⟩
def jnOk (a : Str) (ys : List Str) : Bool := decide ((ys.map (·.length)).sum + ys.length * a.length ≤ 16777216)
def mJoin (fo : AE) (fl : AA) : AE := fun ls hp => match fo ls hp with
  | some (.str a, hp1) => match fl ls hp1 with
    | some (ds, hp2) => match strsD ds with
      | some ys => if jnOk a ys = true then some (.str (Txt.join a ys), hp2) else none
      | none => none
    | none => none
  | _ => none
def mJoinO (fo fa : AE) : AE := fun ls hp => match fo ls hp with
  | some (.str a, hp1) => match fa ls hp1 with
    | some (x, hp2) => match lstOf x hp2 with
      | some ds => match strsD ds with
        | some ys => if jnOk a ys = true then some (.str (Txt.join a ys), hp2) else none
        | none => none
      | none => none
    | none => none
  | _ => none
def mSplit (fo fa : AE) : AA := fun ls hp => match fo ls hp with
  | some (.str a, hp1) => match fa ls hp1 with
    | some (.str b, hp2) => if (b.length == 0) = false ∧ a.length + 2 ≤ sizeLine then some ((Txt.split a b).map D.str, hp2) else none
    | _ => none
  | _ => none
section
variable {X : Cx} {o e : Expr} {fo fa : AE} {fl : AA}
theorem de_join {apos pos : Pos} (ho : DE X o fo) (he : LE X e fl) (hs : starEach [e] X.env = [(false, eval e X.env)] := by rfl) (hbase : attributeBase o "join" X.env (eval o X.env) = eval o X.env := by rfl) (hline : (apos.endLine == pos.line) = true := by rfl) :
    DE X (.Call (.Attribute o "join" apos) [e] [] pos) (mJoin fo fl) :=
  PE.imp (pe_join ho he hs hbase hline) fun σ H Q ⟨ls, hp, μ, d, hp', rl, rh, e, q⟩ => by
    unfold mJoin at e
    split at e
    · rename_i a hp1 e1
      split at e
      · rename_i ds hp2 e2
        split at e
        · rename_i ys e3
          split at e
          · rename_i hz
            cases e
            refine ⟨ls, hp, μ, _, hp1, rl, rh, e1, fun v1 H1 μ1 x1 rh1 r1 => ⟨⟨a, r1.strE⟩, ls, hp1, μ1, ds, hp', rl.ext x1, rh1, e2, fun p vs H2 μ2 x2 rh2 h0 hn hl2 r2 => ?_⟩⟩
            cases strsD_some e3
            cases r2.strs
            exact ⟨a, p, ys, r1.strE, rfl, .inl (.inl (.inl hl2)), of_decide_eq_true hz, q _ H2 μ2 (x1.trans x2) rh2 Rp.str⟩
          · cases e
        · cases e
      · cases e
    · cases e
theorem de_joinO {apos pos : Pos} (ho : DE X o fo) (he : DE X e fa) (hs : starEach [e] X.env = [(false, eval e X.env)] := by rfl) (hbase : attributeBase o "join" X.env (eval o X.env) = eval o X.env := by rfl) (hline : (apos.endLine == pos.line) = true := by rfl) :
    DE X (.Call (.Attribute o "join" apos) [e] [] pos) (mJoinO fo fa) :=
  PE.imp (pe_join ho he hs hbase hline) fun σ H Q ⟨ls, hp, μ, d, hp', rl, rh, e, q⟩ => by
    unfold mJoinO at e
    split at e
    · rename_i a hp1 e1
      split at e
      · rename_i x hp2 e2
        split at e
        · rename_i ds e4
          split at e
          · rename_i ys e3
            split at e
            · rename_i hz
              cases e
              refine ⟨ls, hp, μ, _, hp1, rl, rh, e1, fun v1 H1 μ1 x1 rh1 r1 => ⟨⟨a, r1.strE⟩, ls, hp1, μ1, x, hp', rl.ext x1, rh1, e2, fun v2 H2 μ2 x2 rh2 r2 => ?_⟩⟩
              obtain ⟨n, rfl, eh⟩ := lstOf_some e4
              obtain ⟨p, ep, rfl⟩ := r2.refE
              obtain ⟨vs, ev, rs⟩ := rh2.lst ep eh
              cases strsD_some e3
              cases rs.strs
              exact ⟨a, p, ys, r1.strE, rfl, .inl (.inl (.inl ev)), of_decide_eq_true hz, q _ H2 μ2 (x1.trans x2) rh2 Rp.str⟩
            · cases e
          · cases e
        · cases e
      · cases e
    · cases e
theorem le_split {apos pos : Pos} (ho : DE X o fo) (he : DE X e fa) (hs : starEach [e] X.env = [(false, eval e X.env)] := by rfl) (hbase : attributeBase o "split" X.env (eval o X.env) = eval o X.env := by rfl) (hline : (apos.endLine == pos.line) = true := by rfl) :
    LE X (.Call (.Attribute o "split" apos) [e] [] pos) (mSplit fo fa) :=
  PE.imp (pe_split ho he hs hbase hline) fun σ H Q ⟨ls, hp, μ, d, hp', rl, rh, e, q⟩ => by
    unfold mSplit at e
    split at e
    · rename_i a hp1 e1
      split at e
      · rename_i b hp2 e2
        split at e
        · rename_i hz
          cases e
          refine ⟨ls, hp, μ, _, hp1, rl, rh, e1, fun v1 H1 μ1 x1 rh1 r1 => ⟨⟨a, r1.strE⟩, ls, hp1, μ1, _, hp', rl.ext x1, rh1, e2, fun v2 H2 μ2 x2 rh2 r2 => ?_⟩⟩
          refine ⟨a, b, r1.strE, by rw [r2.strE], hz.1, hz.2, fun p' hp0 => ?_⟩
          have x4 := Ext.laid rh2 (o := .lst ((Txt.split a b).map V.str)) hp0
          exact q p' _ _ μ2 ((x1.trans x2).trans x4) (rh2.laid hp0) ((x1.trans x2).back rh2 hp0) (rh2.notIn hp0) upd_same Rps.ofStrs
        · cases e
      · cases e
    · cases e
end
section
variable {ls : Ls} {hp hp1 hp2 : Hd} {fo fa : AE} {fl : AA} {a b : Str} {ys : List Str}
theorem mJoin_of (e1 : fo ls hp = some (.str a, hp1)) (e2 : fl ls hp1 = some (ys.map D.str, hp2)) (hz : (ys.map (·.length)).sum + ys.length * a.length ≤ 16777216) : mJoin fo fl ls hp = some (.str (Txt.join a ys), hp2) := by
  unfold mJoin
  rw [e1]
  dsimp only
  rw [e2]
  dsimp only
  rw [strsD_map]
  exact if_pos (decide_eq_true hz)
theorem mJoinO_of {n : Nat} (e1 : fo ls hp = some (.str a, hp1)) (e2 : fa ls hp1 = some (.ref n, hp2)) (g : hp2[n]? = some (.lst (ys.map D.str))) (hz : (ys.map (·.length)).sum + ys.length * a.length ≤ 16777216) : mJoinO fo fa ls hp = some (.str (Txt.join a ys), hp2) := by
  unfold mJoinO
  rw [e1]
  dsimp only
  rw [e2]
  dsimp only
  rw [lstOf_ref g]
  dsimp only
  rw [strsD_map]
  exact if_pos (decide_eq_true hz)
theorem mSplit_of (e1 : fo ls hp = some (.str a, hp1)) (e2 : fa ls hp1 = some (.str b, hp2)) (hb : (b.length == 0) = false) (hz : a.length + 2 ≤ sizeLine) : mSplit fo fa ls hp = some ((Txt.split a b).map D.str, hp2) := by
  unfold mSplit
  rw [e1]
  dsimp only
  rw [e2]
  exact if_pos ⟨hb, hz⟩
end
end Ve
namespace Ve
open PySem PySem.Spec L2
theorem nextOf_text_end {prog : Program} {w : World} {A : Around} {E : Value → Shared → Prop} {s : Shared} {it : Addr} {x : Str} {t : Tok} {i : Nat} {Q : Value → Shared → Prop} (hh : A.handled = none) (hit : s.heap.IsStrIter it (strIterType x) x t i) (hx : x.cps[i]? = none)
    (hE : ∀ h' e, Heap.ExtBut it s.heap h' → (∃ o, h'.get? e = some o ∧ o.cls = .type "StopIteration") → E (.ref e) { s with heap := h' }) : wpAny (model prog w) A (Builtin.SmallTypes.nextOf (.ref it)) Q E s := by
  cases ha : x.cps.all (· < 128)
  · simp only [strIterType, ha, Bool.false_eq_true, if_false] at hit
    exact wpAny_nextOf_wide_end hh hit hx hE
  · simp only [strIterType, ha, if_true] at hit
    exact wpAny_nextOf_ascii_end hh hit hx hE
def IteS (x : Str) : It :=
  ⟨fun i _ => i < x.cps.size, fun i H v H' => ∃ T c, v = .ref T ∧ H T = none ∧ x.cps[i]? = some c ∧ H' = upd H T (.tup [.int (i : Nat), .str ⟨#[c]⟩]), fun i _ => x.cps.size ≤ i⟩
theorem turn_enumS {P : Program} {w : World} {K : PySem.W.Frag} {elts : List Expr} {kk : Nat} {tpos : Pos} (x : Str) (t : Tok) (e it : Addr) :
    Turn P w K (.Tuple elts kk tpos) (IteS x) [e, it] e (fun i h => (∃ old, IsEnum h e it ((i : Nat) : Int) old) ∧ h.IsStrIter it (strIterType x) x t i ∧ e ≠ it) where
  mem := by simp
  obj := fun i h st b hb => by
    obtain ⟨⟨old, he⟩, ⟨o, ho, hc, hd⟩, _⟩ := st
    have e' : b = e ∨ b = it := by simpa using hb
    rcases e' with z | z
    · rw [z]; exact ⟨_, he, fun v q => nomatch q⟩
    · rw [z]; exact ⟨o, ho, fun v q => by rw [hd] at q; cases q⟩
  keep := fun i h h' st k => let ⟨⟨old, he⟩, hi, hne⟩ := st; ⟨⟨old, k e (by simp) _ he⟩, (let ⟨o, ho, r⟩ := hi; ⟨o, k it (by simp) o ho, r⟩), hne⟩
  item := by
    intro X hP hw hK hc i pins s σ H E I hf st hg
    subst hP hw hK
    obtain ⟨⟨old, he⟩, hit, hne⟩ := st
    have hel : e < s.heap.objs.size := Heap.lt_size he
    have hil : it < s.heap.objs.size := by obtain ⟨_, q, _⟩ := hit; exact Heap.lt_size q
    refine wpAny_pyNext_enum_itemD (Draws.text (prog := X.prog) (w := X.w) (A := X.A.in1) (I.ok.hd hc) it x t) he hit hg hne (by simp; exact hne) fun x' h' tk hpx ho hit' hT hsz hk => ?_
    obtain ⟨c, u, hcx, rfl⟩ := hpx
    refine ⟨_, rfl, wpAny_letOwnedTupleGo_enum (s := { s with heap := h', toks := tk + 1 }) ho fun h'' he' sb => ?_⟩
    have hT2 : h''.get? s.heap.objs.size = some { cls := .type "tuple", data := .seq #[.int i tk, .str ⟨#[c]⟩ u] } := (sb.2 _ (Nat.ne_of_gt hel)).trans hT
    have new : ObjOk X.prog X.w (upd H s.heap.objs.size (.tup [.int (i : Nat), .str ⟨#[c]⟩])) h'' s.heap.objs.size (.tup [.int (i : Nat), .str ⟨#[c]⟩]) :=
      ⟨by show 2 ≤ sizeLine; decide, [.int i tk, .str ⟨#[c]⟩ u], .cons ⟨_, rfl⟩ (.cons ⟨_, rfl⟩ .nil), ⟨_, hT2, rfl, _, rfl⟩⟩
    have I1 : Inv X pins σ (upd H s.heap.objs.size (.tup [.int (i : Nat), .str ⟨#[c]⟩])) { s with heap := h'', toks := tk + 1 } :=
      I.turnedNew (ch := [e, it]) (fun b ob hb q => (sb.2 b (fun z => hb (by simp [z]))).trans (hk b ob (fun z => hb (by simp [z])) (fun z => hb (by simp [z])) q)) hf (Nat.le_refl _) new
    refine ⟨.ref s.heap.objs.size, _, I1, rfl, ⟨_, c, rfl, I.hok.fresh (Nat.le_refl _), hcx, rfl⟩, ⟨⟨.str ⟨#[c]⟩ u, ?_⟩, (let ⟨o, ho, r⟩ := hit'; ⟨o, (sb.2 it (Ne.symm hne)).trans ho, r⟩), hne⟩, fun b hb => ?_⟩
    · have e1 : ((i + 1 : Nat) : Int) = (i : Int) + 1 := by omega
      rw [e1]; exact he'
    · have hb' : b < s.heap.objs.size := by
        have e' : b = e ∨ b = it := by simpa using hb
        rcases e' with z | z
        · rw [z]; exact hel
        · rw [z]; exact hil
      rw [upd_ne (Nat.ne_of_lt hb')]
      exact (hf b hb).1
  done := by
    intro X hP hw hK hc i pins s σ H E I hf st hg
    subst hP hw hK
    obtain ⟨⟨old, he⟩, hit, hne⟩ := st
    obtain ⟨f0, f1, f2, f3, f4, f5⟩ := hf it (by simp)
    have hx : x.cps[i]? = none := Array.getElem?_eq_none hg
    have hT : s.TypeIs (.ref e) "enumerate" := ⟨_, he, rfl⟩
    unfold pyNext
    refine wpAny_bind (wpAny_attempt (wpAny_callSpecial?_slot (name := Str.ofString "__next__") hT F.slot_enumerate_next
      (wpAny_call_entry F.slot_enumerate_next hT F.entry_enumerate_next ?_ (F.args_enumerate_next_1 _))))
    show wpAny _ _ (field (.ref e) 2 >>= _) _ _ _
    refine wpAny_bind (wpAny_field he rfl (x := .ref it) rfl ?_)
    refine wpAny_bind (nextOf_text_end (A := X.A.in1) (I.ok.hd hc) hit hx fun h' y he' hx' => ?_)
    obtain ⟨o, ho, hc⟩ := hx'
    refine wpAny_bind (wpAny_isInstance (T := "StopIteration") (b := true) ⟨o, ho, hc⟩ isSubtype_stop ?_)
    exact wpAny_pure ⟨rfl, I.turned (t' := s.toks) (fun b o hb q => he' b o hb q) f0 f1 f3 f4 f5⟩
  self := fun A i s Q E st h => let ⟨⟨_, he⟩, _⟩ := st; wpAny_pyIter_enum he h
def iEnumS (ta : TA) : TI := fun σ H R => ta σ H fun vs H1 => ∃ x, vs = [.str x] ∧ R (IteS x) H1
open PyProof.Rows in
theorem pi_enumS {X : Cx} {e : Expr} {ta : TA} {p pos tpos : Pos} {elts : List Expr} {kk : Nat} (hg : Gl X "enumerate") (hm : X.mg "enumerate" = none) (ha : PA X [e] ta) (hs : starEach [e] X.env = [(false, eval e X.env)] := by rfl) :
    PI X (.Tuple elts kk tpos) (.Call (.Name "enumerate" p) [e] [] pos) (iEnumS ta) := by
  refine ⟨fun pins s σ H R I h => ?_⟩
  refine PyProof.Rows.Call_ (ld_blt I hg hm boot_enumerate (PyProof.Rows.callWith_type1 (thn (ha.run pos pins s σ H _ I h) fun us s1 ⟨vs, H1, I1, r1, q1⟩ => ?_) hs rfl))
  obtain ⟨x, ex, q⟩ := q1
  subst ex
  cases r1 with
  | cons r rr =>
    cases rr
    obtain ⟨t, rfl⟩ := r
    refine call_enumerate_str fun h' he hit hsz hk => wpAny_pyIter_enum he ?_
    have I2 : Inv X pins σ H1 { s1 with heap := h' } := I1.kept (t' := s1.toks) hk
    refine ⟨s1.heap.objs.size + 1, [s1.heap.objs.size + 1, s1.heap.objs.size], _, _, H1, rfl, I2, turn_enumS x t (s1.heap.objs.size + 1) s1.heap.objs.size, ⟨⟨.none, he⟩, hit, Nat.succ_ne_self _⟩, fun b hb => ?_, q⟩
    have e' : b = s1.heap.objs.size + 1 ∨ b = s1.heap.objs.size := by simpa using hb
    have hle : s1.heap.objs.size ≤ b := by
      rcases e' with z | z
      · rw [z]; exact Nat.le_add_right _ _
      · rw [z]; exact Nat.le_refl _
    exact I1.fpOk hle (I1.hok.fresh hle)
def sgnD (x : Str) : List D := x.cps.toList.map fun c => .str ⟨#[c]⟩
def mEnumS (f : AE) : AI := fun ls hp => match f ls hp with
  | some (.str x, hp1) => some (enumD (sgnD x), [], hp1)
  | _ => none
section
variable {X : Cx} {e : Expr} {fa : AE} {elts : List Expr} {kk : Nat} {pos tpos : Pos}
theorem di_enumS {p : Pos} (hg : Gl X "enumerate") (hm : X.mg "enumerate" = none) (ha : DE X e fa)
    (hs0 : starEach [e] X.env = (false, eval e X.env) :: starEach [] X.env := by rfl) (hs : starEach [e] X.env = [(false, eval e X.env)] := by rfl) :
    DI X (.Tuple elts kk tpos) (.Call (.Name "enumerate" p) [e] [] pos) (mEnumS fa) :=
  PI.imp (pi_enumS hg hm (pa_cons ha pa_nil hs0) hs) fun σ H R ⟨ls, hp, μ, items, gd, hp', rl, rh, e, q⟩ => by
    unfold mEnumS at e
    split at e
    · rename_i x hp1 e1
      cases e
      refine ⟨ls, hp, μ, .str x, hp', rl, rh, e1, fun v H1 μ1 x1 rh1 r1 => ?_⟩
      refine ⟨x, by rw [r1.strE], q _ H1 μ1 x1 rh1 ?_⟩
      intro i H2 μ2 hp2 x2 rh2 _
      have hlen : (enumD (sgnD x)).length = x.cps.size := by
        rw [enumD_length]
        simp [sgnD]
      rw [hlen]
      refine ⟨fun hi => hi, fun hi => ⟨hi, fun v H3 hy => ?_⟩⟩
      obtain ⟨T, c, rfl, hT, hc, rfl⟩ := hy
      have x4 := Ext.laid rh2 (o := .tup [.int (i : Nat), .str ⟨#[c]⟩]) hT
      refine ⟨_, enumD_at (x := .str ⟨#[c]⟩) ?_, x4, rh2.laid hT, Rp.tup upd_same (Rps.mk Rp.int (Rps.mk Rp.str Rps.nil))⟩
      unfold sgnD
      rw [List.getElem?_map, Array.getElem?_toList, hc]
      rfl
    · cases e
end
theorem mEnumS_of {fa : AE} {ls : Ls} {hp hp1 : Hd} {x : Str} (e : fa ls hp = some (.str x, hp1)) : mEnumS fa ls hp = some (enumD (sgnD x), [], hp1) := by
  unfold mEnumS
  rw [e]
end Ve
namespace Ve
open PySem PySem.Spec L2
mutual
theorem NK_hash (w w' : World) : ∀ {d : D} {k : NestedKey}, toNK d = some k → k.hash w = k.hash w'
  | .int _, _, h => by
    rw [toNK] at h
    cases h
    rfl
  | .tup ds, k, h => by
    rw [toNK] at h
    cases e : toNKs ds with
    | none => rw [e] at h; cases h
    | some ks =>
      rw [e] at h
      cases h
      rw [NestedKey.hash, NestedKey.hash, NKs_hash w w' e]
  | .non, _, h => by simp [toNK] at h
  | .bl _, _, h => by simp [toNK] at h
  | .str _, _, h => by simp [toNK] at h
  | .ref _, _, h => by simp [toNK] at h
  | .scr _, _, h => by simp [toNK] at h
  | .wt _, _, h => by simp [toNK] at h
theorem NKs_hash (w w' : World) : ∀ {ds : List D} {ks : List NestedKey}, toNKs ds = some ks → NestedKey.hashes w ks = NestedKey.hashes w' ks
  | [], _, h => by
    rw [toNKs] at h
    cases h
    rfl
  | d :: ds, k, h => by
    rw [toNKs] at h
    cases e : toNK d with
    | none => rw [e] at h; cases h
    | some k1 =>
      cases e2 : toNKs ds with
      | none => rw [e, e2] at h; cases h
      | some ks =>
        rw [e, e2] at h
        cases h
        rw [NestedKey.hashes, NestedKey.hashes, NK_hash w w' e, NKs_hash w w' e2]
end
section
variable {K : PySem.W.Frag} {H : Hp} {μ : List Addr} {P : Program} {w : World} {h : Heap}
mutual
theorem nested_at (hok : HOk P w H h) : ∀ {d : D} {k : NestedKey} {v : V} {u : Value}, toNK d = some k → Rp K H μ d v → RelV v u → NestedIs h k u
  | .int i, k, v, u, e, r, ru => by
    rw [toNK] at e
    cases e
    cases r.intE
    obtain ⟨t, rfl⟩ := ru
    exact .int i t
  | .tup ds, k, v, u, e, r, ru => by
    rw [toNK] at e
    cases e2 : toNKs ds with
    | none => rw [e2] at e; cases e
    | some ks =>
      rw [e2] at e
      cases e
      obtain ⟨a, vs, rfl, t, r2⟩ := r.tupE
      obtain rfl : u = Value.ref a := ru
      obtain ⟨_, its, rv, o, ho, hc, n, hd⟩ := hok a _ t
      exact .tup ho hc hd (nesteds_at hok e2 r2 rv)
  | .non, _, _, _, h, _, _ => by simp [toNK] at h
  | .bl _, _, _, _, h, _, _ => by simp [toNK] at h
  | .str _, _, _, _, h, _, _ => by simp [toNK] at h
  | .ref _, _, _, _, h, _, _ => by simp [toNK] at h
  | .scr _, _, _, _, h, _, _ => by simp [toNK] at h
  | .wt _, _, _, _, h, _, _ => by simp [toNK] at h
theorem nesteds_at (hok : HOk P w H h) : ∀ {ds : List D} {ks : List NestedKey} {vs : List V} {us : List Value}, toNKs ds = some ks → Rps K H μ ds vs → Vals vs us → NestedAll h ks us
  | [], _, _, _, e, r, rv => by
    rw [toNKs] at e
    cases e
    rw [Rps] at r
    subst r
    cases rv
    exact .nil
  | d :: ds, k, vs, us, e, r, rv => by
    rw [toNKs] at e
    cases e1 : toNK d with
    | none => rw [e1] at e; cases e
    | some k1 =>
      cases e2 : toNKs ds with
      | none => rw [e1, e2] at e; cases e
      | some ks =>
        rw [e1, e2] at e
        cases e
        rw [Rps] at r
        obtain ⟨v, r', rfl, h1, h2⟩ := r
        cases rv with
        | cons x y => exact .cons (nested_at hok e1 h1 x) (nesteds_at hok e2 h2 y)
end
theorem RpN.mem : ∀ {ds : List D} {kas : List (NestedKey × Addr)} {p : NestedKey × Addr}, RpN K H μ ds kas → p ∈ kas → ∃ d ∈ ds, toNK d = some p.1 ∧ p.1.depth ≤ 8 ∧ Rp K H μ d (.ref p.2)
  | [], kas, p, r, hp => by
    rw [RpN] at r
    subst r
    cases hp
  | d :: ds, kas, p, r, hp => by
    rw [RpN] at r
    obtain ⟨k, a, r', rfl, h1, h2, h3, h4⟩ := r
    rcases List.mem_cons.mp hp with rfl | z
    · exact ⟨d, List.mem_cons_self, h1, h2, h3⟩
    · obtain ⟨d', hd, q⟩ := RpN.mem h4 z
      exact ⟨d', List.mem_cons_of_mem _ hd, q⟩
theorem RpN.keys : ∀ {ds : List D} {kas : List (NestedKey × Addr)}, RpN K H μ ds kas → ds.map toNK = kas.map fun p => some p.1
  | [], kas, r => by
    rw [RpN] at r
    subst r
    rfl
  | d :: ds, kas, r => by
    rw [RpN] at r
    obtain ⟨k, a, r', rfl, h1, h2, h3, h4⟩ := r
    rw [List.map_cons, List.map_cons, h1, RpN.keys h4]
theorem RpN.snoc {d : D} {k : NestedKey} {a : Addr} (h1 : toNK d = some k) (h2 : k.depth ≤ 8) (h3 : Rp K H μ d (.ref a)) : ∀ {ds : List D} {kas : List (NestedKey × Addr)}, RpN K H μ ds kas → RpN K H μ (ds ++ [d]) (kas ++ [(k, a)])
  | [], kas, r => by
    rw [RpN] at r
    subst r
    show RpN K H μ [d] [(k, a)]
    rw [RpN]
    exact ⟨k, a, [], rfl, h1, h2, h3, by rw [RpN]⟩
  | x :: ds, kas, r => by
    rw [RpN] at r
    obtain ⟨k', a', r', rfl, g1, g2, g3, g4⟩ := r
    show RpN K H μ (x :: (ds ++ [d])) _
    rw [RpN]
    exact ⟨k', a', r' ++ [(k, a)], rfl, g1, g2, g3, RpN.snoc h1 h2 h3 g4⟩
abbrev trE (kas : List (NestedKey × Addr)) : List (NestedKey × Addr × Value) := kas.map fun p => (p.1, p.2, Value.bool true)
theorem dict_of (hok : HOk P w H h) {a : Addr} {ds : List D} {kas : List (NestedKey × Addr)} (p : dnP a kas h) (r : RpN K H μ ds kas) : h.DictOfH (nestedKind P w) a (trE kas) := by
  obtain ⟨_, _, nd, o, es, ep, h1, h2, h3, h4⟩ := p
  refine ⟨o, es, ep, h1, h2, h3, by rw [h4 w, List.map_map]; rfl, fun x hx => ?_, by rw [List.map_map]; exact nd⟩
  obtain ⟨q, hq, rfl⟩ := List.mem_map.mp hx
  obtain ⟨d, _, e1, e2, e3⟩ := r.mem hq
  exact ⟨nested_at hok e1 e3 rfl, e2⟩
theorem dnP_ok {a : Addr} {kas : List (NestedKey × Addr)} (p : dnP a kas h) : ObjOk P w H h a (.ext (dnP a kas)) := by
  refine ⟨p, ?_, fun h1 h2 q st => ?_⟩
  · obtain ⟨_, _, _, o, _, _, e, _⟩ := p
    exact ⟨o, e⟩
  · obtain ⟨z1, z2, z3, o, es, ep, e, r⟩ := q
    exact ⟨z1, z2, z3, o, es, ep, st _ e, r⟩
theorem dn_of {a a0 : Addr} {kas : List (NestedKey × Addr)} (hok : HOk P w H h) (e : H a = some (.ext (dnP a0 kas))) : a0 = a ∧ dnP a kas h := by
  obtain ⟨p, ⟨o, eo⟩, st⟩ := hok a _ e
  have key : a0 = a := by
    by_cases c : a0 = a
    · exact c
    · obtain ⟨G, g1, g2⟩ := restrict h (fun b => b == a)
      have q := st h G p fun o q => (g1 a (by simp)).trans q
      obtain ⟨_, _, _, o', _, _, e', _⟩ := q
      rw [g2 a0 (by simp [c])] at e'
      cases e'
  subst key
  exact ⟨rfl, p⟩
end
def hasNK (ds : List D) (k : NestedKey) : Bool := ds.any fun d => decide (toNK d = some k)
theorem any_keys (k : NestedKey) : ∀ kas : List (NestedKey × Addr), ((kas.map fun p => some p.1).any fun x => decide (x = some k)) = (atKey (trE kas) k).isSome
  | [] => rfl
  | p :: kas => by
    have ih := any_keys k kas
    unfold atKey at ih ⊢
    rw [List.map_cons, List.any_cons, show trE (p :: kas) = (p.1, p.2, Value.bool true) :: trE kas from rfl, List.find?_cons]
    by_cases h : p.1 = k
    · rw [decide_eq_true (show some p.1 = some k by rw [h])]
      simp [h]
    · rw [decide_eq_false (show ¬ some p.1 = some k from fun z => h (Option.some.inj z)), Bool.false_or, ih]
      simp [h]
theorem hasNK_keys {K : PySem.W.Frag} {H : Hp} {μ : List Addr} {ds : List D} {kas : List (NestedKey × Addr)} (r : RpN K H μ ds kas) (k : NestedKey) : hasNK ds k = (atKey (trE kas) k).isSome := by
  have e : hasNK ds k = (ds.map toNK).any fun x => decide (x = some k) := by
    unfold hasNK
    rw [List.any_map]
    rfl
  rw [e, r.keys, any_keys]
theorem RpN.len {K : PySem.W.Frag} {H : Hp} {μ : List Addr} : ∀ {ds : List D} {kas : List (NestedKey × Addr)}, RpN K H μ ds kas → ds.length = kas.length
  | [], kas, r => by
    rw [RpN] at r
    subst r
    rfl
  | d :: ds, kas, r => by
    rw [RpN] at r
    obtain ⟨k, a, r', rfl, h1, h2, h3, h4⟩ := r
    rw [List.length_cons, List.length_cons, RpN.len h4]
theorem RelH.dicN {K : PySem.W.Frag} {H : Hp} {μ : List Addr} {hp : Hd} (r : RelH K H μ hp) {n : Nat} {a : Addr} {ds : List D} (h : μ[n]? = some a) (e : hp[n]? = some (.dicN ds)) : ∃ a0 kas, H a = some (.ext (dnP a0 kas)) ∧ RpN K H μ ds kas := by
  obtain ⟨a2, e2, q⟩ := r.at_ e
  rw [h] at e2
  cases e2
  exact q
def nkOf (y : D) : Option NestedKey := match y with
  | .tup _ => match toNK y with
    | some k => if k.depth ≤ 8 then some k else none
    | none => none
  | _ => none
theorem nkOf_some {y : D} {k : NestedKey} (h : nkOf y = some k) : (∃ ds, y = .tup ds) ∧ toNK y = some k ∧ k.depth ≤ 8 := by
  unfold nkOf at h
  split at h
  · rename_i ds
    split at h
    · rename_i k' e
      split at h
      · rename_i hd
        cases h
        exact ⟨⟨ds, rfl⟩, e, hd⟩
      · cases h
    · cases h
  · cases h
def dsN (x : D) (hp : Hd) : Option (Nat × List D) := match x with
  | .ref n => match hp[n]? with
    | some (.dicN ds) => some (n, ds)
    | _ => none
  | _ => none
theorem dsN_some {x : D} {hp : Hd} {n : Nat} {ds : List D} (h : dsN x hp = some (n, ds)) : x = .ref n ∧ hp[n]? = some (.dicN ds) := by
  unfold dsN at h
  split at h
  · split at h
    · rename_i m ds' e
      cases h
      exact ⟨rfl, e⟩
    · cases h
  · cases h
def gSetN (x y v : D) (hp : Hd) : Option Hd := match dsN x hp, nkOf y, v with
  | some (n, ds), some k, .bl true => if ds.length < sizeLine then some (if hasNK ds k = true then hp else hp.set n (.dicN (ds ++ [y]))) else none
  | _, _, _ => none
def rSetN (K : PySem.W.Frag) : TSet := fun x y v H Q => ∃ hp μ dx dy dv hp', RelH K H μ hp ∧ Rp K H μ dx x ∧ Rp K H μ dy y ∧ Rp K H μ dv v ∧ gSetN dx dy dv hp = some hp' ∧
  ∀ H', Ext μ H μ H' → RelH K H' μ hp' → Q H'
section
variable {X : Cx}
theorem set_anyN (hu : X.A.units + 65 < cLine) : PSet X (rSetN X.K) := by
  intro pins s σ H o i v ov iv u Q I ro ri rv h
  obtain ⟨hp, μ, dx, dy, dv, hp', rh, rx, ry, rw', e, q⟩ := h
  unfold gSetN at e
  split at e
  · rename_i n ds k e1 e2
    split at e
    · rename_i hl
      obtain ⟨rfl, eh⟩ := dsN_some e1
      obtain ⟨⟨ys, rfl⟩, hk, hd⟩ := nkOf_some e2
      obtain ⟨a, ea, rfl⟩ := rx.refE
      obtain ⟨a0, kas, eH, r⟩ := rh.dicN ea eh
      obtain ⟨rfl, p⟩ := dn_of I.hok eH
      obtain ⟨b, ws, rfl, hb, rs⟩ := ry.tupE
      obtain rfl : ov = Value.ref a0 := ro
      obtain rfl : iv = Value.ref b := ri
      have hv : u = Value.bool true := by
        cases rw'.blE
        exact rv
      subst hv
      have D := dict_of I.hok p r
      have hkey : (nestedKind X.prog X.w).is s.heap k b := ⟨nested_at I.hok hk ry rfl, hd⟩
      refine wpAny_setItem_heap (hsz := by rw [List.length_map, ← r.len]; omega) (show X.A.in1.units + 8 < cLine by show X.A.units + 1 + 8 < cLine; omega) hkey D fun h' hm' hs => ?_
      have hn := hasNK_keys r k
      cases c : hasNK ds k with
      | true =>
        rw [c] at e hn
        cases e
        have est : storedH (trE kas) k b (.bool true) = trE kas := by
          unfold storedH
          rw [if_pos hn.symm, List.map_map]
          refine List.map_congr_left fun x _ => ?_
          show putAt k (.bool true) (x.1, x.2, .bool true) = _
          unfold putAt
          split <;> rfl
        rw [est] at hm'
        obtain ⟨z1, z2, z3, _⟩ := p
        obtain ⟨o, es, ep, g1, g2, g3, g4, _, g6⟩ := hm'
        have new : ObjOk X.prog X.w (upd H a0 (.ext (dnP a0 kas))) h' a0 (.ext (dnP a0 kas)) := dnP_ok ⟨z1, z2, z3, o, es, ep, g1, g2, g3, fun w => by
          rw [g4, List.map_map]
          refine List.map_congr_left fun x hx => ?_
          obtain ⟨d, _, e1, _, _⟩ := r.mem hx
          show (⟨x.1.hash X.w, .ref x.2, .bool true⟩ : DictEntry) = _
          rw [NK_hash X.w w e1]⟩
        have I2 : Inv X pins σ (upd H a0 (.ext (dnP a0 kas))) { s with heap := h', toks := s.toks + (nestedKind X.prog X.w).draws k } := d_write I (by rw [eH]; exact True.intro) hs ⟨o, g1⟩ new
        have eU : upd H a0 (.ext (dnP a0 kas)) = H := by
          funext c
          by_cases z : c = a0
          · rw [z, upd_same, eH]
          · rw [upd_ne z]
        rw [eU] at I2
        exact ⟨H, I2, q H Ext.refl rh⟩
      | false =>
        rw [c] at e hn
        cases e
        have hno : atKey (trE kas) k = none := by
          cases z : atKey (trE kas) k with
          | none => rfl
          | some p => rw [z] at hn; cases hn
        rw [storedH_new hno] at hm'
        obtain ⟨z1, z2, z3, _⟩ := p
        obtain ⟨o, es, ep, g1, g2, g3, g4, _, g6⟩ := hm'
        have e5 : trE kas ++ [(k, b, Value.bool true)] = trE (kas ++ [(k, b)]) := by
          show _ = (kas ++ [(k, b)]).map _
          rw [List.map_append]
          rfl
        rw [e5] at g4 g6
        have r2 := r.snoc hk hd ry
        have new : ObjOk X.prog X.w (upd H a0 (.ext (dnP a0 (kas ++ [(k, b)])))) h' a0 (.ext (dnP a0 (kas ++ [(k, b)]))) := dnP_ok ⟨by rw [← r2.len, List.length_append, List.length_singleton]; omega, z2, by rw [List.map_map] at g6; exact g6, o, es, ep, g1, g2, g3, fun w => by
          rw [g4, List.map_map]
          refine List.map_congr_left fun x hx => ?_
          obtain ⟨d, _, e1, _, _⟩ := r2.mem hx
          show (⟨x.1.hash X.w, .ref x.2, .bool true⟩ : DictEntry) = _
          rw [NK_hash X.w w e1]⟩
        have x0 : Mon μ H μ (upd H a0 (.ext (dnP a0 (kas ++ [(k, b)])))) := ⟨⟨[], by simp⟩, fun b xs e => by rw [upd_ne (fun z => by subst z; rw [eH] at e; cases e)]; exact e, fun b ob xs _ e => by rw [upd_ne (fun z => by subst z; rw [eH] at e; cases e)]; exact e⟩
        obtain ⟨r3, x3⟩ := rh.put (o := .dicN (ds ++ [.tup ys])) (u := .ext (dnP a0 (kas ++ [(k, b)]))) ea ⟨a0, _, rfl, r2.mon x0⟩ eH
        exact ⟨_, d_write I (by rw [eH]; exact True.intro) hs ⟨o, g1⟩ new, q _ x3 r3⟩
    · cases e
  · cases e
def sStoreN (fe fo fi : AE) : AS := fun ls hp => match fe ls hp with
  | some (v, hp1) => match fo ls hp1 with
    | some (x, hp2) => match fi ls hp2 with
      | some (y, hp3) => match gSetN x y v hp3 with
        | some hp4 => some (.nx, ls, hp4)
        | none => none
      | none => none
    | none => none
  | none => none
section
variable {e o i : Expr} {fe fo fi : AE} {pos pos' : Pos}
theorem ds_storeN (hu : X.A.units + 65 < cLine) (he : DE X e fe) (ho : DE X o fo) (hi : DE X i fi) (hs : swapsWithSole [.Subscript o i pos'] e pos.line X.env = pure false := by rfl)
    (hsw : swappedStores [.Subscript o i pos'] e X.env = pure none := by rfl) (h1 : (assignEach [.Subscript o i pos'] X.env).map (·.2) = [assign (.Subscript o i pos') X.env] := by rfl)
    (ha : ∀ v, assign (.Subscript o i pos') X.env v = (do
      let ov ← holding [v] (eval o X.env)
      let iv ← holding [v, ov] (eval i X.env)
      standAt pos'
      holding [v, ov, iv] (setItem ov iv v)
      release [v, ov, iv] []) := by intro _; rfl) : DS X (.Assign [.Subscript o i pos'] e pos) (sStoreN fe fo fi) :=
  PS.imp (ps_asg he (pg_sub ho hi (set_anyN hu) ha) hs hsw h1) fun Dn σ H ⟨ls, hp, μ, fl, ls', hp', rl, rh, e, q⟩ => by
    unfold sStoreN at e
    split at e
    · rename_i v hp1 e1
      split at e
      · rename_i x hp2 e2
        split at e
        · rename_i y hp3 e3
          split at e
          · rename_i hp4 e4
            cases e
            exact ⟨ls, hp, μ, v, hp1, rl, rh, e1, fun v0 H1 μ1 x1 rh1 r1 => ⟨ls, hp1, μ1, x, hp2, rl.ext x1, rh1, e2, fun v2 H2 μ2 x2 rh2 r2 => ⟨ls, hp2, μ2, y, hp3, (rl.ext x1).ext x2, rh2, e3, fun v3 H3 μ3 x3 rh3 r3 =>
              ⟨hp3, μ3, x, y, v, hp', rh3, r2.ext x3, r3, (r1.ext x2).ext x3, e4, fun H4 x4 rh4 => q H4 μ3 (((x1.trans x2).trans x3).trans x4) rh4 σ ((((rl.ext x1).ext x2).ext x3).ext x4)⟩⟩⟩⟩
          · cases e
        · cases e
      · cases e
    · cases e
end
def mDict0N : AE := fun _ hp => some (.ref hp.length, hp ++ [.dicN []])
theorem de_dict0N {pos : Pos} : DE X (.Dict [] [] pos) mDict0N := ⟨fun pins s σ H Q I ⟨ls, hp, μ, d, hp', rl, rh, e, q⟩ => by
  cases e
  have h0 : H s.heap.objs.size = none := I.hok.fresh (Nat.le_refl _)
  have new : ∀ H' : Hp, ObjOk X.prog X.w H' (s.heap.push { cls := .type "dict", data := .dict #[] }) s.heap.objs.size (.ext (dnP s.heap.objs.size [])) := fun H' =>
    dnP_ok ⟨Nat.zero_le _, beq_eq_false_iff_ne.mpr (Ne.symm (Nat.ne_of_lt I.big)), List.nodup_nil, _, #[], 0, Heap.get?_push_size _ rfl, ⟨rfl, rfl, rfl⟩, rfl, fun w => rfl⟩
  have x4 := Ext.laid rh (o := .ext (dnP s.heap.objs.size [])) h0
  exact wpAny_Dict_empty ⟨.ref s.heap.objs.size, _, I.laid (a := s.heap.objs.size) (o := .ext (dnP s.heap.objs.size [])) (t' := s.toks) (fun _ _ q => Heap.get?_push_of_some _ q) (Nat.le_refl _) (new _), rfl, q (.ref s.heap.objs.size) _ (μ ++ [s.heap.objs.size]) (x4.place h0) ((rh.laid h0).place (rh.notIn h0) (by rw [upd_same]; exact ⟨_, [], rfl, by rw [RpN]⟩)) (Rp.last rh)⟩⟩
def gInN (neg : Bool) (y x : D) (hp : Hd) : Option (D × Hd) := match dsN x hp, nkOf y with
  | some (_, ds), some k => some (.bl (hasNK ds k != neg), hp)
  | _, _ => none
theorem in_anyN (hu : X.A.units + 65 < cLine) {neg : Bool} {pins : List (Addr × Obj)} {s : Shared} {σ : St} {H : Hp} {x y : V} {v u : Value} {Q : VK} (I : Inv X pins σ H s) (rx : RelV x v) (ry : RelV y u) (h : RD X.K (gInN neg) x y H Q) :
    wpAny (model X.prog X.w) X.A (contains u v) (fun b s' => EP X pins σ Q (.bool (b != neg)) s') X.xe s := by
  obtain ⟨hp, μ, d1, d2, d, hp', rh, r1, r2, e, q⟩ := h
  unfold gInN at e
  split at e
  · rename_i n ds k e1 e2
    cases e
    obtain ⟨rfl, eh⟩ := dsN_some e1
    obtain ⟨⟨ys, rfl⟩, hk, hd⟩ := nkOf_some e2
    obtain ⟨a, ea, rfl⟩ := r2.refE
    obtain ⟨a0, kas, eH, rn⟩ := rh.dicN ea eh
    obtain ⟨rfl, p⟩ := dn_of I.hok eH
    obtain ⟨b, ws, rfl, hb, rs⟩ := r1.tupE
    obtain rfl : u = Value.ref a0 := ry
    obtain rfl : v = Value.ref b := rx
    have D := dict_of I.hok p rn
    have hkey : (nestedKind X.prog X.w).is s.heap k b := ⟨nested_at I.hok hk r1 rfl, hd⟩
    refine wpAny_contains_heap (show X.A.in1.units + 8 < cLine by show X.A.units + 1 + 8 < cLine; omega) hkey p.2.1 D ?_
    rw [← hasNK_keys rn k]
    exact ⟨.bl (hasNK ds k != neg), H, I.tok _, rfl, q _ H μ Ext.refl rh Rp.bl⟩
  · cases e
theorem o_inN (hu : X.A.units + 65 < cLine) : OpR X (compareOp .In) (RD X.K (gInN false)) := fun pins s σ H x y v u Q I rx ry h => by
  refine wpAny_mono (wpAny_bind (m := contains u v) (f := fun b => pure (Value.bool b)) (wpAny_mono (in_anyN hu I rx ry h) (fun b s' hb => wpAny_pure ?_) fun _ _ e => e)) (fun _ _ e => e) fun _ _ e => e
  rw [Bool.bne_false] at hb
  exact hb
end
section
variable {ls : Ls} {hp hp1 hp2 hp3 : Hd} {n : Nat} {ds : List D} {y : D} {k : NestedKey}
theorem sStoreN_of {fe fo fi : AE} (e1 : fe ls hp = some (.bl true, hp1)) (e2 : fo ls hp1 = some (.ref n, hp2)) (e3 : fi ls hp2 = some (y, hp3)) (g : hp3[n]? = some (.dicN ds)) (hk : nkOf y = some k) (hl : ds.length < 16777216) :
    sStoreN fe fo fi ls hp = some (.nx, ls, if hasNK ds k = true then hp3 else hp3.set n (.dicN (ds ++ [y]))) := by
  unfold sStoreN
  rw [e1]
  dsimp only
  rw [e2]
  dsimp only
  rw [e3]
  dsimp only
  have : gSetN (.ref n) y (.bl true) hp3 = some (if hasNK ds k = true then hp3 else hp3.set n (.dicN (ds ++ [y]))) := by
    unfold gSetN dsN
    dsimp only
    rw [g, hk]
    exact if_pos (by rw [sizeLine_eq]; exact hl)
  rw [this]
theorem gInN_of {neg : Bool} (g : hp[n]? = some (.dicN ds)) (hk : nkOf y = some k) : gInN neg y (.ref n) hp = some (.bl (hasNK ds k != neg), hp) := by
  unfold gInN dsN
  dsimp only
  rw [g, hk]
end
end Ve
namespace Ve
open PySem PySem.Spec L2
theorem RpN.at_ {K : PySem.W.Frag} {H : Hp} {μ : List Addr} : ∀ {ds : List D} {kas : List (NestedKey × Addr)} {j : Nat} {p : NestedKey × Addr} {d : D}, RpN K H μ ds kas → kas[j]? = some p → ds[j]? = some d → Rp K H μ d (.ref p.2)
  | [], kas, j, p, d, r, h, e => by simp at e
  | x :: ds, kas, j, p, d, r, h, e => by
    rw [RpN] at r
    obtain ⟨k, a, r', rfl, h1, h2, h3, h4⟩ := r
    cases j with
    | zero =>
      simp at h e
      subst h e
      exact h3
    | succ j =>
      simp at h e
      exact RpN.at_ h4 h e
end Ve
namespace L2
open PySem PySem.Spec PyProof.Rows
def Itnk (d : Addr) (o : Obj) (kas : List (NestedKey × Addr)) : It :=
  ⟨fun i H => H d = some (.frz o (.ext (Ve.dnP d kas))) ∧ i < kas.length, fun i H x H' => H' = H ∧ ∃ (k : NestedKey) (q : Addr), kas[i]? = some (k, q) ∧ x = .ref q, fun i H => H d = some (.frz o (.ext (Ve.dnP d kas))) ∧ kas.length ≤ i⟩
theorem Inv.frzN {X : Cx} {pins : List (Addr × Obj)} {σ : St} {H : Hp} {s : Shared} {d : Addr} {o : Obj} {kas : List (NestedKey × Addr)} (I : Inv X pins σ H s) (h : H d = some (.frz o (.ext (Ve.dnP d kas)))) :
    (d == sysModules) = false ∧ s.heap.get? d = some o ∧ o.ExactDict ∧ ∃ (es : Array DictEntry) (ep : Nat), o.data = .dict es ep ∧ es.size = kas.length ∧
      ∀ (i : Nat) (k : NestedKey) (q : Addr), kas[i]? = some (k, q) → ∃ en : DictEntry, es[i]? = some en ∧ en.key = .ref q := by
  obtain ⟨hd, p, _, _⟩ := I.hok d _ h
  obtain ⟨_, z, _, o', es, ep, ho, hx, hdt, he⟩ := p
  rw [hd] at ho
  cases ho
  have l1 : es.size = kas.length := by
    have := congrArg List.length (he X.w)
    rw [Array.length_toList, List.length_map] at this
    exact this
  refine ⟨z, hd, hx, es, ep, hdt, l1, fun i k q e => ?_⟩
  have h2 : es.toList[i]? = _ := congrArg (·[i]?) (he X.w)
  rw [List.getElem?_map, e] at h2
  rw [Array.getElem?_toList] at h2
  exact ⟨_, h2, rfl⟩
section
variable {P : Program} {w : World} {K : PySem.W.Frag} {tg : Expr} {d : Addr} {o : Obj} {es : Array DictEntry} {ep : Nat}
theorem turn_keysN {kas : List (NestedKey × Addr)} (it : Addr) (hod : o.data = .dict es ep) : Turn P w K tg (Itnk d o kas) [it] it (fun i h => h.IsKeyIter it d i kas.length ep) where
  mem := by simp
  obj := fun i h st b hb => by
    have e : b = it := by simpa using hb
    subst e
    obtain ⟨oi, e, c, dd⟩ := st
    exact ⟨oi, e, fun v z => by rw [dd] at z; cases z⟩
  keep := fun i h h' st k => st.at fun oi e => k it (by simp) oi e
  item := by
    intro X hP hw hK hc i pins s σ H E I hf st hg
    subst hP hw hK
    obtain ⟨hd, hi⟩ := hg
    obtain ⟨f0, f1, f2, f3, f4, f5⟩ := hf it (by simp)
    obtain ⟨hs, hgd, hx, es', ep', hdt, hsz, ent⟩ := I.frzN hd
    obtain ⟨rfl, rfl⟩ := dict_ep hod hdt
    obtain ⟨⟨k, q⟩, hkv⟩ : ∃ p, kas[i]? = some p := ⟨kas[i], List.getElem?_eq_getElem hi⟩
    obtain ⟨en, hen, hkey⟩ := ent i k q hkv
    refine next_key_item st hgd hdt hsz hen fun h' st' sb => ?_
    have I1 : Inv X pins σ H { s with heap := h' } := I.turned (t' := s.toks) (fun b ob hb e => (sb.2 b hb).trans e) f0 f1 f3 f4 f5
    obtain ⟨oi, e, c, dd⟩ := id st'
    exact ⟨en.key, rfl, go_of (s := { s with heap := h' }) e c dd (by decide) ⟨.ref q, H, I1, hkey, ⟨rfl, k, q, hkv, rfl⟩, st', fun b hb => (hf b hb).1⟩⟩
  done := by
    intro X hP hw hK hc i pins s σ H E I hf st hg
    subst hP hw hK
    obtain ⟨hd, hi⟩ := hg
    obtain ⟨f0, f1, f2, f3, f4, f5⟩ := hf it (by simp)
    obtain ⟨hs, hgd, hx, es', ep', hdt, hsz, ent⟩ := I.frzN hd
    obtain ⟨rfl, rfl⟩ := dict_ep hod hdt
    exact next_key_end (I.ok.hd hc) st hgd hdt hsz hi fun h' eb => ⟨rfl, I.turned (t' := s.toks) (fun b ob hb e => eb b ob hb e) f0 f1 f3 f4 f5⟩
  self := fun A i s Q E st h => by
    refine wpAny_pyIter_slot st.typeIs F.slot_dict_keyiterator_iter (wpAny_call_entry F.slot_dict_keyiterator_iter st.typeIs F.entry_dict_keyiterator_iter ?_ (F.args_dict_keyiterator_iter_1 _))
    show wpAny _ _ (ret (.ref it)) _ _ s
    exact wpAny_pure ⟨_, rfl, "dict_keyiterator", _, st.typeIs, F.slot_dict_keyiterator_next.lookup, h⟩
end
def iKeysN (td : TE) : TI := fun σ H R => td σ H fun x H1 => ∃ d a0 kas, x = .ref d ∧ H1 d = some (.ext (Ve.dnP a0 kas)) ∧ ∀ od, R (Itnk d od kas) (upd H1 d (.frz od (.ext (Ve.dnP d kas))))
section
variable {X : Cx} {tg e : Expr} {td : TE}
theorem pi_keysN (he : PE X e td) : PI X tg e (iKeysN td) := by
  refine ⟨fun pins s σ H R I h => ?_⟩
  refine thn (he.run pins s σ H _ I h) fun u s1 ⟨x, H1, I0, rx, d, a0, kas, ex, hd0, q⟩ => ?_
  subst ex
  obtain rfl : u = Value.ref d := rx
  obtain ⟨rfl, _⟩ := Ve.dn_of I0.hok hd0
  obtain ⟨o, I1⟩ := I0.lock hd0 True.intro
  obtain ⟨hs, hgd, hx, es, ep, hdt, hsz, ent⟩ := I1.frzN upd_same
  refine iter_keys hs hgd hx hdt (pi_one (tk := s1.toks) I1 _ (turn_keysN _ hdt) ⟨_, Heap.get?_push_size _ rfl, rfl, ?_⟩ (q o))
  rw [hsz] <;> rfl
end
end L2
namespace Ve
open PySem PySem.Spec L2
def mIKN (f : AE) : AI := fun ls hp => match f ls hp with
  | some (.ref n, hp1) => match hp1[n]? with
    | some (.dicN ks) => some (ks, [], hp1.set n (.dicM ks))
    | _ => none
  | _ => none
section
variable {X : Cx} {e tg : Expr} {fa : AE}
theorem di_keysN (h : DE X e fa) : DI X tg e (mIKN fa) := PI.imp (pi_keysN h) fun σ H R ⟨ls, hp, μ, items, gd, hp', rl, rh, e, q⟩ => by
  unfold mIKN at e
  split at e
  · rename_i n hp1 e1
    split at e
    · rename_i ks eh
      cases e
      refine ⟨ls, hp, μ, _, hp1, rl, rh, e1, fun v H1 μ1 x1 rh1 r1 => ?_⟩
      obtain ⟨a, ea, rfl⟩ := r1.refE
      obtain ⟨a0, kas, eH, rn⟩ := rh1.dicN ea eh
      refine ⟨a, a0, kas, rfl, eH, fun od => ?_⟩
      have x0 : Mon μ1 H1 μ1 (upd H1 a (.frz od (.ext (dnP a kas)))) := ⟨⟨[], by simp⟩, fun b xs e => by rw [upd_ne (fun z => by subst z; rw [eH] at e; cases e)]; exact e, fun b ob xs _ e => by rw [upd_ne (fun z => by subst z; rw [eH] at e; cases e)]; exact e⟩
      obtain ⟨r3, x3⟩ := rh1.put (o := .dicM items) (u := .frz od (.ext (dnP a kas))) ea ⟨a, kas, od, rfl, rn.mon x0⟩ eH
      refine q _ _ μ1 (x1.trans x3) r3 ?_
      intro i H2 μ2 hp2 x2 rh2 _
      have ev2 : H2 a = some (.frz od (.ext (dnP a kas))) := x2.scrs _ _ _ upd_same
      have hl := rn.len
      refine ⟨fun hi => ⟨ev2, by omega⟩, fun hi => ⟨⟨ev2, by omega⟩, fun x H3 hy => ?_⟩⟩
      obtain ⟨rfl, k, qa, e4, rfl⟩ := hy
      have hi2 : i < items.length := hi
      exact ⟨items[i], List.getElem?_eq_getElem hi2, Ext.refl, rh2, ((rn.at_ e4 (List.getElem?_eq_getElem hi2)).ext x3).ext x2⟩
    · cases e
  · cases e
end
def isTr : D → Bool
  | .bl b => b
  | _ => false
def gDictLN (ds : List D) (hp : Hd) : Option (D × Hd) := match prs? ds with
  | some ps => if ((ps.all fun p => (nkOf p.1).isSome && isTr p.2) && decide ((ps.map fun p => toNK p.1).Nodup)) = true then some (.ref hp.length, hp ++ [.dicN (ps.map (·.1))]) else none
  | none => none
section
variable {K : PySem.W.Frag} {H : Hp} {μ : List Addr}
theorem pairs_nk : ∀ {ds : List D} {ps : List (D × D)} {vs : List V}, prs? ds = some ps → (ps.all fun p => (nkOf p.1).isSome && isTr p.2) = true → Rps K H μ ds vs → ∃ (as : List Addr) (kas : List (NestedKey × Addr)), vs = as.map V.ref ∧ Paired (fun p ka => SqT K H p [V.ref ka.2, V.bl true]) as kas ∧ RpN K H μ (ps.map (·.1)) kas
  | [], ps, vs, h, _, r => by
    simp only [prs?] at h
    cases h
    rw [Rps] at r
    subst r
    exact ⟨[], [], rfl, .nil, by rw [List.map_nil, RpN]⟩
  | d :: ds, ps, vs, h, hk, r => by
    obtain ⟨k, v, ps', rfl, e, rfl⟩ := prs?_cons h
    rw [List.all_cons, Bool.and_eq_true] at hk
    rw [Rps] at r
    obtain ⟨v1, w, rfl, r1, r2⟩ := r
    obtain ⟨as, kas, rfl, hp, hr⟩ := pairs_nk e hk.2 r2
    obtain ⟨hk1, _⟩ := hk
    rw [Bool.and_eq_true] at hk1
    obtain ⟨nk, ek⟩ := Option.isSome_iff_exists.mp hk1.1
    obtain ⟨⟨ys, ey⟩, e2, e3⟩ := nkOf_some ek
    dsimp only at ey e2
    subst ey
    obtain ⟨a, xs, rfl, ta, ra⟩ := r1.tupE
    obtain ⟨x, y, rfl, rx, ry⟩ := ra.two
    obtain ⟨b, ws, rfl, tb, rb⟩ := rx.tupE
    have hv : v = .bl true := by
      have z := hk1.2
      dsimp only at z
      cases v <;> simp only [isTr] at z <;> try (cases z; done)
      rw [z]
    subst hv
    obtain rfl : y = V.bl true := ry.blE
    refine ⟨a :: as, (nk, b) :: kas, rfl, .cons ta.sq hp, ?_⟩
    rw [List.map_cons, RpN]
    exact ⟨nk, b, kas, rfl, e2, e3, rx, hr⟩
end
section
variable {X : Cx} {pins : List (Addr × Obj)} {σ : St} {H : Hp} {s : Shared}
theorem pairs_ofN (I : Inv X pins σ H s) : ∀ {as : List Addr} {kas : List (NestedKey × Addr)}, Paired (fun p ka => SqT X.K H p [V.ref ka.2, V.bl true]) as kas →
    kas.length = as.length ∧ ∀ (j : Nat) (q : NestedKey × Addr), kas[j]? = some q → ∃ b : Addr, as[j]? = some b ∧ PySem.PairAt s.heap b (.ref q.2) (.bool true)
  | _, _, .nil => ⟨rfl, fun j q e => by simp at e⟩
  | _, _, .cons (a := p) (b := ka) h t => by
    obtain ⟨hl, hp⟩ := pairs_ofN I t
    obtain ⟨its, rv, ht, _⟩ := I.tuple h
    obtain ⟨u, y, ei, ru, ry⟩ := vals2 rv
    subst ei
    obtain rfl : u = Value.ref ka.2 := ru
    obtain rfl : y = Value.bool true := ry
    refine ⟨by rw [List.length_cons, List.length_cons, hl], fun j q e => ?_⟩
    cases j with
    | zero =>
      have e' : ka = q := Option.some.inj e
      subst e'
      exact ⟨p, rfl, .inl ht⟩
    | succ j =>
      obtain ⟨b, e1, e2⟩ := hp j q (by simpa using e)
      exact ⟨b, by simpa using e1, e2⟩
theorem stored_nd : ∀ (kas acc : List (NestedKey × Addr)), ((acc ++ kas).map (·.1)).Nodup → storedAllH (trE acc) (trE kas) = trE (acc ++ kas)
  | [], acc, _ => by rw [List.append_nil]; rfl
  | p :: kas, acc, h => by
    have hno : atKey (trE acc) p.1 = none := by
      have hn : p.1 ∉ acc.map (·.1) := fun z => by
        rw [List.map_append, List.nodup_append] at h
        exact h.2.2 _ z _ (by simp) rfl
      have q := any_keys p.1 acc
      cases e : atKey (trE acc) p.1 with
      | none => rfl
      | some x =>
        rw [e, Option.isSome_some, List.any_eq_true] at q
        obtain ⟨x, hx, hd⟩ := q
        obtain ⟨y, hy, rfl⟩ := List.mem_map.mp hx
        exact (hn (List.mem_map.mpr ⟨y, hy, Option.some.inj (of_decide_eq_true hd)⟩)).elim
    have ih := stored_nd kas (acc ++ [p]) (by rw [List.append_assoc]; exact h)
    rw [List.append_assoc] at ih
    rw [← show trE (acc ++ ([p] ++ kas)) = trE (acc ++ p :: kas) from rfl, ← ih]
    show storedAllH (storedH (trE acc) p.1 p.2 (.bool true)) (trE kas) = _
    rw [storedH_new hno]
    congr 1
    show _ = (acc ++ [p]).map _
    rw [List.map_append]
    rfl
theorem n_dictN (hu : X.A.units + 65 < cLine) (hcalm : X.calm = true) : CallR X (.type "dict") (RN X.K gDictLN) := fun pins s σ H xs us Q I r ⟨hp, μ, ds, vs, p, d, hp', rh, ex, hn, hl, rs, e, q⟩ => by
  unfold gDictLN at e
  split at e
  · rename_i ps ep
    split at e
    · rename_i hk
      cases e
      subst ex
      rw [Bool.and_eq_true] at hk
      obtain ⟨as, kas, rfl, hpr, rn⟩ := pairs_nk ep hk.1 rs
      have hnd : (kas.map (·.1)).Nodup := by
        have z := of_decide_eq_true hk.2
        have z2 := rn.keys
        rw [List.map_map] at z2
        rw [show (ps.map fun p => toNK p.1) = kas.map fun p => some p.1 from z2, show (kas.map fun p => some p.1) = (kas.map (·.1)).map some by rw [List.map_map]; rfl] at z
        exact (List.pairwise_map.mp z).imp fun {a b} hab e => hab (by rw [e])
      have hsq : SqL X.K H p (as.map V.ref) := .inl (.inl hl)
      obtain ⟨u, eu, rx⟩ := vals1 r
      subst eu
      cases rx
      obtain ⟨its, rv, pl, hz⟩ := I.list hsq
      have ei := refs_at rv
      subst ei
      rw [List.length_map] at hz
      obtain ⟨hlen, hpr2⟩ := pairs_ofN I hpr
      obtain ⟨o, n, ho, hc, hd, hdat⟩ := pl
      have hnk : ∀ x ∈ trE kas, (nestedKind X.prog X.w).is s.heap x.1 x.2.1 := fun x hx => by
        obtain ⟨q, hq, rfl⟩ := List.mem_map.mp hx
        obtain ⟨d, _, e1, e2, e3⟩ := rn.mem hq
        exact ⟨nested_at I.hok e1 e3 rfl, e2⟩
      refine PySem.call_dict_pairsH (knd := nestedKind X.prog X.w) (ps := trE kas) (PySem.PairArg.list p (as.map Value.ref).toArray (fun j => as[j]?.getD 0) ((trE kas).map fun x => (Value.ref x.2.1, x.2.2))) (I.ok.hd hcalm) ?_ ⟨⟨o, n, ho, hc, hd, hdat⟩, by simp [hlen], fun j k v e => ?_⟩ ⟨by simp, fun i k v e => ?_⟩ ?_ (by simp; omega) fun h' tk hd' k => ?_
      · show X.A.units + 1 + 1 + 8 < cLine
        omega
      · rw [List.getElem?_map] at e
        cases e2 : (trE kas)[j]? with
        | none => rw [e2] at e; cases e
        | some q' =>
          rw [e2] at e
          cases e
          rw [List.getElem?_map] at e2
          obtain ⟨q2, e3, rfl⟩ := Option.map_eq_some_iff.mp e2
          obtain ⟨b, e4, e5⟩ := hpr2 j q2 e3
          refine ⟨by simp [e4], ?_⟩
          show PySem.PairAt s.heap (as[j]?.getD 0) _ _
          rw [e4]
          exact e5
      · have e : ((trE kas).map fun x => (Value.ref x.2.1, x.2.2))[i]? = some (k, v) := e
        rw [List.getElem?_map] at e
        cases e2 : (trE kas)[i]? with
        | none => rw [e2] at e; cases e
        | some q' =>
          rw [e2] at e
          cases e
          exact ⟨q'.1, q'.2.1, rfl, rfl⟩
      · intro h' hk' x hx
        obtain ⟨e1, e2⟩ := hnk x hx
        exact ⟨NestedIs.at (fun a o vs n h1 _ => hk' a o (Nat.ne_of_lt (Heap.lt_size h1)) (fun z => nomatch z) h1) _ _ e1, e2⟩
      · have hm : (s.heap.objs.size == sysModules) = false := beq_eq_false_iff_ne.mpr (Nat.ne_of_gt I.big)
        have h0 := I.hok.fresh (Nat.le_refl s.heap.objs.size)
        have est : storedAllH [] (trE kas) = trE kas := stored_nd kas [] hnd
        rw [est] at hd'
        obtain ⟨o', es, ep', g1, g2, g3, g4, _, g5⟩ := hd'
        have new : ∀ H' : Hp, ObjOk X.prog X.w H' h' s.heap.objs.size (.ext (dnP s.heap.objs.size kas)) := fun H' => dnP_ok ⟨by rw [hlen]; exact hz, hm, hnd, o', es, ep', g1, g2, g3, fun w => by
          rw [g4, List.map_map]
          refine List.map_congr_left fun x hx => ?_
          obtain ⟨d, _, e1, _, _⟩ := rn.mem hx
          show (⟨x.1.hash X.w, .ref x.2, .bool true⟩ : DictEntry) = _
          rw [NK_hash X.w w e1]⟩
        have x4 := Ext.laid rh (o := .ext (dnP s.heap.objs.size kas)) h0
        refine ⟨.ref s.heap.objs.size, _, I.laid (a := s.heap.objs.size) (o := .ext (dnP s.heap.objs.size kas)) (t' := tk) (fun b o e => k b o (fun z => nomatch z) e) (Nat.le_refl _) (new _), rfl, q (.ref s.heap.objs.size) _ (μ ++ [s.heap.objs.size]) (x4.place h0) ((rh.laid h0).place (rh.notIn h0) (by rw [upd_same]; exact ⟨_, kas, rfl, (rn.mon x4.m).mon Mon.grow⟩)) (Rp.last rh)⟩
    · cases e
  · cases e
end
end Ve
namespace Ve
open PySem PySem.Spec L2
def mR3 (fr : AA) : AI := fun ls hp => match fr ls hp with
  | some ([.int i, .int j, .int c], hp1) => if (-(2 ^ 62) ≤ i ∧ i < 2 ^ 62 ∧ -(2 ^ 62) ≤ j ∧ j < 2 ^ 62) ∧ c = -1 then some ((List.range (i - j).toNat).map fun k => D.int (i - (k : Nat)), [], hp1) else none
  | _ => none
section
variable {X : Cx} {tg : Expr} {fr : AA} {pos : Pos}
theorem di_range3 {a b c : Expr} {p : Pos} (hg : Gl X "range") (hm : X.mg "range" = none) (ha : DA X [a, b, c] fr) (hs : starEach [a, b, c] X.env = (false, eval a X.env) :: starEach [b, c] X.env := by rfl) (hpl : (backTo pos (starEach [b, c] X.env)).any (·.1) = false := by rfl) : DI X tg (.Call (.Name "range" p) [a, b, c] [] pos) (mR3 fr) :=
  PI.imp (pi_range3 hg hm ha hs hpl) fun σ H R ⟨ls, hp, μ, items, gd, hp', rl, rh, e, q⟩ => by
    unfold mR3 at e
    split at e
    · rename_i i j k hp1 e1
      split at e
      · rename_i hj
        cases e
        obtain ⟨hj, rfl⟩ := hj
        refine ⟨ls, hp, μ, [.int i, .int j, .int (-1)], hp', rl, rh, e1, fun vs H' μ' x1 rh1 r1 => ?_⟩
        rw [Rps] at r1
        obtain ⟨v, r, rfl, r1, r2⟩ := r1
        rw [Rps] at r2
        obtain ⟨v2, r, rfl, r2, r3⟩ := r2
        rw [Rps] at r3
        obtain ⟨v3, r, rfl, r3, r4⟩ := r3
        rw [Rps] at r4
        subst r4
        refine ⟨i, j, -1, (i - j).toNat, by rw [r1.intE, r2.intE, r3.intE], RgC.neg hj.1 hj.2.1 hj.2.2.1 hj.2.2.2, q _ H' μ' x1 rh1 ?_⟩
        intro n H2 μ2 hp2 x2 rh2 _
        refine ⟨fun hi => ?_, fun hi => ⟨?_, fun x H3 hy => ?_⟩⟩
        · show (i - j).toNat ≤ n
          simpa using hi
        · show n < (i - j).toNat
          simpa using hi
        · obtain ⟨rfl, rfl⟩ := hy
          have hn : n < (i - j).toNat := by simpa using hi
          refine ⟨.int (i - (n : Nat)), ?_, Ext.refl, rh2, ?_⟩
          · rw [List.getElem?_map, List.getElem?_range hn]
            rfl
          · rw [show i + ((n : Nat) : Int) * (-1) = i - (n : Nat) by omega]
            exact Rp.int
      · cases e
    · cases e
end
theorem mR3_down {fr : AA} {ls : Ls} {hp hp1 : Hd} {k : Nat} (e : fr ls hp = some ([.int (k : Nat), .int (-1), .int (-1)], hp1)) (h : k < 2 ^ 61) : mR3 fr ls hp = some ((List.range (k + 1)).map fun i => D.int ((k - i : Nat) : Int), [], hp1) := by
  unfold mR3
  rw [e]
  dsimp only
  rw [if_pos (by omega)]
  congr 2
  rw [show (((k : Nat) : Int) - -1).toNat = k + 1 by omega]
  refine List.map_congr_left fun i hi => ?_
  have := List.mem_range.mp hi
  congr 1
  omega
end Ve
namespace Ve
open PySem PySem.Spec L2 PySem.W
def nmK (l : List Int) : List NestedKey := l.map NestedKey.num
theorem toNKs_nm : ∀ l : List Int, toNKs (l.map D.int) = some (nmK l)
  | [] => rfl
  | a :: l => by
    rw [List.map_cons, toNKs, toNKs_nm l]
    rfl
theorem toNK_nm (l : List Int) : toNK (T l) = some (.tup (nmK l)) := by
  show toNK (.tup (l.map D.int)) = _
  rw [toNK, toNKs_nm]
theorem nmK_inj : ∀ {a b : List Int}, nmK a = nmK b → a = b
  | [], [], _ => rfl
  | [], _ :: _, h => by cases h
  | _ :: _, [], h => by cases h
  | x :: a, y :: b, h => by
    injection h with h1 h2
    injection h1 with h1
    rw [h1, nmK_inj h2]
def nkL (cs : List (List Int)) : List NestedKey := cs.map fun c => .tup (nmK c)
theorem toNKs_TT : ∀ cs : List (List Int), toNKs (cs.map T) = some (nkL cs)
  | [] => rfl
  | a :: l => by
    rw [List.map_cons, toNKs, toNK_nm, toNKs_TT l]
    rfl
theorem nkL_inj : ∀ {a b : List (List Int)}, nkL a = nkL b → a = b
  | [], [], _ => rfl
  | [], _ :: _, h => by cases h
  | _ :: _, [], h => by cases h
  | x :: a, y :: b, h => by
    injection h with h1 h2
    injection h1 with h1
    rw [nmK_inj h1, nkL_inj h2]
def nkT (cs : List (List Int)) : NestedKey := .tup (nkL cs)
theorem toNK_TT (cs : List (List Int)) : toNK (TT cs) = some (nkT cs) := by
  show toNK (.tup (cs.map T)) = _
  rw [toNK, toNKs_TT]
  rfl
theorem nkT_inj {a b : List (List Int)} (h : nkT a = nkT b) : a = b := by
  unfold nkT at h
  injection h with h
  exact nkL_inj h
theorem depth_nm : ∀ l : List Int, NestedKey.depthAll (nmK l) = 0
  | [] => rfl
  | a :: l => by
    show NestedKey.depthAll (.num a :: nmK l) = 0
    rw [NestedKey.depthAll, depth_nm l]
    rfl
theorem depth_nkL : ∀ cs : List (List Int), NestedKey.depthAll (nkL cs) ≤ 1
  | [] => by decide
  | c :: cs => by
    have := depth_nkL cs
    show NestedKey.depthAll (.tup (nmK c) :: nkL cs) ≤ 1
    rw [NestedKey.depthAll, NestedKey.depth, depth_nm]
    omega
theorem nkOf_TT (cs : List (List Int)) : nkOf (TT cs) = some (nkT cs) := by
  have h : (nkT cs).depth ≤ 8 := by
    have := depth_nkL cs
    unfold nkT
    rw [NestedKey.depth]
    omega
  show (match toNK (TT cs) with
    | some k => if k.depth ≤ 8 then some k else none
    | none => none) = _
  rw [toNK_TT]
  exact if_pos h
theorem hasNK_TT (L : List (List (List Int))) (cs : List (List Int)) : hasNK (L.map TT) (nkT cs) = decide (cs ∈ L) := by
  unfold hasNK
  rw [List.any_map, Bool.eq_iff_iff, List.any_eq_true, decide_eq_true_iff]
  constructor
  · rintro ⟨b, hb, e⟩
    have e2 := of_decide_eq_true e
    rw [toNK_TT] at e2
    rw [← nkT_inj (Option.some.inj e2)]
    exact hb
  · intro h
    exact ⟨cs, h, decide_eq_true (toNK_TT cs)⟩
def leT2 (a b : List (List Int)) : Bool := !DatumOrd.lt (toT2 b) (toT2 a)
def sortT (L : List (List (List Int))) : List (List (List Int)) := L.mergeSort leT2
theorem encD_TT {hp : Hd} (b : List (List Int)) : encD hp (TT b) = Datum.toD (toT2 b) := by
  unfold encD
  rw [pyF_TT (n := 12)]
  rfl
theorem dataLe_TT {hp : Hd} (a b : List (List Int)) : PySem.W.dataLe false (encD hp) (TT a) (TT b) = leT2 a b := by
  rw [PySem.W.dataLe_eq]
  show (!PySem.W.dataLt (encD hp (TT b)) (encD hp (TT a))) = _
  rw [encD_TT, encD_TT, DatumOrd.lt_eq]
  rfl
theorem srt_TT {hp : Hd} (L : List (List (List Int))) : srt hp (L.map TT) = (sortT L).map TT := by
  unfold srt sortT
  rw [List.map_mergeSort]
  intro a _ b _
  exact (dataLe_TT a b).symm
theorem sortT_perm (L : List (List (List Int))) : (sortT L).Perm L := List.mergeSort_perm _ _
theorem srtOk_TT {hp : Hd} {L : List (List (List Int))} (h : ∀ b ∈ L, b ≠ []) : srtOk hp (L.map TT) = true := by
  unfold srtOk
  rw [Bool.and_eq_true, Bool.and_eq_true, Bool.and_eq_true]
  refine ⟨?_, ?_, ?_, ?_⟩ <;> try rw [List.all_map, List.all_eq_true]
  · intro c _
    show (pyF hp 15 (TT c)).isSome = true
    rw [pyF_TT (n := 12)]
    rfl
  · intro c _
    show ((L.map TT).all fun b => PySem.W.alike (encD hp (TT c)) (encD hp b)) = true
    rw [List.all_map, List.all_eq_true]
    intro b _
    show PySem.W.alike (encD hp (TT c)) (encD hp (TT b)) = true
    rw [encD_TT, encD_TT]
    exact DatumOrd.alike _ _
  · rw [Bool.or_eq_true]
    refine .inl ?_
    rw [List.all_map, List.all_eq_true]
    intro c hc
    show isTupC (encD hp (TT c)) = true
    rw [encD_TT, toD_T2]
    cases c with
    | nil => exact absurd rfl (h _ hc)
    | cons x r => rfl
  · intro c _
    show decide ((encD hp (TT c)).depth ≤ 40) = true
    rw [encD_TT]
    have d2 : Datum.depth T2 ≤ 40 := by decide
    exact decide_eq_true (Nat.le_trans (Datum.depth_le _) d2)
theorem gSrt_TT {hp : Hd} {L : List (List (List Int))} (h : ∀ b ∈ L, b ≠ []) : gSrt (L.map TT) hp = some ((sortT L).map TT, hp) := by
  unfold gSrt
  rw [if_pos (srtOk_TT h), srt_TT]
end Ve
namespace Ve
abbrev Mx := Nat → Nat → Rat
def sch (M : Mx) : Mx := fun i j => M (i + 1) (j + 1) - M (i + 1) 0 * M 0 (j + 1) / M 0 0
def dt : Nat → Mx → Rat
  | 0, _ => 1
  | m + 1, M => M 0 0 * dt m (sch M)
def smQ : Nat → (Nat → Rat) → Rat
  | 0, _ => 0
  | m + 1, f => f 0 + smQ m fun j => f (j + 1)
theorem smQ_congr : ∀ (m : Nat) {f g : Nat → Rat}, (∀ j, j < m → f j = g j) → smQ m f = smQ m g
  | 0, _, _, _ => rfl
  | m + 1, f, g, h => by
    unfold smQ
    rw [h 0 (Nat.succ_pos m), smQ_congr m fun j hj => h (j + 1) (by omega)]
theorem smQ_nonpos : ∀ (m : Nat) {f : Nat → Rat}, (∀ j, j < m → f j ≤ 0) → smQ m f ≤ 0
  | 0, _, _ => Rat.le_refl
  | m + 1, f, h => by
    unfold smQ
    have h0 := h 0 (Nat.succ_pos m)
    have h1 := smQ_nonpos m fun j hj => h (j + 1) (by omega)
    grind
theorem smQ_zero : ∀ (m : Nat) {f : Nat → Rat}, (∀ j, j < m → f j ≤ 0) → 0 ≤ smQ m f → ∀ j, j < m → f j = 0
  | 0, _, _, _ => fun j hj => absurd hj (Nat.not_lt_zero j)
  | m + 1, f, h, hs => fun j hj => by
    unfold smQ at hs
    have h0 := h 0 (Nat.succ_pos m)
    have h1 := smQ_nonpos m fun j hj => h (j + 1) (by omega)
    cases j with
    | zero => grind
    | succ j => exact smQ_zero m (fun j hj => h (j + 1) (by omega)) (by grind) j (by omega)
theorem smQ_lin (c d : Rat) : ∀ (m : Nat) (f g : Nat → Rat), smQ m (fun j => f j - c * g j / d) = smQ m f - c * smQ m g / d
  | 0, _, _ => by
    unfold smQ
    grind
  | m + 1, f, g => by
    unfold smQ
    rw [smQ_lin c d m (fun j => f (j + 1)) fun j => g (j + 1)]
    grind
structure Kd (m : Nat) (M : Mx) : Prop where
  off : ∀ i j, i < m → j < m → i ≠ j → M i j ≤ 0
  row : ∀ i, i < m → 0 ≤ smQ m (M i)
def dlt (a i : Nat) : Nat := if i < a then i else i + 1
theorem smQ_del : ∀ (m a : Nat) (f : Nat → Rat), a ≤ m → smQ (m + 1) f = f a + smQ m fun j => f (dlt a j)
  | m, 0, f, _ => by
    show f 0 + smQ m (fun j => f (j + 1)) = f 0 + smQ m fun j => f (dlt 0 j)
    congr 1
  | 0, a + 1, _, h => absurd h (by omega)
  | m + 1, a + 1, f, h => by
    have ih := smQ_del m a (fun j => f (j + 1)) (by omega)
    show f 0 + smQ (m + 1) (fun j => f (j + 1)) = f (a + 1) + (f (dlt (a + 1) 0) + smQ m fun j => f (dlt (a + 1) (j + 1)))
    have e1 : dlt (a + 1) 0 = 0 := by unfold dlt; rw [if_pos (Nat.succ_pos a)]
    have e2 : smQ m (fun j => f (dlt (a + 1) (j + 1))) = smQ m (fun j => f (dlt a j + 1)) := smQ_congr m fun j _ => by
      congr 1
      unfold dlt
      split <;> split <;> omega
    rw [ih, e1, e2]
    grind
theorem dt_congr : ∀ (m : Nat) {M N : Mx}, (∀ i j, i < m → j < m → M i j = N i j) → dt m M = dt m N
  | 0, _, _, _ => rfl
  | m + 1, M, N, h => by
    unfold dt
    rw [h 0 0 (Nat.succ_pos m) (Nat.succ_pos m), dt_congr m fun i j hi hj => by
      unfold sch
      rw [h (i + 1) (j + 1) (by omega) (by omega), h (i + 1) 0 (by omega) (by omega), h 0 (j + 1) (by omega) (by omega), h 0 0 (by omega) (by omega)]]
    rfl
theorem Kd.congr {m : Nat} {M N : Mx} (k : Kd m M) (h : ∀ i j, i < m → j < m → M i j = N i j) : Kd m N :=
  ⟨fun i j hi hj hn => by rw [← h i j hi hj]; exact k.off i j hi hj hn, fun i hi => by rw [smQ_congr m fun j hj => (h i j hi hj).symm]; exact k.row i hi⟩
theorem rdiv_nonneg {a b : Rat} (ha : 0 ≤ a) (hb : 0 ≤ b) : 0 ≤ a / b := by
  rw [Rat.div_def]
  refine Rat.mul_nonneg ha ?_
  by_cases h : b = 0
  · rw [h, Rat.inv_zero]
    exact Rat.le_refl
  · have : 0 < b := by grind
    exact Rat.le_of_lt (Rat.inv_pos.mpr this)
section
variable {m : Nat} {M : Mx}
theorem Kd.diag (k : Kd m M) {a : Nat} (ha : a < m) : 0 ≤ M a a := by
  cases m with
  | zero => exact absurd ha (Nat.not_lt_zero a)
  | succ m =>
    have h := k.row a ha
    rw [smQ_del m a (M a) (by omega)] at h
    have := smQ_nonpos m (f := fun j => M a (dlt a j)) fun j hj => k.off a (dlt a j) ha (by unfold dlt; split <;> omega) (by unfold dlt; split <;> omega)
    grind
theorem Kd.zero (k : Kd m M) {a : Nat} (ha : a < m) (h0 : M a a = 0) : ∀ j, j < m → M a j = 0 := by
  cases m with
  | zero => exact absurd ha (Nat.not_lt_zero a)
  | succ m =>
    have h := k.row a ha
    rw [smQ_del m a (M a) (by omega), h0] at h
    have z := smQ_zero m (f := fun j => M a (dlt a j)) (fun j hj => k.off a (dlt a j) ha (by unfold dlt; split <;> omega) (by unfold dlt; split <;> omega)) (by grind)
    intro j hj
    by_cases e : j = a
    · rw [e, h0]
    · by_cases l : j < a
      · have := z j (by omega)
        simp only [dlt, if_pos l] at this
        exact this
      · have := z (j - 1) (by omega)
        simp only [dlt] at this
        rw [if_neg (by omega), show j - 1 + 1 = j by omega] at this
        exact this
theorem Kd.sch (k : Kd (m + 1) M) : Kd m (sch M) := by
  have p0 := k.diag (a := 0) (Nat.succ_pos m)
  refine ⟨fun i j hi hj hn => ?_, fun i hi => ?_⟩
  · have h1 := k.off (i + 1) (j + 1) (by omega) (by omega) (by omega)
    have h2 := k.off (i + 1) 0 (by omega) (by omega) (by omega)
    have h3 := k.off 0 (j + 1) (by omega) (by omega) (by omega)
    have h4 : 0 ≤ M (i + 1) 0 * M 0 (j + 1) := by
      have := Rat.mul_nonneg (a := -M (i + 1) 0) (b := -M 0 (j + 1)) (by grind) (by grind)
      grind
    have h5 := rdiv_nonneg h4 p0
    unfold Ve.sch
    grind
  · have e : smQ m (Ve.sch M i) = smQ m (fun j => M (i + 1) (j + 1)) - M (i + 1) 0 * smQ m (fun j => M 0 (j + 1)) / M 0 0 := smQ_lin (M (i + 1) 0) (M 0 0) m (fun j => M (i + 1) (j + 1)) fun j => M 0 (j + 1)
    have r0 := k.row 0 (Nat.succ_pos m)
    have r1 := k.row (i + 1) (by omega)
    have c0 := k.off (i + 1) 0 (by omega) (by omega) (by omega)
    unfold smQ at r0 r1
    rw [e]
    by_cases z : M 0 0 = 0
    · rw [z, Rat.div_def, Rat.inv_zero]
      grind
    · have h4 : 0 ≤ (-M (i + 1) 0) * (M 0 0 + smQ m fun j => M 0 (j + 1)) := Rat.mul_nonneg (by grind) r0
      have h5 := rdiv_nonneg h4 p0
      have h6 : (-M (i + 1) 0) * (M 0 0 + smQ m fun j => M 0 (j + 1)) / M 0 0 = -M (i + 1) 0 - M (i + 1) 0 * (smQ m fun j => M 0 (j + 1)) / M 0 0 := by grind
      grind
end
def swp (k i : Nat) : Nat := if i = k then k + 1 else if i = k + 1 then k else i
theorem sw_succ (k i : Nat) : swp (k + 1) (i + 1) = swp k i + 1 := by
  unfold swp
  split <;> split <;> (try split) <;> (try split) <;> omega
theorem sw_eq (a i : Nat) : swp a i = a ↔ i = a + 1 := by
  unfold swp
  split
  · omega
  · split <;> omega
theorem sw_lt {k i m : Nat} (hk : k + 1 < m) (hi : i < m) : swp k i < m := by
  unfold swp
  split
  · omega
  · split <;> omega
theorem sch_sch (M : Mx) (i j : Nat) : sch (sch M) i j = (M (i + 2) (j + 2) - M (i + 2) 0 * M 0 (j + 2) / M 0 0) - (M (i + 2) 1 - M (i + 2) 0 * M 0 1 / M 0 0) * (M 1 (j + 2) - M 1 0 * M 0 (j + 2) / M 0 0) / (M 1 1 - M 1 0 * M 0 1 / M 0 0) := rfl
theorem dt_sw0 {m : Nat} {M : Mx} (k : Kd (m + 2) M) : dt (m + 2) (fun i j => M (swp 0 i) (swp 0 j)) = dt (m + 2) M := by
  have s0 : swp 0 0 = 1 := rfl
  have s1 : swp 0 1 = 0 := rfl
  have s2 : ∀ i, swp 0 (i + 2) = i + 2 := fun i => by
    unfold swp
    rw [if_neg (by omega), if_neg (by omega)]
  show M 1 1 * ((M 0 0 - M 0 1 * M 1 0 / M 1 1) * dt m (sch (sch fun i j => M (swp 0 i) (swp 0 j)))) = M 0 0 * ((M 1 1 - M 1 0 * M 0 1 / M 0 0) * dt m (sch (sch M)))
  by_cases p0 : M 0 0 = 0
  · have z := k.zero (a := 0) (by omega) p0 1 (by omega)
    rw [p0, z]
    grind
  · by_cases q0 : M 1 1 = 0
    · have z := k.zero (a := 1) (by omega) q0 0 (by omega)
      rw [q0, z]
      grind
    · by_cases s : M 1 1 - M 1 0 * M 0 1 / M 0 0 = 0
      · have : M 0 0 - M 0 1 * M 1 0 / M 1 1 = 0 := by grind
        rw [s, this]
        grind
      · have e : dt m (sch (sch fun i j => M (swp 0 i) (swp 0 j))) = dt m (sch (sch M)) := dt_congr m fun i j _ _ => by
          rw [sch_sch, sch_sch, s0, s1, s2, s2]
          generalize M (i + 2) (j + 2) = x
          generalize M (i + 2) 0 = a at *
          generalize M (i + 2) 1 = b at *
          generalize M 0 (j + 2) = c at *
          generalize M 1 (j + 2) = d at *
          generalize M 0 0 = p at *
          generalize M 1 1 = q at *
          generalize M 0 1 = u at *
          generalize M 1 0 = v at *
          have h1 : q * p - v * u ≠ 0 := by grind
          have h2 : q - v * u / p = (q * p - v * u) / p := by grind
          have h3 : p - u * v / q = (q * p - v * u) / q := by grind
          rw [h2, h3]
          generalize hw : q * p - v * u = w at *
          grind
        rw [e]
        grind
theorem dt_sw : ∀ (k m : Nat) {M : Mx}, Kd m M → k + 1 < m → dt m (fun i j => M (swp k i) (swp k j)) = dt m M
  | _, 0, _, _, h => absurd h (by omega)
  | _, 1, _, _, h => absurd h (by omega)
  | 0, m + 2, _, kd, _ => dt_sw0 kd
  | k + 1, m + 1, M, kd, h => by
    have s0 : swp (k + 1) 0 = 0 := by unfold swp; rw [if_neg (by omega), if_neg (by omega)]
    have e : sch (fun i j => M (swp (k + 1) i) (swp (k + 1) j)) = fun i j => sch M (swp k i) (swp k j) := by
      funext i j
      unfold sch
      dsimp only
      rw [sw_succ, sw_succ, s0]
    unfold dt
    rw [e, dt_sw k m kd.sch (by omega)]
    dsimp only
    rw [s0]
def icr (M : Mx) (a : Nat) (t : Rat) : Mx := fun i j => if i = a ∧ j = a then M i j + t else M i j
theorem dt_last : ∀ (m : Nat) (M : Mx) (t : Rat), dt (m + 1) (icr M m t) = dt (m + 1) M + t * dt m (fun i j => M (dlt m i) (dlt m j))
  | 0, M, t => by
    show (icr M 0 t) 0 0 * 1 = M 0 0 * 1 + t * 1
    unfold icr
    rw [if_pos ⟨rfl, rfl⟩]
    grind
  | m + 1, M, t => by
    have ih := dt_last m (sch M) t
    have e1 : sch (icr M (m + 1) t) = icr (sch M) m t := by
      funext i j
      unfold sch icr
      rw [if_neg (show ¬ (i + 1 = m + 1 ∧ 0 = m + 1) by omega), if_neg (show ¬ (0 = m + 1 ∧ j + 1 = m + 1) by omega), if_neg (show ¬ (0 = m + 1 ∧ 0 = m + 1) by omega)]
      by_cases h : i = m ∧ j = m
      · rw [if_pos h, if_pos (by omega)]
        grind
      · rw [if_neg h, if_neg (by omega)]
    have d0 : dlt (m + 1) 0 = 0 := by unfold dlt; rw [if_pos (by omega)]
    have ds : ∀ i, dlt (m + 1) (i + 1) = dlt m i + 1 := fun i => by unfold dlt; split <;> split <;> omega
    have e2 : sch (fun i j => M (dlt (m + 1) i) (dlt (m + 1) j)) = fun i j => sch M (dlt m i) (dlt m j) := by
      funext i j
      unfold sch
      dsimp only
      rw [ds, ds, d0]
    show icr M (m + 1) t 0 0 * dt (m + 1) (sch (icr M (m + 1) t)) = M 0 0 * dt (m + 1) (sch M) + t * (M (dlt (m + 1) 0) (dlt (m + 1) 0) * dt m (sch fun i j => M (dlt (m + 1) i) (dlt (m + 1) j)))
    have i0 : icr M (m + 1) t 0 0 = M 0 0 := by unfold icr; rw [if_neg (by omega)]
    rw [e1, e2, d0, i0, ih]
    grind
theorem Kd.icr {m : Nat} {M : Mx} (k : Kd m M) (a : Nat) {t : Rat} (ht : 0 ≤ t) : Kd m (icr M a t) := by
  refine ⟨fun i j hi hj hn => ?_, fun i hi => ?_⟩
  · unfold Ve.icr
    rw [if_neg (by omega)]
    exact k.off i j hi hj hn
  · have r := k.row i hi
    by_cases e : i = a
    · subst e
      cases m with
      | zero => exact absurd hi (Nat.not_lt_zero i)
      | succ m =>
        rw [smQ_del m i _ (by omega)] at r ⊢
        have e2 : smQ m (fun j => Ve.icr M i t i (dlt i j)) = smQ m (fun j => M i (dlt i j)) := smQ_congr m fun j _ => by
          unfold Ve.icr
          rw [if_neg (by unfold dlt; split <;> omega)]
        rw [e2]
        unfold Ve.icr
        rw [if_pos ⟨rfl, rfl⟩]
        grind
    · rw [smQ_congr m (g := M i) fun j _ => by unfold Ve.icr; rw [if_neg (by omega)]]
      exact r
theorem Kd.swp {m k : Nat} {M : Mx} (kd : Kd m M) (hk : k + 1 < m) : Kd m (fun i j => M (swp k i) (swp k j)) := by
  refine ⟨fun i j hi hj hn => kd.off _ _ (sw_lt hk hi) (sw_lt hk hj) (fun e => hn ?_), fun i hi => ?_⟩
  · unfold Ve.swp at e
    split at e <;> split at e <;> (try split at e) <;> (try split at e) <;> omega
  · have r := kd.row (Ve.swp k i) (sw_lt hk hi)
    have key : ∀ (k m : Nat) (f : Nat → Rat), k + 1 < m → smQ m (fun j => f (Ve.swp k j)) = smQ m f := by
      intro k
      induction k with
      | zero =>
        intro m f hm
        match m, hm with
        | m + 2, _ =>
          show f (Ve.swp 0 0) + (f (Ve.swp 0 1) + smQ m fun j => f (Ve.swp 0 (j + 2))) = f 0 + (f 1 + smQ m fun j => f (j + 2))
          have : smQ m (fun j => f (Ve.swp 0 (j + 2))) = smQ m (fun j => f (j + 2)) := smQ_congr m fun j _ => by
            congr 1
          rw [this, show Ve.swp 0 0 = 1 from rfl, show Ve.swp 0 1 = 0 from rfl]
          grind
      | succ k ih =>
        intro m f hm
        match m, hm with
        | m + 1, hm =>
          show f (Ve.swp (k + 1) 0) + smQ m (fun j => f (Ve.swp (k + 1) (j + 1))) = f 0 + smQ m fun j => f (j + 1)
          have e1 : smQ m (fun j => f (Ve.swp (k + 1) (j + 1))) = smQ m (fun j => f (Ve.swp k j + 1)) := smQ_congr m fun j _ => by rw [sw_succ]
          rw [e1, ih m (fun j => f (j + 1)) (by omega), show Ve.swp (k + 1) 0 = 0 by unfold Ve.swp; rw [if_neg (by omega), if_neg (by omega)]]
    rw [key k m (M (Ve.swp k i)) hk]
    exact r
theorem dt_inc {t : Rat} (ht : 0 ≤ t) : ∀ (r m a : Nat) {M : Mx}, Kd (m + 1) M → a + r = m → dt (m + 1) (icr M a t) = dt (m + 1) M + t * dt m (fun i j => M (dlt a i) (dlt a j))
  | 0, m, a, M, _, h => by
    rw [show a = m by omega]
    exact dt_last m M t
  | r + 1, m, a, M, k, h => by
    have ih := dt_inc ht r m (a + 1) (M := fun i j => M (swp a i) (swp a j)) (k.swp (by omega)) (by omega)
    have e1 : icr (fun i j => M (swp a i) (swp a j)) (a + 1) t = fun i j => icr M a t (swp a i) (swp a j) := by
      funext i j
      unfold icr
      by_cases h1 : i = a + 1 ∧ j = a + 1
      · rw [if_pos h1, if_pos ⟨(sw_eq a i).mpr h1.1, (sw_eq a j).mpr h1.2⟩]
      · rw [if_neg h1, if_neg (fun z => h1 ⟨(sw_eq a i).mp z.1, (sw_eq a j).mp z.2⟩)]
    have e2 : (fun i j => (fun i j => M (swp a i) (swp a j)) (dlt (a + 1) i) (dlt (a + 1) j)) = fun i j => M (dlt a i) (dlt a j) := by
      have : ∀ i, swp a (dlt (a + 1) i) = dlt a i := fun i => by
        unfold swp dlt
        split <;> split <;> (try split) <;> (try split) <;> omega
      funext i j
      dsimp only
      rw [this, this]
    rw [e1, dt_sw a (m + 1) (k.icr a ht) (by omega), dt_sw a (m + 1) k (by omega), e2] at ih
    exact ih
theorem dt_zero : ∀ (m : Nat) {M : Mx}, (∀ i, i < m + 1 → smQ (m + 1) (M i) = 0) → dt (m + 1) M = 0
  | 0, M, h => by
    have := h 0 (by omega)
    unfold smQ smQ at this
    unfold dt
    grind
  | m + 1, M, h => by
    unfold dt
    by_cases p : M 0 0 = 0
    · rw [p]
      grind
    · rw [dt_zero m fun i hi => by
        have e : smQ (m + 1) (sch M i) = smQ (m + 1) (fun j => M (i + 1) (j + 1)) - M (i + 1) 0 * smQ (m + 1) (fun j => M 0 (j + 1)) / M 0 0 := smQ_lin (M (i + 1) 0) (M 0 0) (m + 1) (fun j => M (i + 1) (j + 1)) fun j => M 0 (j + 1)
        have h0 := h 0 (by omega)
        have h1 := h (i + 1) (by omega)
        unfold smQ at h0 h1
        rw [e]
        generalize smQ (m + 1) (fun j => M (i + 1) (j + 1)) = x at *
        generalize smQ (m + 1) (fun j => M 0 (j + 1)) = y at *
        grind]
      grind
end Ve
namespace Ve
def cst (N : Nat → Nat → Int) : Mx := fun i j => ((N i j : Int) : Rat)
def smZ : Nat → (Nat → Int) → Int
  | 0, _ => 0
  | m + 1, f => f 0 + smZ m fun j => f (j + 1)
theorem smQ_cst : ∀ (m : Nat) (f : Nat → Int), smQ m (fun j => ((f j : Int) : Rat)) = ((smZ m f : Int) : Rat)
  | 0, _ => rfl
  | m + 1, f => by
    unfold smQ smZ
    rw [smQ_cst m fun j => f (j + 1), Rat.intCast_add]
theorem smZ_congr : ∀ (m : Nat) {f g : Nat → Int}, (∀ j, j < m → f j = g j) → smZ m f = smZ m g
  | 0, _, _, _ => rfl
  | m + 1, f, g, h => by
    unfold smZ
    rw [h 0 (Nat.succ_pos m), smZ_congr m fun j hj => h (j + 1) (by omega)]
theorem smZ_del : ∀ (m a : Nat) (f : Nat → Int), a ≤ m → smZ (m + 1) f = f a + smZ m fun j => f (dlt a j)
  | m, 0, f, _ => by
    show f 0 + smZ m (fun j => f (j + 1)) = f 0 + smZ m fun j => f (dlt 0 j)
    congr 1
  | 0, a + 1, _, h => absurd h (by omega)
  | m + 1, a + 1, f, h => by
    have ih := smZ_del m a (fun j => f (j + 1)) (by omega)
    show f 0 + smZ (m + 1) (fun j => f (j + 1)) = f (a + 1) + (f (dlt (a + 1) 0) + smZ m fun j => f (dlt (a + 1) (j + 1)))
    have e1 : dlt (a + 1) 0 = 0 := by unfold dlt; rw [if_pos (Nat.succ_pos a)]
    have e2 : smZ m (fun j => f (dlt (a + 1) (j + 1))) = smZ m (fun j => f (dlt a j + 1)) := smZ_congr m fun j _ => by
      congr 1
      unfold dlt
      split <;> split <;> omega
    rw [ih, e1, e2]
    omega
theorem smZ_nonneg : ∀ (m : Nat) {f : Nat → Int}, (∀ j, j < m → 0 ≤ f j) → 0 ≤ smZ m f
  | 0, _, _ => Int.le_refl 0
  | m + 1, f, h => by
    unfold smZ
    have h0 := h 0 (Nat.succ_pos m)
    have h1 := smZ_nonneg m fun j hj => h (j + 1) (by omega)
    omega
theorem Kd.dlt {m : Nat} {M : Mx} (k : Kd (m + 1) M) {a : Nat} (ha : a ≤ m) : Kd m (fun i j => M (Ve.dlt a i) (Ve.dlt a j)) := by
  have ne : ∀ i, Ve.dlt a i ≠ a := fun i => by unfold Ve.dlt; split <;> omega
  have lt : ∀ i, i < m → Ve.dlt a i < m + 1 := fun i hi => by unfold Ve.dlt; split <;> omega
  refine ⟨fun i j hi hj hn => k.off _ _ (lt i hi) (lt j hj) (fun e => hn ?_), fun i hi => ?_⟩
  · unfold Ve.dlt at e
    split at e <;> split at e <;> omega
  · have r := k.row _ (lt i hi)
    rw [smQ_del m a _ ha] at r
    have := k.off (Ve.dlt a i) a (lt i hi) (by omega) (ne i)
    grind
theorem dt_int : ∀ (s m : Nat) (N : Nat → Nat → Int), Kd m (cst N) → smZ m (fun i => N i i) ≤ (s : Nat) → ∃ z : Int, 0 ≤ z ∧ dt m (cst N) = (z : Int)
  | s, 0, N, _, _ => ⟨1, by decide, rfl⟩
  | s, m + 1, N, k, hs => by
    have rI : ∀ i, smQ (m + 1) (cst N i) = ((smZ (m + 1) (N i) : Int) : Rat) := fun i => smQ_cst (m + 1) (N i)
    by_cases hz : ∀ i, i < m + 1 → smZ (m + 1) (N i) = 0
    · exact ⟨0, Int.le_refl 0, by rw [dt_zero m fun i hi => by rw [rI, hz i hi]; rfl]; rfl⟩
    · obtain ⟨a, ha, hne⟩ : ∃ a, a < m + 1 ∧ smZ (m + 1) (N a) ≠ 0 := by
        false_or_by_contra
        rename_i h
        exact hz fun i hi => by
          false_or_by_contra
          rename_i h2
          exact h ⟨i, hi, h2⟩
      have ra := k.row a ha
      rw [rI] at ra
      have ra : 0 ≤ smZ (m + 1) (N a) := by exact_mod_cast ra
      let N' : Nat → Nat → Int := fun i j => if i = a ∧ j = a then N i j - 1 else N i j
      have e1 : cst N = icr (cst N') a 1 := by
        funext i j
        unfold icr cst
        simp only [N']
        by_cases h : i = a ∧ j = a
        · rw [if_pos h, if_pos h, Rat.intCast_sub]
          grind
        · rw [if_neg h, if_neg h]
      have e3 : smZ (m + 1) (N' a) = smZ (m + 1) (N a) - 1 := by
        rw [smZ_del m a _ (by omega), smZ_del m a (N a) (by omega)]
        have : smZ m (fun j => N' a (dlt a j)) = smZ m (fun j => N a (dlt a j)) := smZ_congr m fun j _ => by
          simp only [N']
          rw [if_neg (by unfold dlt; split <;> omega)]
        rw [this]
        simp only [N']
        rw [if_pos (by simp)]
        omega
      have k' : Kd (m + 1) (cst N') := by
        refine ⟨fun i j hi hj hn => ?_, fun i hi => ?_⟩
        · have := k.off i j hi hj hn
          unfold cst at this ⊢
          simp only [N']
          rw [if_neg (by omega)]
          exact this
        · rw [show smQ (m + 1) (cst N' i) = ((smZ (m + 1) (N' i) : Int) : Rat) from smQ_cst (m + 1) (N' i)]
          by_cases e : i = a
          · rw [e, e3]
            have : (0 : Int) ≤ smZ (m + 1) (N a) - 1 := by omega
            exact_mod_cast this
          · have : smZ (m + 1) (N' i) = smZ (m + 1) (N i) := smZ_congr _ fun j _ => by
              simp only [N']
              rw [if_neg (by omega)]
            rw [this, ← rI]
            exact k.row i hi
      have dz : ∀ (N : Nat → Nat → Int), Kd (m + 1) (cst N) → ∀ i, i < m + 1 → 0 ≤ N i i := fun N k i hi => by
        have := k.diag hi
        unfold cst at this
        exact_mod_cast this
      have tr : smZ (m + 1) (fun i => N' i i) = smZ (m + 1) (fun i => N i i) - 1 := by
        rw [smZ_del m a _ (by omega), smZ_del m a (fun i => N i i) (by omega)]
        have : smZ m (fun j => N' (dlt a j) (dlt a j)) = smZ m (fun j => N (dlt a j) (dlt a j)) := smZ_congr m fun j _ => by
          simp only [N']
          rw [if_neg (by unfold dlt; split <;> omega)]
        rw [this]
        simp only [N']
        rw [if_pos (by simp)]
        omega
      have n1 := smZ_nonneg (m + 1) (f := fun i => N' i i) fun i hi => dz N' k' i hi
      match s, hs with
      | 0, hs => exact absurd hs (by omega)
      | s + 1, hs =>
        obtain ⟨z1, p1, q1⟩ := dt_int s (m + 1) N' k' (by omega)
        have kD : Kd m (cst fun i j => N' (dlt a i) (dlt a j)) := k'.dlt (a := a) (by omega)
        obtain ⟨z2, p2, q2⟩ := dt_int (smZ m fun i => N' (dlt a i) (dlt a i)).toNat m (fun i j => N' (dlt a i) (dlt a j)) kD (by omega)
        refine ⟨z1 + z2, by omega, ?_⟩
        have h := dt_inc (t := 1) (by decide) (m - a) m a k' (by omega)
        have q2' : dt m (fun i j => cst N' (dlt a i) (dlt a j)) = ((z2 : Int) : Rat) := q2
        rw [e1, h, q1, q2', Rat.intCast_add]
        grind
  termination_by s m => (m, s)
def bck : Nat → Mx → Rat
  | 0, _ => 1
  | k + 1, M => M 0 0 * bck k (sch M)
def sck : Nat → Mx → Mx
  | 0, M => M
  | k + 1, M => sck k (sch M)
def brd (k i a : Nat) : Nat := if a < k then a else k + i
theorem dt_brd : ∀ (k : Nat) (M : Mx) (i j : Nat), dt (k + 1) (fun a b => M (brd k i a) (brd k j b)) = bck k M * sck k M i j
  | 0, M, i, j => by
    show M (0 + i) (0 + j) * 1 = 1 * M i j
    rw [Nat.zero_add, Nat.zero_add]
    grind
  | k + 1, M, i, j => by
    have b0 : ∀ i, brd (k + 1) i 0 = 0 := fun i => by unfold brd; rw [if_pos (by omega)]
    have bs : ∀ i a, brd (k + 1) i (a + 1) = brd k i a + 1 := fun i a => by unfold brd; split <;> split <;> omega
    have e : sch (fun a b => M (brd (k + 1) i a) (brd (k + 1) j b)) = fun a b => sch M (brd k i a) (brd k j b) := by
      funext a b
      unfold sch
      dsimp only
      rw [bs, bs, b0, b0]
    show M (brd (k + 1) i 0) (brd (k + 1) j 0) * dt (k + 1) (sch fun a b => M (brd (k + 1) i a) (brd (k + 1) j b)) = M 0 0 * bck k (sch M) * sck k (sch M) i j
    rw [e, b0, b0, dt_brd k (sch M) i j]
    grind
theorem smQ_sub : ∀ (k m j : Nat) (f : Nat → Rat), k + j < m → (∀ b, k ≤ b → b < m → f b ≤ 0) → smQ m f ≤ smQ (k + 1) (fun b => f (brd k j b))
  | 0, m, j, f, h, hf => by
    match m, h with
    | m + 1, h =>
      rw [smQ_del m j f (by omega)]
      have := smQ_nonpos m (f := fun b => f (dlt j b)) fun b hb => hf _ (Nat.zero_le _) (by unfold dlt; split <;> omega)
      show _ ≤ f (0 + j) + 0
      rw [Nat.zero_add]
      grind
  | k + 1, m, j, f, h, hf => by
    match m, h with
    | m + 1, h =>
      have ih := smQ_sub k m j (fun b => f (b + 1)) (by omega) fun b h1 h2 => hf (b + 1) (by omega) (by omega)
      have b0 : brd (k + 1) j 0 = 0 := by unfold brd; rw [if_pos (by omega)]
      have e : smQ (k + 1) (fun b => f (brd (k + 1) j (b + 1))) = smQ (k + 1) (fun b => f (brd k j b + 1)) := smQ_congr _ fun b _ => by
        congr 1
        unfold brd
        split <;> split <;> omega
      show f 0 + smQ m (fun j => f (j + 1)) ≤ f (brd (k + 1) j 0) + smQ (k + 1) fun b => f (brd (k + 1) j (b + 1))
      rw [b0, e]
      grind
theorem smQ_pre : ∀ (k m : Nat) (f : Nat → Rat), k ≤ m → (∀ b, k ≤ b → b < m → f b ≤ 0) → smQ m f ≤ smQ k f
  | 0, m, f, _, hf => smQ_nonpos m fun b hb => hf b (Nat.zero_le _) hb
  | k + 1, 0, f, h, _ => absurd h (by omega)
  | k + 1, m + 1, f, h, hf => by
    have ih := smQ_pre k m (fun b => f (b + 1)) (by omega) fun b h1 h2 => hf (b + 1) (by omega) (by omega)
    unfold smQ
    grind
theorem Kd.pre {m k : Nat} {M : Mx} (kd : Kd m M) (h : k ≤ m) : Kd k M := ⟨fun i j hi hj hn => kd.off i j (by omega) (by omega) hn, fun i hi => by
  have r := kd.row i (by omega)
  have := smQ_pre k m (M i) h fun b h1 h2 => kd.off i b (by omega) h2 (by omega)
  grind⟩
theorem dt_int' {m : Nat} {N : Nat → Nat → Int} (k : Kd m (cst N)) : ∃ z : Int, 0 ≤ z ∧ dt m (cst N) = (z : Int) :=
  dt_int (smZ m fun i => N i i).toNat m N k (by omega)
theorem bd_int {m : Nat} {N : Nat → Nat → Int} (kd : Kd m (cst N)) {k i j : Nat} (hi : k + i < m) (hj : k + j < m) : ∃ z : Int, bck k (cst N) * sck k (cst N) i j = (z : Int) := by
  let B : Nat → Nat → Int := fun a b => N (brd k i a) (brd k j b)
  let t : Int := ((smZ (k + 1) (B k)).natAbs : Nat)
  let B' : Nat → Nat → Int := fun a b => if a = k ∧ b = k then B a b + t else B a b
  have bl : ∀ {i a}, a < k → brd k i a = a := fun {i a} h => by unfold brd; rw [if_pos h]
  have bk_ : ∀ {i}, brd k i k = k + i := fun {i} => by unfold brd; rw [if_neg (by omega)]
  have e1 : cst B' = icr (cst B) k ((t : Int) : Rat) := by
    funext a b
    unfold icr cst
    simp only [B']
    by_cases h : a = k ∧ b = k
    · rw [if_pos h, if_pos h, Rat.intCast_add]
    · rw [if_neg h, if_neg h]
  have k1 : Kd (k + 1) (cst B') := by
    refine ⟨fun a b ha hb hn => ?_, fun a ha => ?_⟩
    · have : cst B' a b = cst N (brd k i a) (brd k j b) := by
        unfold cst
        simp only [B', B]
        rw [if_neg (by omega)]
      rw [this]
      by_cases h1 : a < k
      · rw [bl h1]
        by_cases h2 : b < k
        · rw [bl h2]
          exact kd.off a b (by omega) (by omega) hn
        · rw [show b = k by omega, bk_]
          exact kd.off a (k + j) (by omega) (by omega) (by omega)
      · rw [show a = k by omega, bk_, bl (show b < k by omega)]
        exact kd.off (k + i) b (by omega) (by omega) (by omega)
    · by_cases h1 : a < k
      · have e : smQ (k + 1) (cst B' a) = smQ (k + 1) (fun b => cst N a (brd k j b)) := smQ_congr _ fun b _ => by
          unfold cst
          simp only [B', B]
          rw [if_neg (by omega), bl h1]
        rw [e]
        have r := kd.row a (by omega)
        have := smQ_sub k m j (cst N a) hj fun b h1 h2 => kd.off a b (by omega) h2 (by omega)
        grind
      · have ea : a = k := by omega
        subst ea
        rw [show smQ (a + 1) (cst B' a) = ((smZ (a + 1) (B' a) : Int) : Rat) from smQ_cst (a + 1) (B' a)]
        have : smZ (a + 1) (B' a) = smZ (a + 1) (B a) + t := by
          rw [smZ_del a a _ (by omega), smZ_del a a (B a) (by omega)]
          have : smZ a (fun b => B' a (dlt a b)) = smZ a (fun b => B a (dlt a b)) := smZ_congr a fun b _ => by
            simp only [B']
            rw [if_neg (by unfold dlt; split <;> omega)]
          rw [this]
          simp only [B']
          rw [if_pos (by simp)]
          omega
        rw [this]
        have : (0 : Int) ≤ smZ (a + 1) (B a) + t := by simp only [t]; omega
        exact_mod_cast this
  obtain ⟨z1, _, q1⟩ := dt_int' k1
  obtain ⟨z2, _, q2⟩ := dt_int' (kd.pre (k := k) (by omega))
  have h := dt_last k (cst B) ((t : Int) : Rat)
  have e2 : dt k (fun a b => cst B (dlt k a) (dlt k b)) = dt k (cst N) := dt_congr k fun a b ha hb => by
    unfold cst dlt
    simp only [B]
    rw [if_pos ha, if_pos hb, bl ha, bl hb]
  rw [← e1, q1, e2, q2] at h
  have e3 : dt (k + 1) (cst B) = bck k (cst N) * sck k (cst N) i j := dt_brd k (cst N) i j
  rw [e3] at h
  refine ⟨z1 - t * z2, ?_⟩
  rw [Rat.intCast_sub, Rat.intCast_mul]
  grind
structure Bar (m : Nat) (R : Nat → Nat → Int) (b : Int) (S : Mx) : Prop where
  pos : 0 < b
  kd : Kd m S
  eq : ∀ i j, i < m → j < m → ((R i j : Int) : Rat) = (b : Rat) * S i j
  int : ∀ k i j, k + i < m → k + j < m → ∃ z : Int, (b : Rat) * (bck k S * sck k S i j) = (z : Int)
theorem Bar.start {m : Nat} {N : Nat → Nat → Int} (k : Kd m (cst N)) : Bar m N 1 (cst N) := ⟨by decide, k, fun i j _ _ => by
  show ((N i j : Int) : Rat) = ((1 : Int) : Rat) * ((N i j : Int) : Rat)
  have : ((1 : Int) : Rat) = 1 := rfl
  rw [this]
  grind, fun k' i j hi hj => by
  obtain ⟨z, e⟩ := bd_int k hi hj
  refine ⟨z, ?_⟩
  have : ((1 : Int) : Rat) = 1 := rfl
  rw [this, e]
  grind⟩
theorem Bar.zero {m : Nat} {R : Nat → Nat → Int} {b : Int} {S : Mx} (h : Bar (m + 1) R b S) (h0 : R 0 0 = 0) : (b : Rat) * dt (m + 1) S = 0 := by
  have e := h.eq 0 0 (by omega) (by omega)
  rw [h0] at e
  unfold dt
  have : ((0 : Int) : Rat) = 0 := rfl
  grind
theorem Bar.step {m : Nat} {R : Nat → Nat → Int} {b : Int} {S : Mx} (h : Bar (m + 1) R b S) : ∃ R' : Nat → Nat → Int, (∀ i j, i < m → j < m → b * R' i j = R 0 0 * R (i + 1) (j + 1) - R (i + 1) 0 * R 0 (j + 1)) ∧
    (R 0 0 ≠ 0 → Bar m R' (R 0 0) (sch S) ∧ ((R 0 0 : Int) : Rat) * dt m (sch S) = (b : Rat) * dt (m + 1) S) := by
  have e00 := h.eq 0 0 (by omega) (by omega)
  have bp := h.pos
  have bn : (b : Rat) ≠ 0 := fun z => by
    have z : b = 0 := by exact_mod_cast z
    omega
  have key : ∀ i j, ∃ z : Int, i < m → j < m → (b : Rat) * S 0 0 * sch S i j = (z : Int) := fun i j => by
    by_cases c : i < m ∧ j < m
    · obtain ⟨z, e⟩ := h.int 1 i j (by omega) (by omega)
      refine ⟨z, fun _ _ => ?_⟩
      rw [← e]
      show _ = (b : Rat) * (S 0 0 * 1 * sch S i j)
      grind
    · exact ⟨0, fun h1 h2 => absurd ⟨h1, h2⟩ c⟩
  let R' : Nat → Nat → Int := fun i j => (key i j).choose
  have hR : ∀ i j, i < m → j < m → (b : Rat) * S 0 0 * sch S i j = ((R' i j : Int) : Rat) := fun i j => (key i j).choose_spec
  refine ⟨R', fun i j hi hj => ?_, fun hne => ?_⟩
  · have e1 := h.eq (i + 1) (j + 1) (by omega) (by omega)
    have e2 := h.eq (i + 1) 0 (by omega) (by omega)
    have e3 := h.eq 0 (j + 1) (by omega) (by omega)
    have e4 := hR i j hi hj
    have : ((b * R' i j : Int) : Rat) = ((R 0 0 * R (i + 1) (j + 1) - R (i + 1) 0 * R 0 (j + 1) : Int) : Rat) := by
      rw [Rat.intCast_sub, Rat.intCast_mul, Rat.intCast_mul, Rat.intCast_mul, e00, e1, e2, e3, ← e4]
      unfold sch
      by_cases p : S 0 0 = 0
      · have z1 := h.kd.zero (a := 0) (by omega) p (j + 1) (by omega)
        rw [p, z1]
        grind
      · grind
    exact_mod_cast this
  · have p : S 0 0 ≠ 0 := fun z => hne (by
      rw [z] at e00
      have : ((R 0 0 : Int) : Rat) = ((0 : Int) : Rat) := by
        rw [e00]
        have : ((0 : Int) : Rat) = 0 := rfl
        grind
      exact_mod_cast this)
    have p0 := h.kd.diag (a := 0) (by omega)
    refine ⟨⟨?_, h.kd.sch, fun i j hi hj => ?_, fun k i j hi hj => ?_⟩, ?_⟩
    · have h1 : (0 : Rat) < (b : Rat) := by exact_mod_cast bp
      have h2 : (0 : Rat) ≤ ((R 0 0 : Int) : Rat) := by
        rw [e00]
        exact Rat.mul_nonneg (Rat.le_of_lt h1) p0
      have h3 : 0 ≤ R 0 0 := by exact_mod_cast h2
      omega
    · rw [← hR i j hi hj, e00]
    · obtain ⟨z, e⟩ := h.int (k + 1) i j (by omega) (by omega)
      refine ⟨z, ?_⟩
      rw [← e, e00]
      show (b : Rat) * S 0 0 * (bck k (sch S) * sck k (sch S) i j) = (b : Rat) * (S 0 0 * bck k (sch S) * sck k (sch S) i j)
      grind
    · rw [e00]
      show (b : Rat) * S 0 0 * dt m (sch S) = (b : Rat) * (S 0 0 * dt m (sch S))
      grind
end Ve
namespace Ve
end Ve
namespace Ve
section
variable {n : Nat} {J : Nat → Nat → Sd}
def notIn (cs : List Int) (k : Nat) : Bool := !decide ((k : Int) ∈ cs)
end
end Ve
namespace Ve
theorem Kd.sch_le {m : Nat} {M : Mx} (k : Kd (m + 1) M) {i : Nat} (hi : i < m) : Ve.sch M i i ≤ M (i + 1) (i + 1) := by
  have p0 := k.diag (a := 0) (Nat.succ_pos m)
  have h2 := k.off (i + 1) 0 (by omega) (by omega) (by omega)
  have h3 := k.off 0 (i + 1) (by omega) (by omega) (by omega)
  have h4 : 0 ≤ M (i + 1) 0 * M 0 (i + 1) := by
    have := Rat.mul_nonneg (a := -M (i + 1) 0) (b := -M 0 (i + 1)) (by grind) (by grind)
    grind
  have h5 := rdiv_nonneg h4 p0
  unfold Ve.sch
  grind
def pwQ (D : Rat) : Nat → Rat
  | 0 => 1
  | m + 1 => D * pwQ D m
theorem pwQ_one {D : Rat} (h : 1 ≤ D) : ∀ m, 1 ≤ pwQ D m
  | 0 => Rat.le_refl
  | m + 1 => by
    have ih := pwQ_one h m
    unfold pwQ
    have := Rat.mul_nonneg (a := D - 1) (b := pwQ D m) (by grind) (by grind)
    grind
structure Bnd (m : Nat) (b : Int) (S : Mx) (D B : Rat) : Prop where
  one : 1 ≤ D
  dia : ∀ i, i < m → S i i ≤ D
  bb : (b : Rat) * pwQ D m ≤ B
section
variable {m : Nat} {R : Nat → Nat → Int} {b : Int} {S : Mx} {D B : Rat}
theorem Bnd.step (n : Bnd (m + 1) b S D B) (h : Bar (m + 1) R b S) : Bnd m (R 0 0) (sch S) D B := by
  have bp : (0 : Rat) ≤ (b : Rat) := by
    have := h.pos
    have : (0 : Int) ≤ b := by omega
    exact_mod_cast this
  have e := h.eq 0 0 (by omega) (by omega)
  have d0 := n.dia 0 (by omega)
  have p1 := pwQ_one n.one m
  refine ⟨n.one, fun i hi => ?_, ?_⟩
  · have h1 := h.kd.sch_le hi
    have h2 := n.dia (i + 1) (by omega)
    grind
  · have bb := n.bb
    unfold pwQ at bb
    rw [e]
    have := Rat.mul_nonneg (a := (b : Rat) * (D - S 0 0)) (b := pwQ D m) (Rat.mul_nonneg bp (by grind)) (by grind)
    grind
end
end Ve
namespace Ve
end Ve
namespace Ve
open PySem PySem.Spec L2
section
variable {n : Nat} {J : Nat → Nat → Sd}
structure NdI (n : Nat) (J : Nat → Nat → Sd) (S : List Int) (a : Nat) : Prop where
  so : S.Pairwise (· < ·)
  rg : ∀ k ∈ S, 0 ≤ k ∧ k < (a : Int)
  le : a ≤ 2 * n
  rf : S.length + (srtS (hngI n J S)).length = n
  hg : Hang n J (S ++ rst n a)
theorem NdI.inb {S : List Int} {a : Nat} (h : NdI n J S a) : Inb n S := fun k hk => by
  have := h.rg k hk
  have := h.le
  omega
def wtN (n a : Nat) : Nat := 2 ^ (2 * n + 1 - a) - 1
theorem wtN_pos {a : Nat} (h : a ≤ 2 * n) : 0 < wtN n a := by
  unfold wtN
  obtain ⟨m, hm⟩ : ∃ m, 2 * n + 1 - a = m + 1 := ⟨2 * n - a, by omega⟩
  have := Nat.two_pow_pos m
  rw [hm, Nat.pow_succ]
  omega
theorem wtN_two {a : Nat} (h : a < 2 * n) : wtN n (a + 1) + wtN n (a + 1) < wtN n a := by
  unfold wtN
  obtain ⟨m, hm⟩ : ∃ m, 2 * n + 1 - (a + 1) = m + 1 := ⟨2 * n - (a + 1), by omega⟩
  have := Nat.two_pow_pos m
  rw [show 2 * n + 1 - a = m + 1 + 1 by omega, hm, Nat.pow_succ, Nat.pow_succ]
  omega
def wtW (n : Nat) (W : List (List Int × Nat)) : Nat := (W.map fun x => wtN n x.2).sum
theorem wtW_app (W V : List (List Int × Nat)) : wtW n (W ++ V) = wtW n W + wtW n V := by unfold wtW; rw [List.map_append, List.sum_append]
structure Nts (n : Nat) (J : Nat → Nat → Sd) (F : List (List Int)) (W : List (List Int × Nat)) : Prop where
  nd : ∀ x ∈ W, NdI n J x.1 x.2
  fd : ∀ E ∈ F, Tr0 n J E ∧ E.Pairwise (· < ·)
  all : ∀ E, Tr0 n J E → E.Pairwise (· < ·) → E ∈ F ∨ ∃ x ∈ W, E.filter (fun k : Int => decide (k < (x.2 : Nat))) = x.1
  sz : F.length + wtW n W ≤ 2 ^ (2 * n + 1)
theorem Nts.start (sk : Skin n J) (hh : Hang n J (rst n 0)) : Nts n J [] [([], 0)] := by
  refine ⟨fun x hx => ?_, fun E hE => (nomatch hE), fun E _ _ => .inr ⟨([], 0), List.mem_singleton_self _, ?_⟩, ?_⟩
  · rw [List.mem_singleton.mp hx]
    refine ⟨List.Pairwise.nil, fun k hk => (nomatch hk), Nat.zero_le _, ?_, by rw [List.nil_append]; exact hh⟩
    show 0 + (srtS ((List.range n).map fun k : Nat => (k : Int))).length = n
    rw [srtS_range, Nat.zero_add]
  · refine List.filter_eq_nil_iff.mpr fun k hk => ?_
    rename_i t _
    have := (t.inb k hk).1
    show ¬ decide (k < ((0 : Nat) : Int)) = true
    rw [decide_eq_true_iff]
    omega
  · show 0 + (wtN n 0 + 0) ≤ 2 ^ (2 * n + 1)
    unfold wtN
    rw [Nat.sub_zero]
    generalize 2 ^ (2 * n + 1) = z
    omega
theorem cut_hang {E : List Int} (t : Tr0 n J E) (a : Nat) : Hang n J (E.filter (fun k : Int => decide (k < (a : Nat))) ++ rst n a) := t.hang.mono fun k hk => by
  by_cases c : k < (a : Int)
  · exact List.mem_append_left _ (List.mem_filter.mpr ⟨hk, decide_eq_true c⟩)
  · exact List.mem_append_right _ (mem_rst.mpr ⟨by omega, (t.inb k hk).2⟩)
theorem Nts.leaf (sk : Skin n J) {F : List (List Int)} {W : List (List Int × Nat)} {S : List Int} {a : Nat} (h : Nts n J F (W ++ [(S, a)])) (hl : S.length + 1 = n) : Nts n J (F ++ [S]) W ∧ wtW n W < wtW n (W ++ [(S, a)]) := by
  have x : NdI n J S a := h.nd (S, a) (by simp)
  have w := wtN_pos (n := n) x.le
  have e : wtW n (W ++ [(S, a)]) = wtW n W + (wtN n a + 0) := wtW_app _ _
  have hs : Tr0 n J S := ⟨x.so.imp fun h => by omega, x.inb, hl, (hngI_fo sk x.inb).hang sk.pos (by have := x.rf; omega)⟩
  refine ⟨⟨fun y hy => h.nd y (List.mem_append_left _ hy), fun E hE => ?_, fun E t so => ?_, ?_⟩, by omega⟩
  · rcases List.mem_append.mp hE with z | z
    · exact h.fd E z
    · rw [List.mem_singleton.mp z]
      exact ⟨hs, x.so⟩
  · rcases h.all E t so with z | ⟨y, hy, z⟩
    · exact .inl (List.mem_append_left _ z)
    · rcases List.mem_append.mp hy with q | q
      · exact .inr ⟨y, q, z⟩
      · rw [List.mem_singleton.mp q] at z
        refine .inl (List.mem_append_right _ (List.mem_singleton.mpr ?_))
        have lE := t.len
        have := List.filter_sublist (l := E) (p := fun k : Int => decide (k < (a : Nat)))
        have e2 := this.eq_of_length (by rw [z]; show S.length = _; omega)
        rw [← e2]
        exact z
  · have := h.sz
    rw [List.length_append, List.length_singleton]
    generalize 2 ^ (2 * n + 1) = z at this ⊢
    omega
theorem Nts.at_lt (sk : Skin n J) {S : List Int} {a : Nat} (x : NdI n J S a) (hl : S.length + 1 ≠ n) : a < 2 * n := by
  have := x.le
  refine Nat.lt_of_le_of_ne this fun e => hl ?_
  have hh := x.hg
  rw [e, show rst n (2 * n) = [] by unfold rst; rw [Nat.sub_self]; rfl, List.append_nil] at hh
  have := (hngI_fo sk x.inb).one sk.pos hh
  have := x.rf
  omega
theorem Nts.step (sk : Skin n J) {F : List (List Int)} {W : List (List Int × Nat)} {S : List Int} {a : Nat} (h : Nts n J F (W ++ [(S, a)])) (hl : S.length + 1 ≠ n) {b c : Bool}
    (hb : b = true ↔ Hang n J (S ++ rst n (a + 1))) (hc : c = true ↔ ¬ Cn (Adj n J S) (smAt n J a).1 (oth J (smAt n J a)).1) :
    Nts n J F ((W ++ if b then [(S, a + 1)] else []) ++ if c then [(S ++ [(a : Int)], a + 1)] else []) ∧ wtW n ((W ++ if b then [(S, a + 1)] else []) ++ if c then [(S ++ [(a : Int)], a + 1)] else []) < wtW n (W ++ [(S, a)]) := by
  have x : NdI n J S a := h.nd (S, a) (by simp)
  have at_ : a < 2 * n := Nts.at_lt sk x hl
  have aI : 0 ≤ (a : Int) ∧ (a : Int) < (2 * n : Nat) := by omega
  obtain ⟨s1, _, s3, _⟩ := sk.sm aI
  have f0 := hngI_fo sk x.inb
  have w := wtN_two (n := n) at_
  have e : wtW n (W ++ [(S, a)]) = wtW n W + (wtN n a + 0) := wtW_app _ _
  have e2 : wtW n ((W ++ if b then [(S, a + 1)] else []) ++ if c then [(S ++ [(a : Int)], a + 1)] else []) < wtW n W + wtN n a := by
    rw [wtW_app, wtW_app]
    have e3 : wtW n (if b then [(S, a + 1)] else []) ≤ wtN n (a + 1) := by
      cases b
      · exact Nat.zero_le _
      · exact Nat.le_refl _
    have e4 : wtW n (if c then [(S ++ [(a : Int)], a + 1)] else []) ≤ wtN n (a + 1) := by
      cases c
      · exact Nat.zero_le _
      · exact Nat.le_refl _
    omega
  refine ⟨⟨fun y hy => ?_, h.fd, fun E t so => ?_, ?_⟩, by omega⟩
  · rcases List.mem_append.mp hy with q | q
    · rcases List.mem_append.mp q with q | q
      · exact h.nd y (List.mem_append_left _ q)
      · cases hbb : b with
        | false => rw [hbb] at q; exact nomatch q
        | true =>
          rw [hbb, if_pos rfl] at q
          rw [List.mem_singleton.mp q]
          exact ⟨x.so, fun k hk => by have := x.rg k hk; dsimp only; omega, at_, x.rf, hb.mp hbb⟩
    · cases hcc : c with
      | false => rw [hcc] at q; exact nomatch q
      | true =>
        rw [hcc, if_pos rfl] at q
        rw [List.mem_singleton.mp q]
        have ne : (hngI n J S).getD (smAt n J a).1 0 ≠ (hngI n J S).getD (oth J (smAt n J a)).1 0 := fun z => hc.mp hcc ((f0.iff s1 s3).mp z)
        refine ⟨List.pairwise_append.mpr ⟨x.so, List.pairwise_singleton _ _, fun k hk m hm => ?_⟩, fun k hk => ?_, at_, ?_, ?_⟩
        · rw [List.mem_singleton.mp hm]
          exact (x.rg k hk).2
        · rcases List.mem_append.mp hk with z | z
          · have := x.rg k z
            dsimp only
            omega
          · rw [List.mem_singleton.mp z]
            dsimp only
            omega
        · have := srtS_rel (u := (hngI n J S).getD (smAt n J (a : Int)).1 0) (v := (hngI n J S).getD (oth J (smAt n J (a : Int))).1 0) ne (getD_mem' (by rw [f0.len]; exact s1)) (getD_mem' (by rw [f0.len]; exact s3))
          have rf := x.rf
          dsimp only
          rw [hngI_snoc, List.length_append, List.length_singleton]
          show S.length + 1 + (srtS (rel _ _ (hngI n J S))).length = n
          omega
        · refine x.hg.mono fun k hk => ?_
          dsimp only at hk ⊢
          rcases List.mem_append.mp hk with z | z
          · exact List.mem_append_left _ (List.mem_append_left _ z)
          · have := mem_rst.mp z
            by_cases c : k = (a : Int)
            · exact List.mem_append_left _ (List.mem_append_right _ (List.mem_singleton.mpr c))
            · exact List.mem_append_right _ (mem_rst.mpr ⟨by omega, this.2⟩)
  · rcases h.all E t so with z | ⟨y, hy, z⟩
    · exact .inl z
    · rcases List.mem_append.mp hy with q | q
      · exact .inr ⟨y, List.mem_append_left _ (List.mem_append_left _ q), z⟩
      · rw [List.mem_singleton.mp q] at z
        dsimp only at z
        right
        by_cases m : (a : Int) ∈ E
        · have cs := cut_snoc so m
          rw [z] at cs
          have hcc : c = true := hc.mpr fun z2 => by
            refine part_apart sk (S := S) (k := (a : Int)) t ?_ (fun k hk => ?_) x.rf ((f0.iff s1 s3).mpr z2)
            · rw [← cs]
              exact (so.filter _).imp fun h => by omega
            · rw [← cs] at hk
              exact (List.mem_filter.mp hk).1
          exact ⟨(S ++ [(a : Int)], a + 1), List.mem_append_right _ (by rw [hcc, if_pos rfl]; exact List.mem_singleton_self _), cs⟩
        · have cs := cut_same m
          rw [z] at cs
          have hbb : b = true := hb.mpr (by
            have := cut_hang t (a + 1)
            rw [cs] at this
            exact this)
          exact ⟨(S, a + 1), List.mem_append_left _ (List.mem_append_right _ (by rw [hbb, if_pos rfl]; exact List.mem_singleton_self _)), cs⟩
  · have := h.sz
    generalize 2 ^ (2 * n + 1) = z at this ⊢
    omega
theorem Nts.done {F : List (List Int)} (h : Nts n J F []) (E : List Int) : E ∈ F ↔ Tr0 n J E ∧ E.Pairwise (· < ·) :=
  ⟨h.fd E, fun ⟨t, so⟩ => (h.all E t so).elim id fun ⟨_, hx, _⟩ => nomatch hx⟩
end
end Ve
namespace Lw
open PySem PySem.Spec L2 Ve
def k_MOST_SQUARES : D := (.int (130))
def k_STEPS : D := (.wt [(.wt [(.int (1)), (.int (0))]), (.wt [(.int (0)), (.int (1))]), (.wt [(.int (-1)), (.int (0))]), (.wt [(.int (0)), (.int (-1))])])
def k_SIGNS : D := (.wt [(.wt [(.str "#."), (.str "-.")]), (.wt [(.str "|."), (.str ".")])])
@[simp] def b_L_hand_2 : AS :=
    (sRet (mNew (mLst (mCons (m2 (mVar 2) (mAs (mCons (m2 (mVar 2) (m2 (mC (.int 10)) (mC (.int 18)) gPow) gGe) mNil) gInt) gMul) (mCons (m2 (m2 (m2 (mVar 2) (mC (.int 2305843009213693951)) gMod) (m2 (mC (.int 7919)) (mVar 1) gMul) gAdd) (mC (.int 3)) gAdd) (mCons (mC (.int 0)) mNil))))))
@[simp] def b_L_hand_1 : AS :=
    sSeq (sIf (mT (m2 (mVar 1) (mAs (mCons (mVar 0) mNil) gLen) gLt)) (sSet 2 (m2 (mVar 0) (mVar 1) gIx)) sNext)
    b_L_hand_2
def b_L_hand : AS :=
    sSeq (sSet 2 (mC (.int 0)))
    b_L_hand_1
def m_L_hand : List D → Hd → Option (D × Hd) := mDef 3 b_L_hand
def c_L_hand := cN m_L_hand
theorem con_L_hand : Cl c_L_hand m_L_hand := cl_cN _
@[simp] def b_L_take_6 : AS :=
    (sRet (m2 (m2 (m2 (mVar 4) (mC (.int 97)) gDiv) (m2 (mVar 4) (mC (.int 1000033)) gDiv) gAdd) (mVar 1) gMod))
@[simp] def b_L_take_5 : AS :=
    sSeq (sSet 4 (m2 (m2 (mVar 4) (mVar 5) gMul) (mC (.int 2305843009213693907)) gMod))
    b_L_take_6
@[simp] def b_L_take_4 : AS :=
    sSeq (sSet 5 (m2 (m2 (m2 (mVar 4) (mC (.int 1000003)) gMod) (m2 (mVar 3) (mC (.int 99991)) gMul) gAdd) (mC (.int 11)) gAdd))
    b_L_take_5
@[simp] def b_L_take_3 : AS :=
    sSeq (sSet 4 (m2 (m2 (m2 (mVar 0) (mC (.int 1)) gIx) (m2 (m2 (mC (.int 48271)) (m2 (m2 (mC (.int 2)) (mVar 3) gMul) (mVar 3) gMul) gAdd) (m2 (mC (.int 65537)) (mVar 3) gMul) gAdd) gMul) (mC (.int 2305843009213693921)) gMod))
    b_L_take_4
@[simp] def b_L_take_2 : AS :=
    sSeq (sSet 3 (m2 (mVar 0) (mC (.int 2)) gIx))
    b_L_take_3
@[simp] def b_L_take_1 : AS :=
    sSeq (sStore (m2 (m2 (mVar 0) (mC (.int 2)) gIx) (mC (.int 1)) gAdd) (mVar 0) (mC (.int 2)))
    b_L_take_2
def b_L_take : AS :=
    sSeq (sIf (mT (m2 (m2 (mVar 0) (mC (.int 0)) gIx) (mC (.int 0)) gGt)) (sSeq (sAsgM (tTp ((tSub (mVar 0) (mC (.int 0))) :: ((tNm 2) :: []))) (mTup (mCons (m2 (m2 (mVar 0) (mC (.int 0)) gIx) (mVar 1) gDiv) (mCons (m2 (m2 (mVar 0) (mC (.int 0)) gIx) (mVar 1) gMod) mNil))))
    (sRet (mVar 2))) sNext)
    b_L_take_1
def m_L_take : List D → Hd → Option (D × Hd) := mDef 6 b_L_take
def c_L_take := c1V m_L_take
theorem con_L_take : Cl c_L_take m_L_take := cl_c1V _
def Hand (T : Nat) (o : O) : Prop := ∃ a b t : Int, o = .lst [.int a, .int b, .int t] ∧ 0 ≤ a ∧ 0 ≤ b ∧ b < 2 ^ 62 ∧ 0 ≤ t ∧ t ≤ T
theorem Hand.mono {T T' : Nat} {o : O} (h : Hand T o) (hT : T ≤ T') : Hand T' o := by
  obtain ⟨a, b, t, e, h1, h2, h3, h4, h5⟩ := h
  exact ⟨a, b, t, e, h1, h2, h3, h4, by omega⟩
theorem Hand.nr {T : Nat} {o : O} (h : Hand T o) : nrO o = true := by
  obtain ⟨a, b, t, rfl, _⟩ := h
  rfl
theorem hand_ok (ns : List Int) (k : Nat) (hk : k < 100) (hp : Hd) : ∃ o, c_L_hand [.scr ns, .int k] hp = some (.ref hp.length, hp ++ [o]) ∧ Hand 0 o := by
  have key : ∀ cell : Int, ∃ a b : Int, 0 ≤ a ∧ 0 ≤ b ∧ b < 2 ^ 62 ∧ a = cell * (if decide ((10 : Int) ^ 18 ≤ cell) = true then 1 else 0) ∧ b = cell % 2305843009213693951 + 7919 * k + 3 := by
    intro cell
    have h1 := Int.emod_nonneg cell (show (2305843009213693951 : Int) ≠ 0 by decide)
    have h2 := Int.emod_lt_of_pos cell (show (0 : Int) < 2305843009213693951 by decide)
    refine ⟨_, _, ?_, ?_, ?_, rfl, rfl⟩
    · split
      · rename_i h
        have := of_decide_eq_true h
        omega
      · omega
    · omega
    · omega
  have run : ∃ o g, m_L_hand [.scr ns, .int k] [] = some (.ref 0, o :: g) ∧ Hand 0 o := by
    by_cases hl : (k : Int) < (ns.length : Int)
    · have hk2 : k < ns.length := by omega
      obtain ⟨a, b, h1, h2, h3, ea, eb⟩ := key ns[k]
      refine ⟨.lst [.int a, .int b, .int 0], [], ?_, a, b, 0, rfl, h1, h2, h3, by omega, by omega⟩
      have hix : atI ns (k : Int) = some ns[k] := atI_nat (List.getElem?_eq_getElem hk2)
      have hb : decide ((k : Int) < (ns.length : Int)) = true := decide_eq_true hl
      have c1 : cMul ns[k] (if decide ((10 : Int) ^ 18 ≤ ns[k]) = true then 1 else 0) = true := cMul_of (.inr (by split <;> omega))
      have c2 : cMul 7919 (k : Int) = true := cMul_of (.inl (by omega))
      rw [ea, eb]
      simp [m_L_hand, b_L_hand, stD, hk2, gIx, hix, gLen, gPow, cPow, gInt, gMul_int, gMod_int, c1, c2, sizeLine_eq] at c1 c2 ⊢
      simp [gMul_int c1]
    · obtain ⟨a, b, h1, h2, h3, ea, eb⟩ := key 0
      refine ⟨.lst [.int a, .int b, .int 0], [], ?_, a, b, 0, rfl, h1, h2, h3, by omega, by omega⟩
      have hb : decide ((k : Int) < (ns.length : Int)) = false := decide_eq_false hl
      have c1 : cMul 0 (if decide ((10 : Int) ^ 18 ≤ 0) = true then 1 else 0) = true := by decide
      have c2 : cMul 7919 (k : Int) = true := cMul_of (.inl (by omega))
      rw [ea, eb]
      simp [m_L_hand, b_L_hand, stD, show ¬ k < ns.length by omega, gIx, gLen, gPow, cPow, gInt, gMul_int, gMod_int, c1, c2, sizeLine_eq] at c1 c2 ⊢
      simp [gMul_int c1]
  obtain ⟨o, g, e, ho⟩ := run
  refine ⟨o, ?_, ho⟩
  simp [c_L_hand, cN, nrs, D.alls, D.all, e, ho.nr]
theorem take_run (T : Nat) (hT : T < 1000000) (o : O) (h : Hand T o) (many : Int) (h1 : 0 < many) (h2 : many < 1073741824) : ∃ r o' g, m_L_take [.ref 0, .int many] [o] = some (.int r, o' :: g) ∧ 0 ≤ r ∧ r < many ∧ Hand (T + 1) o' := by
  obtain ⟨a, b, t, rfl, ha, hb, hb2, ht, ht2⟩ := h
  have cd : cDiv a many = true := cDiv_of ⟨h1, h2⟩
  by_cases hz : 0 < a
  · refine ⟨a % many, .lst [.int (a / many), .int b, .int t], [], ?_, Int.emod_nonneg _ (by omega), Int.emod_lt_of_pos _ h1, a / many, b, t, rfl, Int.ediv_nonneg ha (by omega), hb, hb2, ht, by omega⟩
    simp [m_L_take, b_L_take, stD, sAsgM_s, tTp_s, tTps_nil, tTps_cons, tNm_s, tSub_s, sizeLine_eq, gIx, atI, ixN, hz, gMod_int h1, gDiv_int cd, gSet]
  · have q1 : cMul 2 (t + 1) = true := cMul_of (.inl (by omega))
    have q2 : cMul (2 * (t + 1)) (t + 1) = true := cMul_of (.inl (by omega))
    have q3 : cMul 65537 (t + 1) = true := cMul_of (.inl (by omega))
    have q4 : cMul b (48271 + 2 * (t + 1) * (t + 1) + 65537 * (t + 1)) = true := cMul_of (.inl (by omega))
    have q5 : cMul (t + 1) 99991 = true := cMul_of (.inl (by omega))
    let mx := b * (48271 + 2 * (t + 1) * (t + 1) + 65537 * (t + 1)) % 2305843009213693921
    have hm1 : 0 ≤ mx := Int.emod_nonneg _ (by decide)
    have hm2 : mx < 2305843009213693921 := Int.emod_lt_of_pos _ (by decide)
    let ot := mx % 1000003 + (t + 1) * 99991 + 11
    have q6 : cMul mx ot = true := cMul_of (.inl (by omega))
    let m2' := mx * ot % 2305843009213693907
    have hn1 : 0 ≤ m2' := Int.emod_nonneg _ (by decide)
    have d1 : cDiv m2' 97 = true := cDiv_of (by omega)
    have d2 : cDiv m2' 1000033 = true := cDiv_of (by omega)
    refine ⟨(m2' / 97 + m2' / 1000033) % many, .lst [.int a, .int b, .int (t + 1)], [], ?_, Int.emod_nonneg _ (by omega), Int.emod_lt_of_pos _ h1, a, b, t + 1, rfl, ha, hb, hb2, by omega, by omega⟩
    simp only [mx, ot, m2'] at q6 d1 d2 ⊢
    simp [m_L_take, b_L_take, stD, sAsgM_s, tTp_s, tTps_nil, tTps_cons, tNm_s, tSub_s, sizeLine_eq, gIx, atI, ixN, hz, gMod_int h1, gMod_int, gMul_int q1, gMul_int q2, gMul_int q3, gMul_int q4, gMul_int q5, gMul_int q6, gDiv_int d1, gDiv_int d2, gSet]
theorem take_ok (T : Nat) (hT : T < 1000000) (hp : Hd) (n : Nat) (o : O) (e : hp[n]? = some o) (h : Hand T o) (many : Int) (h1 : 0 < many) (h2 : many < 1073741824) :
    ∃ r o', c_L_take [.ref n, .int many] hp = some (.int r, hp.set n o') ∧ 0 ≤ r ∧ r < many ∧ Hand (T + 1) o' := by
  obtain ⟨r, o', g, e1, e2, e3, h'⟩ := take_run T hT o h many h1 h2
  refine ⟨r, o', ?_, e2, e3, h'⟩
  simp [c_L_take, c1V, e, nrs, D.alls, D.all, h.nr, h'.nr, e1]
def b_L_pick : AS :=
    (sRet (m2 (mVar 1) (mAs (mCons (mVar 0) (mCons (mAs (mCons (mVar 1) mNil) gLen) mNil)) (ar 2 c_L_take)) gIx))
def m_L_pick : List D → Hd → Option (D × Hd) := mDef 2 b_L_pick
abbrev c_L_pick := m_L_pick
theorem pick_ok (T : Nat) (hT : T < 1000000) (hp : Hd) (n s : Nat) (hns : n ≠ s) (o : O) (e : hp[n]? = some o) (h : Hand T o) (xs : List D) (es : hp[s]? = some (.lst xs)) (h0 : xs ≠ []) (h1 : xs.length < 1073741824) :
    ∃ (i : Nat) (hi : i < xs.length) (o' : O), c_L_pick [.ref n, .ref s] hp = some (xs[i], hp.set n o') ∧ Hand (T + 1) o' := by
  have hl : 0 < xs.length := List.length_pos_iff.mpr h0
  obtain ⟨r, o', e1, e2, e3, h'⟩ := take_ok T hT hp n o e h (xs.length : Int) (by omega) (by omega)
  have hr : r.toNat < xs.length := by omega
  refine ⟨r.toNat, hr, o', ?_, h'⟩
  have hix : atI xs r = some xs[r.toNat] := by
    have := atI_nat (xs := xs) (j := r.toNat) (List.getElem?_eq_getElem hr)
    rwa [Int.toNat_of_nonneg e2] at this
  simp [c_L_pick, m_L_pick, b_L_pick, stD, gLen, es, e1, gIx, List.getElem?_set_ne hns, hix]
end Lw
namespace Lw
open PySem PySem.Spec L2 Ve
@[simp] def B1_L_piece_4 : AS :=
    (sStore (mC (.bl true)) (mVar 1) (mVar 7))
@[simp] def B1_L_piece_3 : AS :=
    sSeq (sIf (mT (m2 (mVar 7) (mVar 1) gNotIn)) (sStoreN (mC (.bl true)) (mVar 2) (mL (mSortedL (mLst (mCons (mTup (mCons (mVar 4) (mCons (mVar 5) mNil))) (mCons (mVar 7) mNil)))) gTup)) sNext)
    B1_L_piece_4
@[simp] def B1_L_piece_2 : AS :=
    sSeq (sSet 7 (mTup (mCons (m2 (mVar 4) (m2 (mNew (mLst (mCons (mC (.int 1)) (mCons (mC (.int 0)) (mCons (m1 (mC (.int 1)) gNeg) (mCons (mC (.int 0)) mNil)))))) (mVar 6) gIx) gAdd) (mCons (m2 (mVar 5) (m2 (mNew (mLst (mCons (mC (.int 0)) (mCons (mC (.int 1)) (mCons (mC (.int 0)) (mCons (m1 (mC (.int 1)) gNeg) mNil)))))) (mVar 6) gIx) gAdd) mNil))))
    B1_L_piece_3
@[simp] def B1_L_piece_1 : AS :=
    sSeq (sSet 6 (mAs (mCons (mVar 0) (mCons (mC (.int 4)) mNil)) (ar 2 c_L_take)))
    B1_L_piece_2
def B1_L_piece : AS :=
    sSeq (sAsg (.tp ((.nm 4) :: ((.nm 5) :: []))) (mAs (mCons (mVar 0) (mCons (mNew (mSorted (mVar 1))) mNil)) (ar 2 c_L_pick)))
    B1_L_piece_1
def F1_L_piece : AS := (sForI (mR1 (mCons (mAs (mCons (mVar 0) (mCons (mNew (mLst (mCons (mC (.int 0)) (mCons (mC (.int 1)) (mCons (mC (.int 2)) (mCons (mC (.int 3)) (mCons (mC (.int 4)) (mCons (mC (.int 5)) (mCons (mC (.int 8)) (mCons (m2 (mC (.int 9)) (mAs (mCons (mVar 0) (mCons (mC (.int 11)) mNil)) (ar 2 c_L_take)) gAdd) mNil)))))))))) mNil)) (ar 2 c_L_pick)) mNil)) (.nm 3) B1_L_piece)
def B2_L_piece : AS :=
    (sIf (mAnd (mT (m2 (mVar 7) (mVar 1) gIn)) (mT (m2 (mAs (mCons (mVar 0) (mCons (mC (.int 4)) mNil)) (ar 2 c_L_take)) (mC (.int 0)) gEq))) (sStoreN (mC (.bl true)) (mVar 2) (mTup (mCons (mTup (mCons (mVar 4) (mCons (mVar 5) mNil))) (mCons (mVar 7) mNil)))) sNext)
def F2_L_piece : AS := (sForI (mIS (mTup (mCons (mTup (mCons (m2 (mVar 4) (mC (.int 1)) gAdd) (mCons (mVar 5) mNil))) (mCons (mTup (mCons (mVar 4) (mCons (m2 (mVar 5) (mC (.int 1)) gAdd) mNil))) mNil)))) (.nm 7) B2_L_piece)
def B3_L_piece : AS :=
    F2_L_piece
def F3_L_piece : AS := (sForI (mIL (mSorted (mVar 1))) (.tp ((.nm 4) :: ((.nm 5) :: []))) B3_L_piece)
def E1_L_piece : AE :=
    (mVar 5)
def C1_L_piece : AA :=
    (mLc (mIK (mVar 1)) (.tp ((.nm 4) :: ((.nm 5) :: []))) [4, 5] tYesD E1_L_piece)
def E2_L_piece : AE :=
    (mVar 4)
def C2_L_piece : AA :=
    (mLc (mIK (mVar 1)) (.tp ((.nm 4) :: ((.nm 5) :: []))) [4, 5] tYesD E2_L_piece)
def E3_L_piece : AE :=
    (mTup (mCons (mMet isL (mVar 10) (mCons (mVar 12) mNil) gLIdx) (mCons (mMet isL (mVar 10) (mCons (mVar 7) mNil) gLIdx) mNil)))
def C3_L_piece : AA :=
    (mLc (mIKN (mVar 2)) (.tp ((.nm 12) :: ((.nm 7) :: []))) [12, 7] tYesD E3_L_piece)
def E4_L_piece : AE :=
    (mTup (mCons (m2 (mVar 4) (mVar 8) gSub) (mCons (m2 (mVar 5) (mVar 9) gSub) mNil)))
def C4_L_piece : AA :=
    (mLc (mIS (mVar 10)) (.tp ((.nm 4) :: ((.nm 5) :: []))) [4, 5] tYesD E4_L_piece)
@[simp] def b_L_piece_6 : AS :=
    (sRet (mTup (mCons (mL C4_L_piece gTup) (mCons (mAs (mCons (mVar 11) mNil) gTupV) mNil))))
@[simp] def b_L_piece_5 : AS :=
    sSeq (sSet 11 (mNew (mSortedL C3_L_piece)))
    b_L_piece_6
@[simp] def b_L_piece_4 : AS :=
    sSeq (sSet 10 (mNew (mSorted (mVar 1))))
    b_L_piece_5
@[simp] def b_L_piece_3 : AS :=
    sSeq (sAsg (.tp ((.nm 8) :: ((.nm 9) :: []))) (mTup (mCons (mL (mLock (mVar 1) C2_L_piece) (gBestL false)) (mCons (mL (mLock (mVar 1) C1_L_piece) (gBestL false)) mNil))))
    b_L_piece_4
@[simp] def b_L_piece_2 : AS :=
    sSeq F3_L_piece
    b_L_piece_3
@[simp] def b_L_piece_1 : AS :=
    sSeq F1_L_piece
    b_L_piece_2
def b_L_piece : AS :=
    sSeq (sPar 1 2 (mCons (mDict (((mTup (mCons (mC (.int 0)) (mCons (mC (.int 0)) mNil))), (mC (.bl true))) :: [])) (mCons mDict0N mNil)))
    b_L_piece_1
def m_L_piece : List D → Hd → Option (D × Hd) := mDef 13 b_L_piece
theorem lockC {i n : Nat} {t : Tg} {own : List Nat} {te : AE} {ls : Ls} {H : Hd} {L : List (List Int)} (hv : ls[i]? = some (some (.ref n))) (h : H[n]? = some (.dic (Cd L))) (hl : L.length ≤ 100000) (df : List Int → D)
    (hs : ∀ x ∈ L, ∃ ls1, t.asg (T x) (wipeL ls own) = some ls1 ∧ te ls1 (H.set n (.dicL (Cd L))) = some (df x, H.set n (.dicL (Cd L)))) : mLock (mVar i) (mLc (mIK (mVar i)) t own tYesD te) ls H = some (L.map df, H) := by
  unfold mLock
  rw [mVar_of hv]
  dsimp only
  rw [h]
  dsimp only
  have el := mLc_typed (fi := mIK (mVar i)) (t := t) (own := own) (tt := tYesD) (te := te) (ls := ls) (hp := H.set n (.dicL (Cd L))) (hp1 := H.set n (.dicL (Cd L))) (gd := []) T L (fun _ => true) df (by
    unfold mIK
    rw [mVar_of hv]
    dsimp only
    rw [hset_same h]
    dsimp only
    unfold Cd
    rw [List.map_map]
    rfl) (by rw [sizeLine_eq]; omega) rfl (fun l hl => by
      obtain ⟨ls1, e1, e2⟩ := hs l hl
      exact ⟨ls1, e1, rfl, fun _ => e2⟩)
  rw [List.filter_eq_self.mpr fun _ _ => rfl] at el
  rw [el]
  dsimp only
  unfold unl
  rw [hset_same h]
  dsimp only
  rw [List.set_set, set_same h]
def pr2 (a b : List Int) : List Int × List Int := if a < b then (a, b) else (b, a)
theorem sortC_two {a b : List Int} (h : a ≠ b) : sortC [a, b] = [(pr2 a b).1, (pr2 a b).2] := by
  unfold pr2
  by_cases c : a < b
  · rw [if_pos c]
    exact (sortC_perm _).eq_of_pairwise (fun x y _ _ h1 h2 => List.le_antisymm h1 h2) (sortC_sorted _) (by
      refine List.pairwise_cons.mpr ⟨fun x hx => ?_, List.pairwise_singleton _ _⟩
      rw [List.mem_singleton.mp hx]
      exact List.le_of_lt c)
  · rw [if_neg c]
    have hb : b < a := lt_of (List.not_lt.mp c) (Ne.symm h)
    exact ((sortC_perm _).trans (List.Perm.swap b a [])).eq_of_pairwise (fun x y _ _ h1 h2 => List.le_antisymm h1 h2) (sortC_sorted _) (by
      refine List.pairwise_cons.mpr ⟨fun x hx => ?_, List.pairwise_singleton _ _⟩
      rw [List.mem_singleton.mp hx]
      exact List.le_of_lt hb)
theorem pr2_lt {a b : List Int} (h : a ≠ b) : (pr2 a b).1 < (pr2 a b).2 := by
  unfold pr2
  by_cases c : a < b
  · rw [if_pos c]; exact c
  · rw [if_neg c]
    exact lt_of (List.not_lt.mp c) (Ne.symm h)
theorem pr2_cases (a b : List Int) : pr2 a b = (a, b) ∨ pr2 a b = (b, a) := by
  unfold pr2
  by_cases c : a < b
  · rw [if_pos c]; exact .inl rfl
  · rw [if_neg c]; exact .inr rfl
theorem grw_addP {L : List (List Int)} {JJ : List (List Int × List Int)} (h : Grw L JJ) {a : List Int} (ha : a ∈ L) {k : Nat} (hk : k < 4) (hn : adK a k ∉ L) : Grw (L ++ [adK a k]) (JJ ++ [pr2 a (adK a k)]) := by
  have g := h.add ha hk hn
  rcases pr2_cases a (adK a k) with e | e
  · rw [e]; exact g
  · rw [e]
    refine ⟨g.two, g.nd, g.ne, fun p hp => ?_, fun S hs cl => g.con S hs fun p hp => ?_⟩
    · rcases List.mem_append.mp hp with z | z
      · exact g.inn p (List.mem_append_left _ z)
      · obtain ⟨h1, h2, h3⟩ := g.inn (a, adK a k) (by simp)
        rw [List.mem_singleton.mp z]
        exact ⟨h2, h1, h3.symm⟩
    · rcases List.mem_append.mp hp with z | z
      · exact cl p (List.mem_append_left _ z)
      · rw [List.mem_singleton.mp z]
        exact (cl (adK a k, a) (by simp)).symm
theorem grw_more {L : List (List Int)} {JJ : List (List Int × List Int)} (h : Grw L JJ) {p : List Int × List Int} (h1 : p.1 ∈ L) (h2 : p.2 ∈ L) (h3 : Sbs p.1 p.2) : Grw L (JJ ++ [p]) := by
  refine ⟨h.two, h.nd, h.ne, fun q hq => ?_, fun S hs cl => h.con S hs fun q hq => cl q (List.mem_append_left _ hq)⟩
  rcases List.mem_append.mp hq with z | z
  · exact h.inn q z
  · rw [List.mem_singleton.mp z]
    exact ⟨h1, h2, h3⟩
def pl (p : List Int × List Int) : List (List Int) := [p.1, p.2]
abbrev eT (p : List Int × List Int) : D := TT (pl p)
theorem pl_inj {p q : List Int × List Int} (h : pl p = pl q) : p = q := by
  obtain ⟨a, b⟩ := p
  obtain ⟨c, d⟩ := q
  unfold pl at h
  injection h with h1 h2
  injection h2 with h2 _
  exact Prod.ext h1 h2
structure PS (N : Nat) (L : List (List Int)) (JJ : List (List Int × List Int)) (H : Hd) : Prop where
  hand : ∃ o, H[0]? = some o ∧ Hand N o
  dic : H[1]? = some (.dic (Cd L))
  prs : H[2]? = some (.dicN (JJ.map eT))
  g : Grw L JJ
  lt : ∀ p ∈ JJ, p.1 < p.2
  nd : JJ.Nodup
theorem PS.app {N : Nat} {L : List (List Int)} {JJ : List (List Int × List Int)} {H l : Hd} (g : PS N L JJ H) : PS N L JJ (H ++ l) := by
  obtain ⟨o, e, h⟩ := g.hand
  exact ⟨⟨o, hget_old e, h⟩, hget_old g.dic, hget_old g.prs, g.g, g.lt, g.nd⟩
theorem PS.mono {N N' : Nat} {L : List (List Int)} {JJ : List (List Int × List Int)} {H : Hd} (g : PS N L JJ H) (h : N ≤ N') : PS N' L JJ H := by
  obtain ⟨o, e, q⟩ := g.hand
  exact ⟨⟨o, e, q.mono h⟩, g.dic, g.prs, g.g, g.lt, g.nd⟩
theorem PS.take {N : Nat} {L : List (List Int)} {JJ : List (List Int × List Int)} {H : Hd} (g : PS N L JJ H) (hN : N < 1000000) {many : Nat} (h1 : 0 < many) (h2 : many < 1000000) : ∃ (r : Nat) (H' : Hd), c_L_take [.ref 0, .int (many : Nat)] H = some (.int (r : Nat), H') ∧ r < many ∧ PS (N + 1) L JJ H' ∧ ∀ k, k ≠ 0 → H'[k]? = H[k]? := by
  obtain ⟨o, e, h⟩ := g.hand
  obtain ⟨r', o', e1, e2, e3, h'⟩ := take_ok N hN H 0 o e h (many : Nat) (by omega) (by omega)
  obtain ⟨k, rfl⟩ := Int.eq_ofNat_of_zero_le e2
  exact ⟨k, _, e1, by omega, ⟨⟨o', hset_same e, h'⟩, hset_ne (by decide) g.dic, hset_ne (by decide) g.prs, g.g, g.lt, g.nd⟩, fun k hk => List.getElem?_set_ne (Ne.symm hk)⟩
theorem PS.pick {N : Nat} {L : List (List Int)} {JJ : List (List Int × List Int)} {H : Hd} (g : PS N L JJ H) (hN : N < 1000000) {xs : List D} (h0 : xs ≠ []) (h1 : xs.length < 1000000) : ∃ (i : Nat) (hi : i < xs.length) (H' : Hd), c_L_pick [.ref 0, .ref H.length] (H ++ [.lst xs]) = some (xs[i], H') ∧ PS (N + 1) L JJ H' := by
  obtain ⟨o, e, h⟩ := g.hand
  obtain ⟨i, hi, o', e1, h'⟩ := pick_ok N hN (H ++ [.lst xs]) 0 H.length (by have := hlt e; omega) o (hget_old e) h xs hget_new h0 (by omega)
  exact ⟨i, hi, _, e1, ⟨⟨o', hset_same (hget_old e), h'⟩, hset_ne (by decide) (hget_old g.dic), hset_ne (by decide) (hget_old g.prs), g.g, g.lt, g.nd⟩⟩
theorem nesL {L : List (List Int)} (h : Two L) : ∀ c ∈ L, c ≠ [] := fun c hc e => by
  obtain ⟨x, y, rfl⟩ := h c hc
  cases e
theorem four_ix {ls : Ls} {H : Hd} {k : Nat} {j : Nat} (hk : k < 4) (hv : ls[j]? = some (some (.int (k : Nat)))) (a b c d : Int) {ea eb ec ed : AE} (ha : ∀ G, ea ls G = some (.int a, G)) (hb : ∀ G, eb ls G = some (.int b, G)) (hc : ∀ G, ec ls G = some (.int c, G)) (hd : ∀ G, ed ls G = some (.int d, G)) :
    m2 (mNew (mLst (mCons ea (mCons eb (mCons ec (mCons ed mNil)))))) (mVar j) gIx ls H = some (.int ([a, b, c, d].getD k 0), H ++ [.lst [.int a, .int b, .int c, .int d]]) := by
  refine m2_ev (mNew_of (lst_of (cons_of (ha _) (cons_of (hb _) (cons_of (hc _) (cons_of (hd _) nil_of)))) (Nat.le_of_ble_eq_true rfl))) (mVar_of hv) (gIx_refN hget_new ?_)
  rcases four_nat hk with rfl | rfl | rfl | rfl <;> rfl
theorem PS.put {N : Nat} {L : List (List Int)} {JJ : List (List Int × List Int)} {H : Hd} (g : PS N L JJ H) {ls : Ls} {fi : AE} {H1 : Hd} {p : List Int × List Int} (hp : ls[2]? = some (some (.ref 2))) (e : fi ls H = some (eT p, H)) (hl : JJ.length < 100000) (hin : p ∈ JJ ∨ Grw L (JJ ++ [p])) (hlt : p.1 < p.2) :
    ∃ H', sStoreN (mC (.bl true)) (mVar 2) fi ls H = some (.nx, ls, H') ∧ PS N L (if p ∈ JJ then JJ else JJ ++ [p]) H' ∧ H'.length = H.length ∧ ∀ k, k ≠ 2 → H'[k]? = H[k]? := by
  have es := sStoreN_of (fe := mC (.bl true)) (fo := mVar 2) (fi := fi) (ls := ls) (hp := H) mC_of (mVar_of hp) e g.prs (nkOf_TT _) (by rw [List.length_map]; omega)
  have hm : hasNK (JJ.map eT) (nkT (pl p)) = decide (p ∈ JJ) := by
    have := hasNK_TT (JJ.map pl) (pl p)
    rw [List.map_map] at this
    refine this.trans (decide_eq_decide.mpr ⟨fun h => ?_, fun h => List.mem_map_of_mem h⟩)
    obtain ⟨q, hq, e⟩ := List.mem_map.mp h
    rw [← pl_inj e]
    exact hq
  rw [hm] at es
  by_cases c : p ∈ JJ
  · rw [decide_eq_true c, if_pos rfl] at es
    rw [if_pos c]
    exact ⟨H, es, g, rfl, fun _ _ => rfl⟩
  · rw [decide_eq_false c, if_neg (by decide)] at es
    rw [if_neg c]
    refine ⟨_, es, ⟨?_, hset_ne (by decide) g.dic, ?_, ?_, fun q hq => ?_, ?_⟩, by rw [List.length_set], fun k hk => List.getElem?_set_ne (Ne.symm hk)⟩
    · obtain ⟨o, eo, ho⟩ := g.hand
      exact ⟨o, hset_ne (by decide) eo, ho⟩
    · rw [hset_same g.prs, List.map_append]; rfl
    · rcases hin with z | z
      · exact absurd z c
      · exact z
    · rcases List.mem_append.mp hq with z | z
      · exact g.lt q z
      · rw [List.mem_singleton.mp z]; exact hlt
    · refine List.nodup_append.mpr ⟨g.nd, by simp, fun a ha b hb e => c ?_⟩
      rw [← List.mem_singleton.mp hb, ← e]
      exact ha
end Lw
namespace Lw
open PySem PySem.Spec L2 Ve
abbrev L8 (v3 v4 v5 v6 v7 : Option D) : Ls := [some (.ref 0), some (.ref 1), some (.ref 2), v3, v4, v5, v6, v7, none, none, none, none, none]
theorem p_grow {N : Nat} {L : List (List Int)} {JJ : List (List Int × List Int)} {H : Hd} {v3 v4 v5 v6 v7 : Option D} (g : PS N L JJ H) (hN : N + 10 < 1000000) (hL : L.length ≤ 200) (hJ : JJ.length ≤ 200) :
    ∃ (L' : List (List Int)) (JJ' : List (List Int × List Int)) (H' : Hd) (w4 w5 w6 w7 : Option D), B1_L_piece (L8 v3 v4 v5 v6 v7) H = some (.nx, L8 v3 w4 w5 w6 w7, H') ∧ PS (N + 2) L' JJ' H' ∧ L'.length ≤ L.length + 1 ∧ JJ'.length ≤ JJ.length + 1 := by
  have es : mSorted (mVar 1) (L8 v3 v4 v5 v6 v7) H = some ((sortC L).map T, H) := mSorted_dic (mVar_of rfl) g.dic (nesL g.g.two)
  have hp := sortC_perm L
  obtain ⟨i, hi, H1, e1, g1⟩ := g.pick (by omega) (xs := (sortC L).map T) (by
    intro z
    have := congrArg List.length z
    rw [List.length_map, hp.length_eq] at this
    exact g.g.ne (List.eq_nil_of_length_eq_zero this)) (by rw [List.length_map, hp.length_eq]; omega)
  rw [List.getElem_map] at e1
  have hi2 : i < (sortC L).length := by simpa using hi
  have ha : (sortC L)[i] ∈ L := hp.mem_iff.mp (List.getElem_mem hi2)
  generalize (sortC L)[i] = a at e1 ha
  obtain ⟨x, y, rfl⟩ := g.g.two a ha
  have s1 : sAsg (.tp ((.nm 4) :: ((.nm 5) :: []))) (mAs (mCons (mVar 0) (mCons (mNew (mSorted (mVar 1))) mNil)) (ar 2 c_L_pick)) (L8 v3 v4 v5 v6 v7) H = some (.nx, L8 v3 (some (.int x)) (some (.int y)) v6 v7, H1) :=
    asg_of (call_of (cons_of (mVar_of rfl) (cons_of (mNew_of es) nil_of)) rfl e1) rfl
  obtain ⟨k, H2, e2, hk, g2, _⟩ := g1.take (by omega) (many := 4) (by decide) (by decide)
  have s2 : sSet 6 (mAs (mCons (mVar 0) (mCons (mC (.int 4)) mNil)) (ar 2 c_L_take)) (L8 v3 (some (.int x)) (some (.int y)) v6 v7) H1 = some (.nx, L8 v3 (some (.int x)) (some (.int y)) (some (.int (k : Nat))) v7, H2) :=
    sSet_of (call_of (cons_of (mVar_of rfl) (cons_of mC_of nil_of)) rfl e2)
  have f1 := four_ix (ls := L8 v3 (some (.int x)) (some (.int y)) (some (.int (k : Nat))) v7) (H := H2) (j := 6) hk rfl 1 0 (-1) 0 (ea := mC (.int 1)) (eb := mC (.int 0)) (ec := m1 (mC (.int 1)) gNeg) (ed := mC (.int 0)) (fun _ => mC_of) (fun _ => mC_of) (fun _ => m1_ev mC_of rfl) (fun _ => mC_of)
  have f2 := four_ix (ls := L8 v3 (some (.int x)) (some (.int y)) (some (.int (k : Nat))) v7) (H := H2 ++ [.lst [.int 1, .int 0, .int (-1), .int 0]]) (j := 6) hk rfl 0 1 0 (-1) (ea := mC (.int 0)) (eb := mC (.int 1)) (ec := mC (.int 0)) (ed := m1 (mC (.int 1)) gNeg) (fun _ => mC_of) (fun _ => mC_of) (fun _ => mC_of) (fun _ => m1_ev mC_of rfl)
  have g3 := (g2.app (l := [.lst [.int 1, .int 0, .int (-1), .int 0]])).app (l := [.lst [.int 0, .int 1, .int 0, .int (-1)]])
  have et := tup_of (cons_of (m2_ev (mVar_of (i := 4) rfl) f1 gAdd_int) (cons_of (m2_ev (mVar_of (i := 5) rfl) f2 gAdd_int) nil_of)) (Nat.le_of_ble_eq_true rfl)
  generalize H2 ++ [.lst [.int 1, .int 0, .int (-1), .int 0]] ++ [.lst [.int 0, .int 1, .int 0, .int (-1)]] = H3 at et g3
  have ead : D.tup [.int (x + [1, 0, -1, 0].getD k 0), .int (y + [0, 1, 0, -1].getD k 0)] = T (adK [x, y] k) := by
    rcases four_nat hk with rfl | rfl | rfl | rfl <;> rfl
  rw [ead] at et
  have s3 := sSet_of (i := 7) et
  have hN2 : N + 2 < 1000000 := by omega
  have in7 : mT (m2 (mVar 7) (mVar 1) gNotIn) (L8 v3 (some (.int x)) (some (.int y)) (some (.int (k : Nat))) (some (T (adK [x, y] k)))) H3 = some (!decide (adK [x, y] k ∈ L), H3) := mT_of (m2_ev (mVar_of rfl) (mVar_of rfl) (gNotIn_dic g3.dic))
  have fin : ∀ (JJ' : List (List Int × List Int)) (H4 : Hd), PS (N + 2) L JJ' H4 ∨ ((∃ o, H4[0]? = some o ∧ Hand (N + 2) o) ∧ H4[1]? = some (.dic (Cd L)) ∧ H4[2]? = some (.dicN (JJ'.map eT)) ∧ Grw (addC L (adK [x, y] k)) JJ' ∧ (∀ p ∈ JJ', p.1 < p.2) ∧ JJ'.Nodup) → JJ'.length ≤ JJ.length + 1 → (adK [x, y] k ∈ L ∨ Grw (addC L (adK [x, y] k)) JJ') →
      sIf (mT (m2 (mVar 7) (mVar 1) gNotIn)) (sStoreN (mC (.bl true)) (mVar 2) (mL (mSortedL (mLst (mCons (mTup (mCons (mVar 4) (mCons (mVar 5) mNil))) (mCons (mVar 7) mNil)))) gTup)) sNext (L8 v3 (some (.int x)) (some (.int y)) (some (.int (k : Nat))) (some (T (adK [x, y] k)))) H3 = some (.nx, L8 v3 (some (.int x)) (some (.int y)) (some (.int (k : Nat))) (some (T (adK [x, y] k))), H4) →
      ∃ (L' : List (List Int)) (JJ' : List (List Int × List Int)) (H' : Hd) (w4 w5 w6 w7 : Option D), B1_L_piece (L8 v3 v4 v5 v6 v7) H = some (.nx, L8 v3 w4 w5 w6 w7, H') ∧ PS (N + 2) L' JJ' H' ∧ L'.length ≤ L.length + 1 ∧ JJ'.length ≤ JJ.length + 1 := by
    intro JJ' H4 h4 hl hg e4
    have q : (∃ o, H4[0]? = some o ∧ Hand (N + 2) o) ∧ H4[1]? = some (.dic (Cd L)) ∧ H4[2]? = some (.dicN (JJ'.map eT)) ∧ Grw (addC L (adK [x, y] k)) JJ' ∧ (∀ p ∈ JJ', p.1 < p.2) ∧ JJ'.Nodup := by
      rcases h4 with h4 | h4
      · refine ⟨h4.hand, h4.dic, h4.prs, ?_, h4.lt, h4.nd⟩
        rcases hg with z | z
        · unfold addC
          rw [if_pos z]
          exact h4.g
        · exact z
      · exact h4
    obtain ⟨⟨o, eo, ho⟩, q1, q2, q3, q4, q5⟩ := q
    have e5 : sStore (mC (.bl true)) (mVar 1) (mVar 7) (L8 v3 (some (.int x)) (some (.int y)) (some (.int (k : Nat))) (some (T (adK [x, y] k)))) H4 = some (.nx, _, H4.set 1 (.dic (Cd (addC L (adK [x, y] k))))) := sStore_of mC_of (mVar_of rfl) (mVar_of rfl) (gSet_add q1 (by rw [sizeLine_eq]; omega))
    refine ⟨addC L (adK [x, y] k), JJ', _, _, _, _, _, sSeq_of s1 (sSeq_of s2 (sSeq_of s3 (sSeq_of e4 e5))), ⟨⟨o, hset_ne (by decide) eo, ho⟩, hset_same q1, hset_ne (by decide) q2, q3, q4, q5⟩, ?_, hl⟩
    unfold addC
    split
    · omega
    · rw [List.length_append, List.length_singleton]; omega
  by_cases c : adK [x, y] k ∈ L
  · rw [decide_eq_true c] at in7
    exact fin JJ H3 (.inl g3) (by omega) (.inl c) (sIf_f in7 rfl)
  · rw [decide_eq_false c] at in7
    have hne : ([x, y] : List Int) ≠ adK [x, y] k := fun e => c (by rw [← e]; exact ha)
    have gg := grw_addP g.g ha hk c
    have esl : mL (mSortedL (mLst (mCons (mTup (mCons (mVar 4) (mCons (mVar 5) mNil))) (mCons (mVar 7) mNil)))) gTup (L8 v3 (some (.int x)) (some (.int y)) (some (.int (k : Nat))) (some (T (adK [x, y] k)))) H3 = some (eT (pr2 [x, y] (adK [x, y] k)), H3) := by
      have e0 : mLst (mCons (mTup (mCons (mVar 4) (mCons (mVar 5) mNil))) (mCons (mVar 7) mNil)) (L8 v3 (some (.int x)) (some (.int y)) (some (.int (k : Nat))) (some (T (adK [x, y] k)))) H3 = some ([[x, y], adK [x, y] k].map T, H3) := lst_of (cons_of (tup_of (cons_of (mVar_of rfl) (cons_of (mVar_of rfl) nil_of)) (Nat.le_of_ble_eq_true rfl)) (cons_of (mVar_of rfl) nil_of)) (Nat.le_of_ble_eq_true rfl)
      refine (mL_of (ds := [(pr2 [x, y] (adK [x, y] k)).1, (pr2 [x, y] (adK [x, y] k)).2].map T) (hp' := H3) ?_).trans rfl
      rw [mSortedL_s, e0]
      dsimp only
      rw [gSrt_T (fun c hc => ?_), sortC_two hne]
      rcases List.mem_cons.mp hc with z | z
      · rw [z]; simp
      · rw [List.mem_singleton.mp z]; simp [adK]
    have hnp : pr2 [x, y] (adK [x, y] k) ∉ JJ := fun z => by
      obtain ⟨h1, h2, _⟩ := g.g.inn _ z
      rcases pr2_cases [x, y] (adK [x, y] k) with e | e
      · rw [e] at h2; exact c h2
      · rw [e] at h1; exact c h1
    have es := sStoreN_of (fe := mC (.bl true)) (fo := mVar 2) (fi := mL (mSortedL (mLst (mCons (mTup (mCons (mVar 4) (mCons (mVar 5) mNil))) (mCons (mVar 7) mNil)))) gTup) (ls := L8 v3 (some (.int x)) (some (.int y)) (some (.int (k : Nat))) (some (T (adK [x, y] k)))) (hp := H3) mC_of (mVar_of rfl) esl g3.prs (nkOf_TT _) (by rw [List.length_map]; omega)
    have hm : hasNK (JJ.map eT) (nkT (pl (pr2 [x, y] (adK [x, y] k)))) = false := by
      have := hasNK_TT (JJ.map pl) (pl (pr2 [x, y] (adK [x, y] k)))
      rw [List.map_map] at this
      refine this.trans (decide_eq_false fun h => ?_)
      obtain ⟨q, hq, e⟩ := List.mem_map.mp h
      exact hnp (by rw [← pl_inj e]; exact hq)
    rw [hm, if_neg (by decide)] at es
    have ea : addC L (adK [x, y] k) = L ++ [adK [x, y] k] := by unfold addC; rw [if_neg c]
    refine fin (JJ ++ [pr2 [x, y] (adK [x, y] k)]) _ (.inr ⟨?_, hset_ne (by decide) g3.dic, ?_, by rw [ea]; exact gg, fun q hq => ?_, ?_⟩) (by rw [List.length_append, List.length_singleton]; omega) (.inr (by rw [ea]; exact gg)) (sIf_t in7 es)
    · obtain ⟨o, eo, ho⟩ := g3.hand
      exact ⟨o, hset_ne (by decide) eo, ho.mono (by omega)⟩
    · rw [hset_same g3.prs, List.map_append]; rfl
    · rcases List.mem_append.mp hq with z | z
      · exact g.lt q z
      · rw [List.mem_singleton.mp z]; exact pr2_lt hne
    · refine List.nodup_append.mpr ⟨g.nd, by simp, fun a ha b hb e => hnp ?_⟩
      rw [← List.mem_singleton.mp hb, ← e]
      exact ha
theorem p_loop1 {N : Nat} {H0 H : Hd} {fi : AI} {m : Nat} {v3 v4 v5 v6 v7 : Option D} (hN : N + 1000 < 1000000) (hm : m ≤ 100) (ei : fi (L8 v3 v4 v5 v6 v7) H0 = some ((List.range m).map fun i => D.int (i : Nat), [], H)) (g : PS N [[0, 0]] [] H) :
    ∃ (L : List (List Int)) (JJ : List (List Int × List Int)) (H' : Hd) (w3 w4 w5 w6 w7 : Option D), sForI fi (.nm 3) B1_L_piece (L8 v3 v4 v5 v6 v7) H0 = some (.nx, L8 w3 w4 w5 w6 w7, H') ∧ PS (N + 2 * m) L JJ H' ∧ L.length ≤ m + 1 ∧ JJ.length ≤ m := by
  obtain ⟨ls', H', e, L, JJ, w3, w4, w5, w6, w7, rfl, g', hL, hJ⟩ := sForI_pre (t := .nm 3) (b := B1_L_piece) (gd := []) (items := List.range m) (fun i : Nat => D.int (i : Nat)) (fun d ls H => ∃ L JJ w3 w4 w5 w6 w7, ls = L8 w3 w4 w5 w6 w7 ∧ PS (N + 2 * d.length) L JJ H ∧ L.length ≤ d.length + 1 ∧ JJ.length ≤ d.length) ei (fun _ _ _ _ => rfl)
    ⟨_, _, _, _, _, _, _, rfl, g, Nat.le_refl _, Nat.le_refl _⟩ (by
      rintro d x r ls H ed ⟨L, JJ, w3, w4, w5, w6, w7, rfl, g, hL, hJ⟩
      have hd : d.length < m := by
        have := congrArg List.length ed
        rw [List.length_range, List.length_append, List.length_cons] at this
        omega
      obtain ⟨L', JJ', H', u4, u5, u6, u7, e, g', hL', hJ'⟩ := p_grow (v3 := some (.int (x : Nat))) (v4 := w4) (v5 := w5) (v6 := w6) (v7 := w7) g (by omega) (by omega) (by omega)
      refine ⟨_, _, _, asg_nm, .inl e, L', JJ', _, _, _, _, _, rfl, ?_, ?_, ?_⟩
      · rw [List.length_append, List.length_singleton]; exact g'.mono (by omega)
      · rw [List.length_append, List.length_singleton]; omega
      · rw [List.length_append, List.length_singleton]; omega)
  rw [List.length_range] at g' hL hJ
  exact ⟨L, JJ, H', w3, w4, w5, w6, w7, e, g', hL, hJ⟩
end Lw
namespace Lw
open PySem PySem.Spec L2 Ve
theorem p_far {N : Nat} {L : List (List Int)} {JJ : List (List Int × List Int)} {H : Hd} {v3 v6 : Option D} {x y : Int} {b : List Int} (g : PS N L JJ H) (hN : N + 10 < 1000000) (hJ : JJ.length ≤ 2000) (ha : [x, y] ∈ L) (hs : Sbs [x, y] b) (hlt : ([x, y] : List Int) < b) :
    ∃ (JJ' : List (List Int × List Int)) (H' : Hd), B2_L_piece (L8 v3 (some (.int x)) (some (.int y)) v6 (some (T b))) H = some (.nx, L8 v3 (some (.int x)) (some (.int y)) v6 (some (T b)), H') ∧ PS (N + 1) L JJ' H' ∧ JJ'.length ≤ JJ.length + 1 := by
  have e1 : mT (m2 (mVar 7) (mVar 1) gIn) (L8 v3 (some (.int x)) (some (.int y)) v6 (some (T b))) H = some (decide (b ∈ L), H) := mT_of (m2_ev (mVar_of rfl) (mVar_of rfl) (gIn_dic g.dic))
  by_cases c : b ∈ L
  · rw [decide_eq_true c] at e1
    obtain ⟨k, H2, e2, hk, g2, _⟩ := g.take (by omega) (many := 4) (by decide) (by decide)
    have e3 : mT (m2 (mAs (mCons (mVar 0) (mCons (mC (.int 4)) mNil)) (ar 2 c_L_take)) (mC (.int 0)) gEq) (L8 v3 (some (.int x)) (some (.int y)) v6 (some (T b))) H = some (((k : Nat) : Int) == 0, H2) := mT_of (m2_ev (call_of (cons_of (mVar_of rfl) (cons_of mC_of nil_of)) rfl e2) mC_of gEq_int)
    by_cases cz : ((k : Nat) : Int) == 0
    · rw [cz] at e3
      obtain ⟨H', es, g', _, _⟩ := g2.put (ls := L8 v3 (some (.int x)) (some (.int y)) v6 (some (T b))) (fi := mTup (mCons (mTup (mCons (mVar 4) (mCons (mVar 5) mNil))) (mCons (mVar 7) mNil))) (p := ([x, y], b)) (H1 := H2) rfl (tup_of (cons_of (tup_of (cons_of (mVar_of rfl) (cons_of (mVar_of rfl) nil_of)) (Nat.le_of_ble_eq_true rfl)) (cons_of (mVar_of rfl) nil_of)) (Nat.le_of_ble_eq_true rfl)) (by omega) (.inr (grw_more g2.g ha c hs)) hlt
      refine ⟨_, H', sIf_t (and_t e1 e3) es, g', ?_⟩
      split
      · omega
      · rw [List.length_append, List.length_singleton]; omega
    · have cz : (((k : Nat) : Int) == 0) = false := by simpa using cz
      rw [cz] at e3
      exact ⟨JJ, H2, sIf_f (and_t e1 e3) rfl, g2, by omega⟩
  · rw [decide_eq_false c] at e1
    exact ⟨JJ, H, sIf_f (and_f e1) rfl, g.mono (by omega), by omega⟩
theorem p_two {N : Nat} {L : List (List Int)} {JJ : List (List Int × List Int)} {H : Hd} {v3 v6 v7 : Option D} {x y : Int} (g : PS N L JJ H) (hN : N + 20 < 1000000) (hJ : JJ.length ≤ 1990) (ha : [x, y] ∈ L) :
    ∃ (JJ' : List (List Int × List Int)) (H' : Hd) (w7 : Option D), F2_L_piece (L8 v3 (some (.int x)) (some (.int y)) v6 v7) H = some (.nx, L8 v3 (some (.int x)) (some (.int y)) v6 w7, H') ∧ PS (N + 2) L JJ' H' ∧ JJ'.length ≤ JJ.length + 2 := by
  have ei : mIS (mTup (mCons (mTup (mCons (m2 (mVar 4) (mC (.int 1)) gAdd) (mCons (mVar 5) mNil))) (mCons (mTup (mCons (mVar 4) (mCons (m2 (mVar 5) (mC (.int 1)) gAdd) mNil))) mNil))) (L8 v3 (some (.int x)) (some (.int y)) v6 v7) H = some ([[x + 1, y], [x, y + 1]].map T, [], H) :=
    mIS_tup (tup_of (cons_of (tup_of (cons_of (m2_ev (mVar_of rfl) mC_of gAdd_int) (cons_of (mVar_of rfl) nil_of)) (Nat.le_of_ble_eq_true rfl)) (cons_of (tup_of (cons_of (mVar_of rfl) (cons_of (m2_ev (mVar_of rfl) mC_of gAdd_int) nil_of)) (Nat.le_of_ble_eq_true rfl)) nil_of)) (Nat.le_of_ble_eq_true rfl))
  have s1 : Sbs [x, y] [x + 1, y] ∧ ([x, y] : List Int) < [x + 1, y] := by
    refine ⟨mem_SSt.mpr (.inl ⟨?_, ?_⟩), ?_⟩
    · show x + 1 - x = 1; omega
    · show y - y = 0; omega
    · rw [List.cons_lt_cons_iff]; left; omega
  have s2 : Sbs [x, y] [x, y + 1] ∧ ([x, y] : List Int) < [x, y + 1] := by
    refine ⟨mem_SSt.mpr (.inr (.inl ⟨?_, ?_⟩)), ?_⟩
    · show x - x = 0; omega
    · show y + 1 - y = 1; omega
    · rw [List.cons_lt_cons_iff]
      right
      refine ⟨rfl, ?_⟩
      rw [List.cons_lt_cons_iff]; left; omega
  obtain ⟨ls', H', e, JJ', w7, rfl, g', hJ'⟩ := sForI_pre (t := .nm 7) (b := B2_L_piece) (gd := []) (items := [[x + 1, y], [x, y + 1]]) T (fun d ls H => ∃ JJ' w7, ls = L8 v3 (some (.int x)) (some (.int y)) v6 w7 ∧ PS (N + d.length) L JJ' H ∧ JJ'.length ≤ JJ.length + d.length) ei (fun _ _ _ _ => rfl)
    ⟨JJ, v7, rfl, g, Nat.le_refl _⟩ (by
      rintro d b r ls H ed ⟨JJ', w7, rfl, g, hl⟩
      have hb : Sbs [x, y] b ∧ ([x, y] : List Int) < b := by
        have : b ∈ [[x + 1, y], [x, y + 1]] := by rw [ed]; simp
        rcases List.mem_cons.mp this with z | z
        · rw [z]; exact s1
        · rw [List.mem_singleton.mp z]; exact s2
      have hd : d.length < 2 := by
        have := congrArg List.length ed
        rw [List.length_append, List.length_cons] at this
        simp at this
        omega
      obtain ⟨JJ2, H2, e, g2, hl2⟩ := p_far (v3 := v3) (v6 := v6) g (by omega) (by omega) ha hb.1 hb.2
      exact ⟨_, _, _, asg_nm, .inl e, JJ2, _, rfl, by rw [List.length_append, List.length_singleton]; exact g2, by rw [List.length_append, List.length_singleton]; omega⟩)
  exact ⟨JJ', H', w7, e, g', hJ'⟩
theorem p_loop2 {N : Nat} {L : List (List Int)} {JJ : List (List Int × List Int)} {H : Hd} {v3 v4 v5 v6 v7 : Option D} (g : PS N L JJ H) (hN : N + 1000 < 1000000) (hL : L.length ≤ 100) (hJ : JJ.length ≤ 100) :
    ∃ (JJ' : List (List Int × List Int)) (H' : Hd) (w4 w5 w7 : Option D), F3_L_piece (L8 v3 v4 v5 v6 v7) H = some (.nx, L8 v3 w4 w5 v6 w7, H') ∧ PS (N + 2 * L.length) L JJ' H' ∧ JJ'.length ≤ 400 := by
  have hp := sortC_perm L
  obtain ⟨ls', H', e, JJ', w4, w5, w7, rfl, g', hJ'⟩ := sForI_pre (t := .tp ((.nm 4) :: ((.nm 5) :: []))) (b := B3_L_piece) (gd := []) (items := sortC L) T (fun d ls H => ∃ JJ' w4 w5 w7, ls = L8 v3 w4 w5 v6 w7 ∧ PS (N + 2 * d.length) L JJ' H ∧ JJ'.length ≤ JJ.length + 2 * d.length) (mIL_ev (mSorted_dic (mVar_of (i := 1) (ls := L8 v3 v4 v5 v6 v7) rfl) g.dic (nesL g.g.two))) (fun _ _ _ _ => rfl)
    ⟨JJ, v4, v5, v7, rfl, g, Nat.le_refl _⟩ (by
      rintro d a r ls H ed ⟨JJ', w4, w5, w7, rfl, g, hl⟩
      have hd : d.length < L.length := by
        have := congrArg List.length ed
        rw [hp.length_eq, List.length_append, List.length_cons] at this
        omega
      have ha : a ∈ L := hp.mem_iff.mp (by rw [ed]; simp)
      obtain ⟨x, y, rfl⟩ := g.g.two a ha
      obtain ⟨JJ2, H2, w7', e, g2, hl2⟩ := p_two (v3 := v3) (v6 := v6) (v7 := w7) g (by omega) (by omega) ha
      exact ⟨_, _, _, rfl, .inl e, JJ2, _, _, _, rfl, by rw [List.length_append, List.length_singleton]; exact g2.mono (by omega), by rw [List.length_append, List.length_singleton]; omega⟩)
  rw [hp.length_eq] at g' hJ'
  exact ⟨JJ', H', w4, w5, w7, e, g', by omega⟩
end Lw
namespace Lw
open PySem PySem.Spec L2 Ve
theorem sub_lt {a b : Int} {c d : List Int} (hc : ∃ x y : Int, c = [x, y]) (hd : ∃ x y : Int, d = [x, y]) (h : c < d) : sub2 a b c < sub2 a b d := by
  obtain ⟨x, y, rfl⟩ := hc
  obtain ⟨x', y', rfl⟩ := hd
  rw [List.cons_lt_cons_iff] at h
  show ([x - a, y - b] : List Int) < [x' - a, y' - b]
  rw [List.cons_lt_cons_iff]
  rcases h with h | ⟨rfl, h⟩
  · left; omega
  · right
    refine ⟨rfl, ?_⟩
    rw [List.cons_lt_cons_iff] at h ⊢
    rcases h with h | ⟨_, h⟩
    · left; omega
    · exact absurd h (by simp)
theorem srt_L {L : List (List Int)} (nd : L.Nodup) : (sortC L).Pairwise (· < ·) := by
  have h1 := sortC_sorted L
  have h2 : (sortC L).Pairwise (· ≠ ·) := (sortC_perm L).nodup_iff.mpr nd
  exact (h1.and h2).imp fun ⟨a, b⟩ => lt_of a b
theorem hm_srt {L : List (List Int)} {JJ : List (List Int × List Int)} (g : Grw L JJ) : hm L = (sortC L).map (sub2 (mnC L 0) (mnC L 1)) := by
  have hp := sortC_perm L
  have h1 : ((sortC L).map (sub2 (mnC L 0) (mnC L 1))).Pairwise (· ≤ ·) := by
    rw [List.pairwise_map]
    exact (srt_L g.nd).imp_of_mem fun ha hb h => List.le_of_lt (sub_lt (g.two _ (hp.mem_iff.mp ha)) (g.two _ (hp.mem_iff.mp hb)) h)
  exact ((sortC_perm _).trans (hp.map _).symm).eq_of_pairwise (fun a b _ _ h1 h2 => List.le_antisymm h1 h2) (sortC_sorted _) h1
theorem hix_srt {L : List (List Int)} {JJ : List (List Int × List Int)} (g : Grw L JJ) (hl : L.length ≤ 130) {a : List Int} {j : Nat} (h : (sortC L)[j]? = some a) : hix L a = j := by
  unfold hix
  refine idxOf_eq (nodup_of_lt (g.hmq hl).srt) ?_
  rw [hm_srt g, List.getElem?_map, h]
  rfl
theorem hix_lt2 {L : List (List Int)} {JJ : List (List Int × List Int)} (g : Grw L JJ) (hl : L.length ≤ 130) {a b : List Int} (ha : a ∈ L) (hb : b ∈ L) (h : a < b) : hix L a < hix L b := by
  have hp := sortC_perm L
  obtain ⟨i, hi, ei⟩ := List.mem_iff_getElem.mp (hp.mem_iff.mpr ha)
  obtain ⟨j, hj, ej⟩ := List.mem_iff_getElem.mp (hp.mem_iff.mpr hb)
  rw [hix_srt g hl (j := i) (by rw [List.getElem?_eq_getElem hi, ei]), hix_srt g hl (j := j) (by rw [List.getElem?_eq_getElem hj, ej])]
  rcases Nat.lt_or_ge i j with z | z
  · exact z
  · exfalso
    rcases Nat.eq_or_lt_of_le z with z | z
    · subst z
      rw [ei] at ej
      subst ej
      exact List.lt_irrefl _ h
    · have := List.pairwise_iff_getElem.mp (srt_L g.nd) j i hj hi z
      rw [ei, ej] at this
      exact List.lt_irrefl _ (List.lt_trans h this)
theorem p_end {N : Nat} {L : List (List Int)} {JJ : List (List Int × List Int)} {H : Hd} {v3 v4 v5 v6 v7 : Option D} (g : PS N L JJ H) (hL : L.length ≤ 100) (hJ : JJ.length ≤ 1000) :
    ∃ (J : List Sd) (ls' : Ls) (H' : Hd) (o : O), b_L_piece_3 (L8 v3 v4 v5 v6 v7) H = some (.rt (pcD false (hm L) J), ls', H') ∧ Pce (hm L) J ∧ J.length = JJ.length ∧ H'[0]? = some o ∧ Hand N o := by
  have hp := sortC_perm L
  have hLn := g.g.ne
  have c2 := lockC (i := 1) (n := 1) (t := .tp ((.nm 4) :: ((.nm 5) :: []))) (own := [4, 5]) (te := E2_L_piece) (ls := L8 v3 v4 v5 v6 v7) (H := H) (L := L) rfl g.dic (by omega) (fun c => D.int (c.getD 0 0)) (fun c hc => by
    obtain ⟨x, y, rfl⟩ := g.g.two c hc
    exact ⟨_, rfl, mVar_of rfl⟩)
  have c1 := lockC (i := 1) (n := 1) (t := .tp ((.nm 4) :: ((.nm 5) :: []))) (own := [4, 5]) (te := E1_L_piece) (ls := L8 v3 v4 v5 v6 v7) (H := H) (L := L) rfl g.dic (by omega) (fun c => D.int (c.getD 1 0)) (fun c hc => by
    obtain ⟨x, y, rfl⟩ := g.g.two c hc
    exact ⟨_, rfl, mVar_of rfl⟩)
  have a1 := asg_of (t := .tp ((.nm 8) :: ((.nm 9) :: []))) (tup_of (cons_of ((mL_of c2).trans (gBestL_mn hLn 0)) (cons_of ((mL_of c1).trans (gBestL_mn hLn 1)) nil_of)) (Nat.le_of_ble_eq_true rfl)) (ls1 := [some (.ref 0), some (.ref 1), some (.ref 2), v3, v4, v5, v6, v7, some (.int (mnC L 0)), some (.int (mnC L 1)), none, none, none]) rfl
  have a2 := sSet_of (i := 10) (mNew_of (mSorted_dic (mVar_of (i := 1) (ls := [some (.ref 0), some (.ref 1), some (.ref 2), v3, v4, v5, v6, v7, some (.int (mnC L 0)), some (.int (mnC L 1)), none, none, none]) rfl) g.dic (nesL g.g.two)))
  have g2 := g.app (l := [.lst ((sortC L).map T)])
  have gth : (H ++ [O.lst ((sortC L).map T)])[H.length]? = some (.lst ((sortC L).map T)) := hget_new
  have h2 : H.length ≠ 2 := fun e => by have := hlt g.prs; omega
  generalize hH2 : H ++ [O.lst ((sortC L).map T)] = H2 at a2 g2 gth
  have gth3 : (H2.set 2 (.dicM (JJ.map eT)))[H.length]? = some (.lst ((sortC L).map T)) := hset_ne (Ne.symm h2) gth
  have ix : ∀ a ∈ L, gLIdx (.ref H.length) [T a] (H2.set 2 (.dicM (JJ.map eT))) = some (.int ((hix L a : Nat) : Int), H2.set 2 (.dicM (JJ.map eT))) := fun a ha => by
    obtain ⟨j, ej, e⟩ := gLIdx_T (hp.mem_iff.mpr ha)
    rw [hix_srt g.g (by omega) ej]
    exact e _ _ gth3
  have c3 := mLc_typed (fi := mIKN (mVar 2)) (t := .tp ((.nm 12) :: ((.nm 7) :: []))) (own := [12, 7]) (tt := tYesD) (te := E3_L_piece) (ls := [some (.ref 0), some (.ref 1), some (.ref 2), v3, v4, v5, v6, v7, some (.int (mnC L 0)), some (.int (mnC L 1)), some (.ref H.length), none, none]) (hp := H2) (hp1 := H2.set 2 (.dicM (JJ.map eT))) (gd := []) eT JJ (fun _ => true) (fun p => T (pI (hix L p.1, hix L p.2))) (by
    unfold mIKN
    rw [mVar_of (d := .ref 2) rfl]
    dsimp only
    rw [g2.prs]) (by rw [sizeLine_eq]; omega) rfl (fun p hp => by
      obtain ⟨h1, h2, _⟩ := g.g.inn p hp
      refine ⟨_, rfl, rfl, fun _ => tup_of (cons_of (met_of (mVar_of rfl) (isL_of gth3) (cons_of (mVar_of rfl) nil_of) (ix _ h1)) (cons_of (met_of (mVar_of rfl) (isL_of gth3) (cons_of (mVar_of rfl) nil_of) (ix _ h2)) nil_of)) (Nat.le_of_ble_eq_true rfl)⟩)
  rw [List.filter_eq_self.mpr fun _ _ => rfl] at c3
  have ej : ∀ p ∈ JJ, (hix L p.1, hix L p.2) = jnt L p := fun p hp => by
    obtain ⟨h1, h2, _⟩ := g.g.inn p hp
    unfold jnt
    rw [if_pos (hix_lt2 g.g (by omega) h1 h2 (g.lt p hp))]
  have c3' : C3_L_piece [some (.ref 0), some (.ref 1), some (.ref 2), v3, v4, v5, v6, v7, some (.int (mnC L 0)), some (.int (mnC L 1)), some (.ref H.length), none, none] H2 = some ((JJ.map fun p => pI (hix L p.1, hix L p.2)).map T, H2.set 2 (.dicM (JJ.map eT))) := by
    rw [List.map_map]
    exact c3
  have nd : (JJ.map fun p => pI (hix L p.1, hix L p.2)).Nodup := by
    have := g.nd
    unfold List.Nodup at this ⊢
    rw [List.pairwise_map]
    refine this.imp_of_mem fun {p q} hp hq hne e => hne ?_
    obtain ⟨h1, h2, _⟩ := g.g.inn p hp
    obtain ⟨h3, h4, _⟩ := g.g.inn q hq
    have e := pI_inj' e
    have e1 : hix L p.1 = hix L q.1 := congrArg Prod.fst e
    have e2 : hix L p.2 = hix L q.2 := congrArg Prod.snd e
    have b1 := hix_at h1
    have b3 := hix_at h3
    have b2 := hix_at h2
    have b4 := hix_at h4
    rw [e1, b3] at b1
    rw [e2, b4] at b2
    exact Prod.ext (sub2_inj (g.g.two _ h3) (g.g.two _ h1) b1).symm (sub2_inj (g.g.two _ h4) (g.g.two _ h2) b2).symm
  obtain ⟨J, eJ, hQ, hin, srt, hlen⟩ := joints_of (Q := fun s => (s.1 < s.2 ∧ s.2 < (hm L).length) ∧ Sbs (sqA (hm L) s.1) (sqA (hm L) s.2)) nd (fun c hc => by
    obtain ⟨p, hp, rfl⟩ := List.mem_map.mp hc
    refine ⟨_, rfl, ?_⟩
    rw [ej p hp]
    exact g.g.jnt_ok hp)
  have pc : Pce (hm L) J := g.g.pce (by omega) hQ (fun p hp => hin _ (by rw [← ej p hp]; exact List.mem_map_of_mem hp)) srt
  have a3 : sSet 11 (mNew (mSortedL C3_L_piece)) [some (.ref 0), some (.ref 1), some (.ref 2), v3, v4, v5, v6, v7, some (.int (mnC L 0)), some (.int (mnC L 1)), some (.ref H.length), none, none] H2 = some (.nx, [some (.ref 0), some (.ref 1), some (.ref 2), v3, v4, v5, v6, v7, some (.int (mnC L 0)), some (.int (mnC L 1)), some (.ref H.length), some (.ref H2.length), none], H2.set 2 (.dicM (JJ.map eT)) ++ [.lst ((J.map pI).map T)]) := by
    have es : mSortedL C3_L_piece [some (.ref 0), some (.ref 1), some (.ref 2), v3, v4, v5, v6, v7, some (.int (mnC L 0)), some (.int (mnC L 1)), some (.ref H.length), none, none] H2 = some ((J.map pI).map T, H2.set 2 (.dicM (JJ.map eT))) := by
      rw [mSortedL_s, c3']
      dsimp only
      rw [gSrt_T (fun c hc => by
        obtain ⟨p, _, rfl⟩ := List.mem_map.mp hc
        unfold pI
        simp), eJ]
    have := sSet_of (i := 11) (mNew_of es)
    rw [List.length_set] at this
    exact this
  have gth4 : (H2.set 2 (.dicM (JJ.map eT)) ++ [O.lst ((J.map pI).map T)])[H.length]? = some (.lst ((sortC L).map T)) := hget_old gth3
  have gjs : (H2.set 2 (.dicM (JJ.map eT)) ++ [O.lst ((J.map pI).map T)])[H2.length]? = some (.lst ((J.map pI).map T)) := by
    have := hget_new (hp := H2.set 2 (.dicM (JJ.map eT))) (o := O.lst ((J.map pI).map T))
    rw [List.length_set] at this
    exact this
  obtain ⟨o, eo, ho⟩ := g2.hand
  have ghd : (H2.set 2 (.dicM (JJ.map eT)) ++ [O.lst ((J.map pI).map T)])[0]? = some o := hget_old (hset_ne (by decide) eo)
  generalize H2.set 2 (.dicM (JJ.map eT)) ++ [O.lst ((J.map pI).map T)] = H4 at a3 gth4 gjs ghd
  have c4 := mLc_typed (fi := mIS (mVar 10)) (t := .tp ((.nm 4) :: ((.nm 5) :: []))) (own := [4, 5]) (tt := tYesD) (te := E4_L_piece) (ls := [some (.ref 0), some (.ref 1), some (.ref 2), v3, v4, v5, v6, v7, some (.int (mnC L 0)), some (.int (mnC L 1)), some (.ref H.length), some (.ref H2.length), none]) (hp := H4) T (sortC L) (fun _ => true) (fun c => T (sub2 (mnC L 0) (mnC L 1) c)) (mIS_ref (mVar_of rfl) gth4) (by rw [hp.length_eq, sizeLine_eq]; omega) (gdOk1 gth4) (fun c hc => by
    obtain ⟨x, y, rfl⟩ := g.g.two c (hp.mem_iff.mp hc)
    exact ⟨_, rfl, rfl, fun _ => tup_of (cons_of (m2_ev (mVar_of rfl) (mVar_of rfl) gSub_int) (cons_of (m2_ev (mVar_of rfl) (mVar_of rfl) gSub_int) nil_of)) (Nat.le_of_ble_eq_true rfl)⟩)
  rw [List.filter_eq_self.mpr fun _ _ => rfl] at c4
  have c4' : C4_L_piece [some (.ref 0), some (.ref 1), some (.ref 2), v3, v4, v5, v6, v7, some (.int (mnC L 0)), some (.int (mnC L 1)), some (.ref H.length), some (.ref H2.length), none] H4 = some ((hm L).map T, H4) := by
    rw [hm_srt g.g, List.map_map]
    exact c4
  have er : mTup (mCons (mL C4_L_piece gTup) (mCons (mAs (mCons (mVar 11) mNil) gTupV) mNil)) [some (.ref 0), some (.ref 1), some (.ref 2), v3, v4, v5, v6, v7, some (.int (mnC L 0)), some (.int (mnC L 1)), some (.ref H.length), some (.ref H2.length), none] H4 = some (pcD false (hm L) J, H4) :=
    tup_of (cons_of ((mL_of c4').trans rfl) (cons_of (as_of (cons_of (mVar_of rfl) nil_of) (show gTupV [.ref H2.length] H4 = some (.tup ((J.map pI).map T), H4) by
      unfold gTupV seqOfL lstOf
      dsimp only
      rw [gjs])) nil_of)) (Nat.le_of_ble_eq_true rfl)
  have hH : H.length = H.length := rfl
  refine ⟨J, _, H4, o, sSeq_of a1 (sSeq_of a2 (sSeq_of a3 (ret_of er))), pc, by rw [hlen, List.length_map], ghd, ho⟩
end Lw
namespace Lw
open PySem PySem.Spec L2 Ve
def c_L_piece := c1V m_L_piece
theorem con_L_piece : Cl c_L_piece m_L_piece := cl_c1V _
theorem piece_run (N : Nat) (hN : N + 2000 < 1000000) (o : O) (h : Hand N o) :
    ∃ (P : List (List Int)) (J : List Sd) (o' : O) (g : Hd), m_L_piece [.ref 0] [o] = some (pcD false P J, o' :: g) ∧ Pce P J ∧ P.length ≤ 20 ∧ J.length ≤ 400 ∧ Hand (N + 200) o' := by
  have s0 : sPar 1 2 (mCons (mDict (((mTup (mCons (mC (.int 0)) (mCons (mC (.int 0)) mNil))), (mC (.bl true))) :: [])) (mCons mDict0N mNil)) (stD 13 [.ref 0]) [o] = some (.nx, L8 none none none none none, [o, .dic (Cd [[0, 0]]), .dicN []]) := rfl
  have g0 : PS N [[0, 0]] [] [o, .dic (Cd [[0, 0]]), .dicN []] := ⟨⟨o, rfl, h⟩, rfl, rfl, Grw.one, fun p hp => (by cases hp), List.nodup_nil⟩
  generalize [o, O.dic (Cd [[0, 0]]), O.dicN []] = H0 at s0 g0
  obtain ⟨r, H1, e1, hr, g1, _⟩ := g0.take (by omega) (many := 11) (by decide) (by decide)
  have el : mLst (mCons (mC (.int 0)) (mCons (mC (.int 1)) (mCons (mC (.int 2)) (mCons (mC (.int 3)) (mCons (mC (.int 4)) (mCons (mC (.int 5)) (mCons (mC (.int 8)) (mCons (m2 (mC (.int 9)) (mAs (mCons (mVar 0) (mCons (mC (.int 11)) mNil)) (ar 2 c_L_take)) gAdd) mNil)))))))) (L8 none none none none none) H0 = some (([0, 1, 2, 3, 4, 5, 8, 9 + r] : List Nat).map fun k => D.int (k : Nat), H1) :=
    lst_of (cons_of mC_of (cons_of mC_of (cons_of mC_of (cons_of mC_of (cons_of mC_of (cons_of mC_of (cons_of mC_of (cons_of (m2_ev mC_of (call_of (cons_of (mVar_of rfl) (cons_of mC_of nil_of)) rfl e1) gAdd_int) nil_of)))))))) (Nat.le_of_ble_eq_true rfl)
  obtain ⟨i, hi, H2, e2, g2⟩ := g1.pick (by omega) (xs := ([0, 1, 2, 3, 4, 5, 8, 9 + r] : List Nat).map fun k => D.int (k : Nat)) (by simp) (by simp)
  rw [List.getElem_map] at e2
  have hmx : ∃ m : Nat, m ≤ 19 ∧ ([0, 1, 2, 3, 4, 5, 8, 9 + r] : List Nat)[i]'(by simpa using hi) = m := by
    refine ⟨_, ?_, rfl⟩
    have hi2 : i < ([0, 1, 2, 3, 4, 5, 8, 9 + r] : List Nat).length := by simpa using hi
    have hmem : ([0, 1, 2, 3, 4, 5, 8, 9 + r] : List Nat)[i] ∈ ([0, 1, 2, 3, 4, 5, 8, 9 + r] : List Nat) := List.getElem_mem hi2
    generalize ([0, 1, 2, 3, 4, 5, 8, 9 + r] : List Nat)[i] = v at hmem ⊢
    simp at hmem
    omega
  obtain ⟨m, hm19, em⟩ := hmx
  rw [em] at e2
  have ei := mR1_nat (fr := mCons (mAs (mCons (mVar 0) (mCons (mNew (mLst (mCons (mC (.int 0)) (mCons (mC (.int 1)) (mCons (mC (.int 2)) (mCons (mC (.int 3)) (mCons (mC (.int 4)) (mCons (mC (.int 5)) (mCons (mC (.int 8)) (mCons (m2 (mC (.int 9)) (mAs (mCons (mVar 0) (mCons (mC (.int 11)) mNil)) (ar 2 c_L_take)) gAdd) mNil)))))))))) mNil)) (ar 2 c_L_pick)) mNil) (ls := L8 none none none none none) (hp := H0) (j := m)
    (cons_of (call_of (cons_of (mVar_of rfl) (cons_of (mNew_of el) nil_of)) rfl e2) nil_of) (by omega)
  obtain ⟨L, JJ, H3, w3, w4, w5, w6, w7, e3, g3, hL, hJ⟩ := p_loop1 (by omega) (by omega) ei g2
  obtain ⟨JJ', H4, w4', w5', w7', e4, g4, hJ'⟩ := p_loop2 (v3 := w3) (v4 := w4) (v5 := w5) (v6 := w6) (v7 := w7) g3 (by omega) (by omega) (by omega)
  obtain ⟨J, ls', H5, o', e5, pc, lJ, eo, ho⟩ := p_end (v3 := w3) (v4 := w4') (v5 := w5') (v6 := w6) (v7 := w7') g4 (by omega) (by omega)
  obtain ⟨tl, rfl⟩ : ∃ tl, H5 = o' :: tl := by
    cases H5 with
    | nil => simp at eo
    | cons q qs => exact ⟨qs, by rw [show q = o' by simpa using eo]⟩
  have e3' : F1_L_piece (L8 none none none none none) H0 = _ := e3
  refine ⟨Ve.hm L, J, o', tl, def_of (sSeq_of s0 (sSeq_of e3' (sSeq_of e4 e5))), pc, by rw [hm_len]; omega, by omega, ho.mono (by omega)⟩
theorem piece_drawn (N : Nat) (hN : N + 2000 < 1000000) (o : O) (h : Hand N o) :
    ∃ (P : List (List Int)) (J : List Sd) (o' : O), (∀ (hp : Hd) (n : Nat), hp[n]? = some o → c_L_piece [.ref n] hp = some (pcD false P J, hp.set n o')) ∧ Pce P J ∧ P.length ≤ 20 ∧ J.length ≤ 400 ∧ Hand (N + 200) o' := by
  obtain ⟨P, J, o', g, e, h1, h2, h3, h4⟩ := piece_run N hN o h
  exact ⟨P, J, o', fun hp n en => c1V_of en rfl h.nr e (nr_pcD _ _ _) h4.nr, h1, h2, h3, h4⟩
end Lw
namespace Lw
open PySem PySem.Spec L2 Ve
def mxA (bs : List (List Int)) (i : Nat) : Int := match bs.map fun l => l.getD i 0 with
  | a :: r => maxI a r
  | [] => 0
theorem mxA_is {bs : List (List Int)} (h : bs ≠ []) (i : Nat) : (∃ l ∈ bs, l.getD i 0 = mxA bs i) ∧ ∀ l ∈ bs, l.getD i 0 ≤ mxA bs i := by
  have key : mxA bs i ∈ bs.map (fun l => l.getD i 0) ∧ ∀ v ∈ bs.map (fun l => l.getD i 0), v ≤ mxA bs i := by
    unfold mxA
    cases e : bs.map fun l => l.getD i 0 with
    | nil => exact absurd (List.map_eq_nil_iff.mp e) h
    | cons a r =>
      obtain ⟨h1, h2, h3⟩ := maxI_is r a
      refine ⟨?_, fun v hv => ?_⟩
      · rcases h1 with z | z
        · show maxI a r ∈ a :: r
          rw [z]; exact List.mem_cons_self
        · exact List.mem_cons_of_mem _ z
      · rcases List.mem_cons.mp hv with z | z
        · rw [z]; exact h2
        · exact h3 v z
  obtain ⟨h1, h2⟩ := key
  obtain ⟨l, hl, e⟩ := List.mem_map.mp h1
  exact ⟨⟨l, hl, e⟩, fun l hl => h2 _ (List.mem_map.mpr ⟨l, hl, rfl⟩)⟩
theorem gMaxL_mxA {hp : Hd} {bs : List (List Int)} (hne : bs ≠ []) (i : Nat) : gMaxL (bs.map fun l => D.int (l.getD i 0)) hp = some (.int (mxA bs i), hp) := by
  unfold gMaxL maxD mxA
  have e : (bs.map fun l => D.int (l.getD i 0)) = (bs.map fun l => l.getD i 0).map D.int := by rw [List.map_map]; rfl
  rw [e, ints?_map]
  cases e2 : bs.map fun l => l.getD i 0 with
  | nil => exact absurd (List.map_eq_nil_iff.mp e2) hne
  | cons a r => rfl
theorem sqA_get {P : List (List Int)} {i : Nat} (h : i < P.length) : P[i]? = some (sqA P i) := by
  unfold sqA
  rw [List.getD_eq_getElem?_getD, List.getElem?_eq_getElem h]
  rfl
theorem sqA_mem {P : List (List Int)} {i : Nat} (h : i < P.length) : sqA P i ∈ P := List.mem_of_getElem? (sqA_get h)
theorem sbs_near {a b : List Int} (h : Sbs a b) (k : Nat) (hk : k = 0 ∨ k = 1) : b.getD k 0 - a.getD k 0 ≤ 1 ∧ a.getD k 0 - b.getD k 0 ≤ 1 := by
  have := mem_SSt.mp h
  rcases hk with rfl | rfl <;> omega
theorem co_lt {P : List (List Int)} {J : List Sd} (h : Pce P J) {k : Nat} (hk : k = 0 ∨ k = 1) {c : List Int} (hc : c ∈ P) : 0 ≤ c.getD k 0 ∧ c.getD k 0 < P.length := by
  have m0 : mnC P k = 0 := by
    rcases hk with rfl | rfl
    · exact h.sq.m0
    · exact h.sq.m1
  obtain ⟨⟨l0, hl0, e0⟩, low⟩ := mnC_is h.sq.ne k
  rw [m0] at e0
  have nonneg : ∀ c ∈ P, 0 ≤ c.getD k 0 := fun c hc => by
    have := low c hc
    rw [m0] at this
    exact this
  have ix : ∀ {c}, c ∈ P → ∃ i, i < P.length ∧ sqA P i = c := fun {c} hc => by
    obtain ⟨i, hi, e⟩ := List.mem_iff_getElem.mp hc
    refine ⟨i, hi, ?_⟩
    have := sqA_get hi
    rw [List.getElem?_eq_getElem hi, e] at this
    exact (Option.some.inj this).symm
  have all : ∀ v : Int, 0 ≤ v → v ≤ c.getD k 0 → v ∈ P.map fun c => c.getD k 0 := fun v h0 h1 => by
    refine Classical.byContradiction fun hn => ?_
    have hne : ∀ i, i < P.length → (sqA P i).getD k 0 ≠ v := fun i hi e => hn (List.mem_map.mpr ⟨_, sqA_mem hi, e⟩)
    obtain ⟨i0, hi0, ei0⟩ := ix hl0
    have hv : 0 < v := by
      have := hne i0 hi0
      rw [ei0, e0] at this
      omega
    have hall := h.con (fun i => (sqA P i).getD k 0 < v) ⟨i0, hi0, by rw [ei0, e0]; exact hv⟩ (fun p hp => by
      have ho := h.ok p hp
      have n1 := hne p.1 (by omega)
      have n2 := hne p.2 (by omega)
      have := sbs_near ho.2 k hk
      show (sqA P p.1).getD k 0 < v ↔ (sqA P p.2).getD k 0 < v
      omega)
    obtain ⟨i, hi, ei⟩ := ix hc
    have := hall i hi
    rw [ei] at this
    omega
  refine ⟨nonneg c hc, ?_⟩
  have nn := nonneg c hc
  have := nodup_len (l := (List.range ((c.getD k 0).toNat + 1)).map fun v : Nat => (v : Int)) (m := P.map fun c => c.getD k 0) (by
    have := List.nodup_range (n := (c.getD k 0).toNat + 1)
    unfold List.Nodup at *
    rw [List.pairwise_map]
    exact this.imp fun h => by omega) (fun v hv => by
    obtain ⟨u, hu, rfl⟩ := List.mem_map.mp hv
    have := List.mem_range.mp hu
    exact all _ (by omega) (by omega))
  rw [List.length_map, List.length_map, List.length_range] at this
  omega
theorem sbsR_len2 {P : List (List Int)} (srt : P.Pairwise (· < ·)) (h2 : Two P) {a : Nat} (ha : a < P.length) : (sbsR P a).length ≤ 2 := by
  have nd := nodup_of_lt srt
  have hnd : (sbsR P a).Nodup := by
    unfold sbsR
    refine List.Pairwise.filter _ ?_
    have := List.nodup_range (n := P.length - (a + 1))
    unfold List.Nodup at *
    rw [List.pairwise_map]
    exact this.imp fun h => by omega
  obtain ⟨x, y, ea⟩ := h2 _ (sqA_mem ha)
  have hl : ((sbsR P a).map fun b => sqA P b).length ≤ [[x + 1, y], [x, y + 1]].length := by
    refine nodup_len ?_ fun c hc => ?_
    · unfold List.Nodup at *
      rw [List.pairwise_map]
      refine hnd.imp_of_mem fun {b c} hb hc hne he => ?_
      have q1 := sqA_get (mem_sbsR.mp hb).1.2
      have q2 := sqA_get (mem_sbsR.mp hc).1.2
      rw [he] at q1
      have i1 := idxOf_eq nd q1
      have i2 := idxOf_eq nd q2
      exact hne (i1.symm.trans i2)
    · obtain ⟨b, hb, rfl⟩ := List.mem_map.mp hc
      obtain ⟨⟨h3, h5⟩, h4⟩ := mem_sbsR.mp hb
      obtain ⟨x', y', eb⟩ := h2 _ (sqA_mem h5)
      have lt : sqA P a < sqA P b := by
        have := List.pairwise_iff_getElem.mp srt a b ha h5 h3
        have q1 := sqA_get ha
        have q2 := sqA_get h5
        rw [List.getElem?_eq_getElem ha] at q1
        rw [List.getElem?_eq_getElem h5] at q2
        rw [Option.some.inj q1, Option.some.inj q2] at this
        exact this
      rw [ea, eb] at lt h4
      rw [eb]
      have s := mem_SSt.mp (show [x' - x, y' - y] ∈ SSt from h4)
      have l : x < x' ∨ (x = x' ∧ y < y') := by simpa [List.cons_lt_cons_iff] using lt
      have : (x' = x + 1 ∧ y' = y) ∨ (x' = x ∧ y' = y + 1) := by omega
      rcases this with ⟨rfl, rfl⟩ | ⟨rfl, rfl⟩ <;> simp
  rw [List.length_map] at hl
  exact hl
theorem joints_few {P : List (List Int)} {J : List Sd} (h : Pce P J) : J.length ≤ 2 * P.length := by
  have h1 : (sbsP P).length ≤ 2 * P.length := by
    have := flat_len4 (f := fun a => (sbsR P a).map fun b => (a, b)) (k := 2) (List.range P.length) fun a ha => by
      rw [List.length_map]
      exact sbsR_len2 h.sq.srt h.sq.two (List.mem_range.mp ha)
    rwa [List.length_range] at this
  refine Nat.le_trans (nodup_len (h.srt.imp fun h e => ?_) fun p hp => mem_sbsP.mpr (h.ok p hp)) h1
  rw [e] at h
  exact absurd h (List.lt_irrefl _)
end Lw
namespace Lw
open PySem PySem.Spec L2 Ve
def ch1 (n : Nat) : Str := ⟨#[n]⟩
def rwN (f : Nat → Nat) (w : Nat) : Str := ⟨((List.range w).map f).toArray⟩
theorem tl_rwN (f : Nat → Nat) (w : Nat) : TL.tl (rwN f w) = (List.range w).map f := by
  show ((List.range w).map f).toArray.toList = _
  simp
theorem tl_ch1 (n : Nat) : TL.tl (ch1 n) = [n] := rfl
theorem rwN_len (f : Nat → Nat) (w : Nat) : (rwN f w).length = w := by
  have : (rwN f w).length = (TL.tl (rwN f w)).length := rfl
  rw [this, tl_rwN, List.length_map, List.length_range]
theorem joinL_nil : ∀ ps : List (List Nat), TL.joinL [] ps = ps.flatten
  | [] => rfl
  | [p] => by
    show p = [p].flatten
    simp
  | p :: q :: r => by
    show p ++ ([] ++ TL.joinL [] (q :: r)) = _
    rw [joinL_nil (q :: r)]
    simp
theorem join_ch1 (f : Nat → Nat) (w : Nat) : Txt.join "" ((List.range w).map fun c => ch1 (f c)) = rwN f w := by
  refine TL.ext_tl ?_
  rw [TL.join_eq, TL.tl_join, show TL.tl "" = [] by decide, joinL_nil, tl_rwN, List.map_map]
  induction w with
  | zero => rfl
  | succ w ih =>
    rw [List.range_succ, List.map_append, List.flatten_append, ih, List.map_append]
    simp [tl_ch1]
theorem sgn_rwN (f : Nat → Nat) (w : Nat) : sgnD (rwN f w) = (List.range w).map fun x => D.str (ch1 (f x)) := by
  show (TL.tl (rwN f w)).map (fun c => D.str ⟨#[c]⟩) = _
  rw [tl_rwN, List.map_map]
  rfl
theorem joinL_dot (f : Nat → Nat) : ∀ (w : Nat), TL.joinL [46] ((List.range w).map fun x => [f x]) = (List.range (2 * w - 1)).map fun c => if c % 2 = 0 then f (c / 2) else 46
  | 0 => rfl
  | 1 => rfl
  | w + 2 => by
    have ih := joinL_dot f (w + 1)
    rw [List.range_succ, List.map_append, List.map_singleton]
    have ap : ∀ (l : List (List Nat)) (a : List Nat), l ≠ [] → TL.joinL [46] (l ++ [a]) = TL.joinL [46] l ++ 46 :: a := by
      intro l
      induction l with
      | nil => intro a h; exact absurd rfl h
      | cons x r ih =>
        intro a _
        cases r with
        | nil => rfl
        | cons y r =>
          show x ++ ([46] ++ TL.joinL [46] ((y :: r) ++ [a])) = (x ++ ([46] ++ TL.joinL [46] (y :: r))) ++ _
          rw [ih a (by simp)]
          simp
    rw [ap _ _ (by simp), ih, show 2 * (w + 2) - 1 = (2 * (w + 1) - 1) + 1 + 1 by omega, List.range_succ, List.range_succ, List.map_append, List.map_append, List.append_assoc]
    congr 1
    rw [List.map_singleton, List.map_singleton]
    rw [if_neg (by omega), if_pos (by omega), show (2 * (w + 1) - 1 + 1) / 2 = w + 1 by omega]
    rfl
theorem join_dot (f g : Nat → Nat) (w : Nat) (h0 : ∀ x, x < w → g (2 * x) = f x) (h1 : ∀ x, x + 1 < w → g (2 * x + 1) = 46) : Txt.join "." ((List.range w).map fun x => ch1 (f x)) = rwN g (2 * w - 1) := by
  refine TL.ext_tl ?_
  rw [TL.join_eq, TL.tl_join, show TL.tl "." = [46] by decide, tl_rwN, List.map_map]
  refine Eq.trans (joinL_dot f w) (List.map_congr_left fun c hc => ?_)
  have hc := List.mem_range.mp hc
  by_cases z : c % 2 = 0
  · rw [if_pos z]
    have := h0 (c / 2) (by omega)
    rw [show 2 * (c / 2) = c by omega] at this
    exact this.symm
  · rw [if_neg z]
    have := h1 (c / 2) (by omega)
    rw [show 2 * (c / 2) + 1 = c by omega] at this
    exact this.symm
def hgt (P : List (List Int)) : Nat := (mxA P 1).toNat
def wdt (P : List (List Int)) : Nat := (mxA P 0).toNat
def hor (P : List (List Int)) (p : Sd) : Bool := decide ((sqA P p.2).getD 1 0 = (sqA P p.1).getD 1 0)
def sqC (P : List (List Int)) (q : List Int) : Sd := (2 * (hgt P - (q.getD 1 0).toNat), 2 * (q.getD 0 0).toNat)
def jnC (P : List (List Int)) (p : Sd) : Sd := if hor P p = true then (2 * (hgt P - ((sqA P p.1).getD 1 0).toNat), 2 * ((sqA P p.1).getD 0 0).toNat + 1) else (2 * (hgt P - ((sqA P p.1).getD 1 0).toNat) - 1, 2 * ((sqA P p.1).getD 0 0).toNat)
def gch (P : List (List Int)) (J : List Sd) (r c : Nat) : Nat :=
  if (r, c) ∈ P.map (sqC P) then 35 else if (r, c) ∈ (J.filter fun p => hor P p).map (jnC P) then 45 else if (r, c) ∈ (J.filter fun p => !hor P p).map (jnC P) then 124 else 46
def gridR (P : List (List Int)) (J : List Sd) : List Str := (List.range (2 * hgt P + 1)).map fun r => rwN (gch P J r) (2 * wdt P + 1)
def pcT (P : List (List Int)) (J : List Sd) : Str := Txt.join "\n" (gridR P J)
def jp (P : List (List Int)) (J : List Sd) : List (List (List Int)) := J.map fun p => [sqA P p.1, sqA P p.2]
structure Gd (P : List (List Int)) (J : List Sd) : Prop where
  co : ∀ q ∈ P, ∃ a b : Nat, q = [(a : Int), (b : Int)] ∧ a ≤ wdt P ∧ b ≤ hgt P
  jt : ∀ p ∈ J, ∃ a b : Nat, sqA P p.1 = [(a : Int), (b : Int)] ∧ (a ≤ wdt P ∧ b ≤ hgt P) ∧ ((sqA P p.2 = [(a : Int) + 1, (b : Int)] ∧ a + 1 ≤ wdt P) ∨ (sqA P p.2 = [(a : Int), (b : Int) + 1] ∧ b + 1 ≤ hgt P))
  big : wdt P ≤ 64 ∧ hgt P ≤ 64
  ex0 : ∃ q ∈ P, q.getD 0 0 = ((wdt P : Nat) : Int)
  ex1 : ∃ q ∈ P, q.getD 1 0 = ((hgt P : Nat) : Int)
  w1 : mxA P 0 = ((wdt P : Nat) : Int)
  h1 : mxA P 1 = ((hgt P : Nat) : Int)
theorem gd_of {P : List (List Int)} {J : List Sd} (h : Pce P J) (hl : P.length ≤ 60) : Gd P J := by
  have s := h.sq
  have lo : ∀ (i : Nat), i = 0 ∨ i = 1 → ∀ q ∈ P, 0 ≤ q.getD i 0 := fun i hi q hq => by
    have := (mnC_is s.ne i).2 q hq
    rcases hi with rfl | rfl
    · rw [s.m0] at this; exact this
    · rw [s.m1] at this; exact this
  have hi : ∀ (i : Nat), i = 0 ∨ i = 1 → ∀ q ∈ P, q.getD i 0 < 64 := fun i hi q hq => by
    have := co_lt h hi hq
    omega
  have mx : ∀ (i : Nat), i = 0 ∨ i = 1 → 0 ≤ mxA P i ∧ mxA P i ≤ 64 := fun i hi' => by
    obtain ⟨⟨l, hl, e⟩, _⟩ := mxA_is s.ne i
    have h1 := lo i hi' l hl
    have h2 := hi i hi' l hl
    omega
  have co : ∀ q ∈ P, ∃ a b : Nat, q = [(a : Int), (b : Int)] ∧ a ≤ wdt P ∧ b ≤ hgt P := fun q hq => by
    have a1 := lo 0 (.inl rfl) q hq
    have a2 := lo 1 (.inr rfl) q hq
    have b1 := (mxA_is s.ne 0).2 q hq
    have b2 := (mxA_is s.ne 1).2 q hq
    obtain ⟨x, y, rfl⟩ := s.two q hq
    have a1 : 0 ≤ x := a1
    have a2 : 0 ≤ y := a2
    have b1 : x ≤ mxA P 0 := b1
    have b2 : y ≤ mxA P 1 := b2
    refine ⟨x.toNat, y.toNat, by rw [Int.toNat_of_nonneg a1, Int.toNat_of_nonneg a2], ?_, ?_⟩
    · unfold wdt; omega
    · unfold hgt; omega
  have m0 := mx 0 (.inl rfl)
  have m1 := mx 1 (.inr rfl)
  refine ⟨co, fun p hp => ?_, ⟨by unfold wdt; omega, by unfold hgt; omega⟩, ?_, ?_, by unfold wdt; omega, by unfold hgt; omega⟩
  · obtain ⟨⟨h1, h2⟩, h3⟩ := h.ok p hp
    have m1 := sqA_mem (show p.1 < P.length by omega)
    have m2 := sqA_mem h2
    have hlt : sqA P p.1 < sqA P p.2 := by
      have := List.pairwise_iff_getElem.mp s.srt p.1 p.2 (by omega) h2 h1
      unfold sqA
      rw [List.getD_eq_getElem?_getD, List.getElem?_eq_getElem (show p.1 < P.length by omega), List.getD_eq_getElem?_getD, List.getElem?_eq_getElem h2]
      exact this
    obtain ⟨a, b, ea, ea1, ea2⟩ := co _ m1
    obtain ⟨a', b', eb, hw, hh⟩ := co _ m2
    rw [ea] at h3 hlt
    rw [eb] at h3 hlt
    have h4 := mem_SSt.mp (show [(a' : Int) - a, (b' : Int) - b] ∈ SSt from h3)
    rw [List.cons_lt_cons_iff, List.cons_lt_cons_iff] at hlt
    refine ⟨a, b, ea, ⟨ea1, ea2⟩, ?_⟩
    rw [eb]
    rcases h4 with ⟨z1, z2⟩ | ⟨z1, z2⟩ | ⟨z1, z2⟩ | ⟨z1, z2⟩
    · left
      refine ⟨by rw [show (a' : Int) = a + 1 by omega, show (b' : Int) = b by omega], by omega⟩
    · right
      refine ⟨by rw [show (a' : Int) = a by omega, show (b' : Int) = b + 1 by omega], by omega⟩
    · exfalso
      rcases hlt with z | ⟨z, _⟩ <;> omega
    · exfalso
      rcases hlt with z | ⟨_, z | ⟨_, z⟩⟩
      · omega
      · omega
      · exact absurd z (by simp)
  · obtain ⟨⟨l, hl, e⟩, _⟩ := mxA_is s.ne 0
    exact ⟨l, hl, by rw [e]; unfold wdt; omega⟩
  · obtain ⟨⟨l, hl, e⟩, _⟩ := mxA_is s.ne 1
    exact ⟨l, hl, by rw [e]; unfold hgt; omega⟩
section
variable {P : List (List Int)} {J : List Sd}
theorem hor_t {p : Sd} {a b : Nat} (e1 : sqA P p.1 = [(a : Int), (b : Int)]) (e2 : sqA P p.2 = [(a : Int) + 1, (b : Int)]) : hor P p = true ∧ jnC P p = (2 * (hgt P - b), 2 * a + 1) := by
  have h : hor P p = true := by
    unfold hor
    rw [e1, e2]
    exact decide_eq_true rfl
  refine ⟨h, ?_⟩
  unfold jnC
  rw [if_pos h, e1]
  rfl
theorem hor_f {p : Sd} {a b : Nat} (e1 : sqA P p.1 = [(a : Int), (b : Int)]) (e2 : sqA P p.2 = [(a : Int), (b : Int) + 1]) : hor P p = false ∧ jnC P p = (2 * (hgt P - b) - 1, 2 * a) := by
  have h : hor P p = false := by
    unfold hor
    rw [e1, e2]
    refine decide_eq_false ?_
    show ¬ (b : Int) + 1 = b
    omega
  refine ⟨h, ?_⟩
  unfold jnC
  rw [if_neg (by rw [h]; decide), e1]
  rfl
theorem mem_sq (g : Gd P J) {d x : Nat} (hd : d ≤ hgt P) : (2 * d, 2 * x) ∈ P.map (sqC P) ↔ [(x : Int), ((hgt P - d : Nat) : Int)] ∈ P := by
  constructor
  · intro h
    obtain ⟨q, hq, e⟩ := List.mem_map.mp h
    obtain ⟨a, b, rfl, h1, h2⟩ := g.co q hq
    injection e with e1 e2
    have e1 : 2 * (hgt P - b) = 2 * d := e1
    have e2 : 2 * a = 2 * x := e2
    rw [show x = a by omega, show hgt P - d = b by omega]
    exact hq
  · intro h
    refine List.mem_map.mpr ⟨_, h, ?_⟩
    show (2 * (hgt P - (hgt P - d)), 2 * x) = _
    rw [show hgt P - (hgt P - d) = d by omega]
theorem mem_hor (g : Gd P J) {r c : Nat} : (r, c) ∈ (J.filter fun p => hor P p).map (jnC P) ↔ ∃ a b : Nat, [[(a : Int), (b : Int)], [(a : Int) + 1, (b : Int)]] ∈ jp P J ∧ b ≤ hgt P ∧ r = 2 * (hgt P - b) ∧ c = 2 * a + 1 := by
  constructor
  · intro h
    obtain ⟨p, hp, e⟩ := List.mem_map.mp h
    obtain ⟨hp, ht⟩ := List.mem_filter.mp hp
    obtain ⟨a, b, e1, ⟨hA, hB⟩, ⟨e2, hw⟩ | ⟨e2, hh⟩⟩ := g.jt p hp
    · rw [(hor_t e1 e2).2] at e
      injection e with q1 q2
      exact ⟨a, b, List.mem_map.mpr ⟨p, hp, by rw [e1, e2]⟩, hB, q1.symm, q2.symm⟩
    · rw [(hor_f e1 e2).1] at ht
      cases ht
  · rintro ⟨a, b, h, hb, rfl, rfl⟩
    obtain ⟨p, hp, e⟩ := List.mem_map.mp h
    injection e with e1 e2
    injection e2 with e2 _
    obtain ⟨h1, h2⟩ := hor_t e1 e2
    exact List.mem_map.mpr ⟨p, List.mem_filter.mpr ⟨hp, h1⟩, h2⟩
theorem mem_ver (g : Gd P J) {r c : Nat} : (r, c) ∈ (J.filter fun p => !hor P p).map (jnC P) ↔ ∃ a b : Nat, [[(a : Int), (b : Int)], [(a : Int), (b : Int) + 1]] ∈ jp P J ∧ b + 1 ≤ hgt P ∧ r = 2 * (hgt P - b) - 1 ∧ c = 2 * a := by
  constructor
  · intro h
    obtain ⟨p, hp, e⟩ := List.mem_map.mp h
    obtain ⟨hp, ht⟩ := List.mem_filter.mp hp
    obtain ⟨a, b, e1, ⟨hA, hB⟩, ⟨e2, hw⟩ | ⟨e2, hh⟩⟩ := g.jt p hp
    · rw [(hor_t e1 e2).1] at ht
      cases ht
    · rw [(hor_f e1 e2).2] at e
      injection e with q1 q2
      exact ⟨a, b, List.mem_map.mpr ⟨p, hp, by rw [e1, e2]⟩, hh, q1.symm, q2.symm⟩
  · rintro ⟨a, b, h, hb, rfl, rfl⟩
    obtain ⟨p, hp, e⟩ := List.mem_map.mp h
    injection e with e1 e2
    injection e2 with e2 _
    obtain ⟨h1, h2⟩ := hor_f e1 e2
    exact List.mem_map.mpr ⟨p, List.mem_filter.mpr ⟨hp, by rw [h1]; rfl⟩, h2⟩
theorem gch_ee (g : Gd P J) {d x : Nat} (hd : d ≤ hgt P) : gch P J (2 * d) (2 * x) = if [(x : Int), ((hgt P - d : Nat) : Int)] ∈ P then 35 else 46 := by
  unfold gch
  by_cases c : [(x : Int), ((hgt P - d : Nat) : Int)] ∈ P
  · rw [if_pos ((mem_sq g hd).mpr c), if_pos c]
  · rw [if_neg (fun z => c ((mem_sq g hd).mp z)), if_neg c, if_neg, if_neg]
    · intro z
      obtain ⟨a, b, _, h1, h2, h3⟩ := (mem_ver g).mp z
      omega
    · intro z
      obtain ⟨a, b, _, h1, h2, h3⟩ := (mem_hor g).mp z
      omega
theorem gch_eo (g : Gd P J) {d x : Nat} (hd : d ≤ hgt P) : gch P J (2 * d) (2 * x + 1) = if [[(x : Int), ((hgt P - d : Nat) : Int)], [(x : Int) + 1, ((hgt P - d : Nat) : Int)]] ∈ jp P J then 45 else 46 := by
  unfold gch
  rw [if_neg]
  · by_cases c : [[(x : Int), ((hgt P - d : Nat) : Int)], [(x : Int) + 1, ((hgt P - d : Nat) : Int)]] ∈ jp P J
    · rw [if_pos c, if_pos]
      exact (mem_hor g).mpr ⟨x, hgt P - d, c, by omega, by omega, rfl⟩
    · rw [if_neg c, if_neg, if_neg]
      · intro z
        obtain ⟨a, b, _, h1, h2, h3⟩ := (mem_ver g).mp z
        omega
      · intro z
        obtain ⟨a, b, h0, h1, h2, h3⟩ := (mem_hor g).mp z
        rw [show a = x by omega, show b = hgt P - d by omega] at h0
        exact c h0
  · intro z
    obtain ⟨q, hq, e⟩ := List.mem_map.mp z
    injection e with e1 e2
    omega
theorem gch_oe (g : Gd P J) {d x : Nat} (hd : d < hgt P) : gch P J (2 * d + 1) (2 * x) = if [[(x : Int), ((hgt P - d : Nat) : Int) - 1], [(x : Int), ((hgt P - d : Nat) : Int)]] ∈ jp P J then 124 else 46 := by
  unfold gch
  rw [if_neg, if_neg]
  · by_cases c : [[(x : Int), ((hgt P - d : Nat) : Int) - 1], [(x : Int), ((hgt P - d : Nat) : Int)]] ∈ jp P J
    · rw [if_pos c, if_pos]
      refine (mem_ver g).mpr ⟨x, hgt P - d - 1, ?_, by omega, by omega, rfl⟩
      rw [show ((hgt P - d - 1 : Nat) : Int) = ((hgt P - d : Nat) : Int) - 1 by omega, show ((hgt P - d : Nat) : Int) - 1 + 1 = ((hgt P - d : Nat) : Int) by omega]
      exact c
    · rw [if_neg c, if_neg]
      intro z
      obtain ⟨a, b, h0, h1, h2, h3⟩ := (mem_ver g).mp z
      rw [show a = x by omega, show (b : Int) + 1 = ((hgt P - d : Nat) : Int) by omega, show (b : Int) = ((hgt P - d : Nat) : Int) - 1 by omega] at h0
      exact c h0
  · intro z
    obtain ⟨a, b, _, h1, h2, h3⟩ := (mem_hor g).mp z
    omega
  · intro z
    obtain ⟨q, hq, e⟩ := List.mem_map.mp z
    injection e with e1 e2
    have e1 : 2 * (hgt P - (q.getD 1 0).toNat) = 2 * d + 1 := e1
    omega
theorem gch_oo (g : Gd P J) {d x : Nat} : gch P J (2 * d + 1) (2 * x + 1) = 46 := by
  unfold gch
  rw [if_neg, if_neg, if_neg]
  · intro z
    obtain ⟨a, b, _, h1, h2, h3⟩ := (mem_ver g).mp z
    omega
  · intro z
    obtain ⟨a, b, _, h1, h2, h3⟩ := (mem_hor g).mp z
    omega
  · intro z
    obtain ⟨q, hq, e⟩ := List.mem_map.mp z
    injection e with e1 e2
    have e1 : 2 * (hgt P - (q.getD 1 0).toNat) = 2 * d + 1 := e1
    omega
end
end Lw
namespace Lw
open PySem PySem.Spec L2 Ve
theorem sum_le {b : Nat} : ∀ (l : List Nat), (∀ x ∈ l, x ≤ b) → l.sum ≤ l.length * b
  | [], _ => Nat.zero_le _
  | a :: l, h => by
    rw [List.sum_cons, List.length_cons, Nat.succ_mul]
    have h1 := h a List.mem_cons_self
    have h2 := sum_le l fun x hx => h x (List.mem_cons_of_mem _ hx)
    omega
theorem join_le {s : Str} {b : Nat} {ys : List Str} (h : ∀ y ∈ ys, y.length ≤ b) : (Txt.join s ys).length ≤ ys.length * (b + s.length) := by
  rw [TL.join_eq]
  have h1 := StrLaws.join_length_le s ys
  have h2 := sum_le (ys.map (·.length)) (b := b) fun x hx => by
    obtain ⟨y, hy, rfl⟩ := List.mem_map.mp hx
    exact h y hy
  rw [List.length_map] at h2
  rw [Nat.mul_add]
  omega
theorem jn_fit {s : Str} {b : Nat} {ys : List Str} (h : ∀ y ∈ ys, y.length ≤ b) (hb : ys.length * (b + s.length) ≤ 16777216) : (ys.map (·.length)).sum + ys.length * s.length ≤ 16777216 := by
  have h2 := sum_le (ys.map (·.length)) (b := b) fun x hx => by
    obtain ⟨y, hy, rfl⟩ := List.mem_map.mp hx
    exact h y hy
  rw [List.length_map] at h2
  rw [Nat.mul_add] at hb
  omega
theorem gDictLN_of {hp : Hd} {L : List (List (List Int))} (nd : L.Nodup) : gDictLN (L.map fun cs => D.tup [TT cs, .bl true]) hp = some (.ref hp.length, hp ++ [.dicN (L.map TT)]) := by
  have ep : prs? (L.map fun cs => D.tup [TT cs, .bl true]) = some (L.map fun cs => (TT cs, D.bl true)) := by
    clear nd
    induction L with
    | nil => rfl
    | cons a l ih =>
      show (prs? (l.map fun cs => D.tup [TT cs, .bl true])).map _ = _
      rw [ih]
      rfl
  unfold gDictLN
  rw [ep]
  dsimp only
  have h1 : ((L.map fun cs => (TT cs, D.bl true)).all fun p => (nkOf p.1).isSome && isTr p.2) = true := by
    rw [List.all_map, List.all_eq_true]
    intro cs _
    show ((nkOf (TT cs)).isSome && isTr (.bl true)) = true
    rw [nkOf_TT]
    rfl
  have h2 : ((L.map fun cs => (TT cs, D.bl true)).map fun p => toNK p.1).Nodup := by
    rw [List.map_map]
    unfold List.Nodup at nd ⊢
    rw [List.pairwise_map]
    refine nd.imp fun {a b} hab e => hab ?_
    have e : toNK (TT a) = toNK (TT b) := e
    have := hasNK_TT [a] b
    rw [toNK_TT, toNK_TT] at e
    have e2 : nkT a = nkT b := Option.some.inj e
    rw [← e2] at this
    have h : hasNK ([a].map TT) (nkT a) = true := by
      unfold hasNK
      rw [List.map_singleton, List.any_cons, toNK_TT, decide_eq_true rfl]
      rfl
    rw [h] at this
    exact (List.mem_singleton.mp (of_decide_eq_true this.symm)).symm
  rw [h1, decide_eq_true h2, if_pos (by rfl), List.map_map]
  rfl
theorem gInN_TT {hp : Hd} {n : Nat} {L : List (List (List Int))} {cs : List (List Int)} {neg : Bool} (g : hp[n]? = some (.dicN (L.map TT))) : gInN neg (TT cs) (.ref n) hp = some (.bl (decide (cs ∈ L) != neg), hp) := by
  rw [gInN_of g (nkOf_TT cs), hasNK_TT]
theorem jp_nodup {P : List (List Int)} {J : List Sd} (h : Pce P J) : (jp P J).Nodup := by
  unfold jp List.Nodup
  rw [List.pairwise_map]
  refine h.srt.imp_of_mem fun {p q} hp hq hlt e => ?_
  injection e with e1 e2
  injection e2 with e2 _
  obtain ⟨⟨h1, h2⟩, _⟩ := h.ok p hp
  obtain ⟨⟨h3, h4⟩, _⟩ := h.ok q hq
  have nd : P.Nodup := nodup_of_lt h.sq.srt
  have g1 := sqA_get (show p.1 < P.length by omega)
  have g3 := sqA_get (show q.1 < P.length by omega)
  have g2 := sqA_get h2
  have g4 := sqA_get h4
  rw [e1] at g1
  rw [e2] at g2
  have i1 := (idxOf_eq nd g1).symm.trans (idxOf_eq nd g3)
  have i2 := (idxOf_eq nd g2).symm.trans (idxOf_eq nd g4)
  rw [show p = q from Prod.ext i1 i2] at hlt
  exact List.lt_irrefl _ hlt
def E1_joined_pairs : AE :=
    (mTup (mCons (mTup (mCons (m2 (mVar 1) (mVar 3) gIx) (mCons (m2 (mVar 1) (mVar 4) gIx) mNil))) (mCons (mC (.bl true)) mNil)))
def C1_joined_pairs : AA :=
    (mLc (mIS (mVar 2)) (.tp ((.nm 3) :: ((.nm 4) :: []))) [3, 4] tYesD E1_joined_pairs)
@[simp] def b_joined_pairs_1 : AS :=
    (sRet (mL C1_joined_pairs gDictLN))
def b_joined_pairs : AS :=
    sSeq (sAsg (.tp ((.nm 1) :: ((.nm 2) :: []))) (mVar 0))
    b_joined_pairs_1
def m_joined_pairs : List D → Hd → Option (D × Hd) := mDef 5 b_joined_pairs
def c_joined_pairs := cN m_joined_pairs
theorem con_joined_pairs : Cl c_joined_pairs m_joined_pairs := cl_cN _
theorem set_end {hp : Hd} {o o' : O} : (hp ++ [o]).set hp.length o' = hp ++ [o'] := by
  rw [List.set_append_right _ _ (Nat.le_refl _)]
  simp
theorem gIx_sq {P : List (List Int)} {hp : Hd} {i : Nat} (h : i < P.length) : gIx (.tup (P.map T)) (.int (i : Nat)) hp = some (T (sqA P i), hp) := gIx_tupN (by rw [List.getElem?_map, sqA_get h]; rfl)
theorem joined_ok (hp : Hd) {P : List (List Int)} {J : List Sd} (h : Pce P J) (hl : J.length ≤ 1000) : c_joined_pairs [pcD false P J] hp = some (.ref hp.length, hp ++ [.dicN ((jp P J).map TT)]) := by
  have s1 : sAsg (.tp ((.nm 1) :: ((.nm 2) :: []))) (mVar 0) (stD 5 [pcD false P J]) [] = some (.nx, [some (pcD false P J), some (.tup (P.map T)), some (.tup ((J.map pI).map T)), none, none], []) := asg_of (mVar_of rfl) rfl
  have el := mLc_typed (fi := mIS (mVar 2)) (t := .tp ((.nm 3) :: ((.nm 4) :: []))) (own := [3, 4]) (tt := tYesD) (te := E1_joined_pairs) (ls := [some (pcD false P J), some (.tup (P.map T)), some (.tup ((J.map pI).map T)), none, none]) (hp := []) (gd := []) (fun p : Sd => T (pI p)) J (fun _ => true) (fun p => D.tup [TT [sqA P p.1, sqA P p.2], .bl true]) (by
      rw [show (J.map fun p => T (pI p)) = (J.map pI).map T by rw [List.map_map]; rfl]
      exact mIS_tup (mVar_of rfl)) (by rw [sizeLine_eq]; omega) rfl (fun p hp => by
    obtain ⟨⟨h1, h2⟩, _⟩ := h.ok p hp
    exact ⟨_, rfl, rfl, fun _ => tup_of (cons_of (tup_of (cons_of (m2_ev (mVar_of rfl) (mVar_of rfl) (gIx_sq (show p.1 < P.length by omega))) (cons_of (m2_ev (mVar_of rfl) (mVar_of rfl) (gIx_sq h2)) nil_of)) (Nat.le_of_ble_eq_true rfl)) (cons_of mC_of nil_of)) (Nat.le_of_ble_eq_true rfl)⟩)
  rw [List.filter_eq_self.mpr fun _ _ => rfl] at el
  have el' : C1_joined_pairs [some (pcD false P J), some (.tup (P.map T)), some (.tup ((J.map pI).map T)), none, none] [] = some ((jp P J).map (fun cs => D.tup [TT cs, .bl true]), []) := by
    refine Eq.trans el ?_
    unfold jp
    rw [List.map_map]
    rfl
  have em : m_joined_pairs [pcD false P J] [] = some (.ref 0, [.dicN ((jp P J).map TT)]) := def_of (sSeq_of s1 (ret_of ((mL_of el').trans (gDictLN_of (jp_nodup h)))))
  exact cN_of (nrs_cons (nr_pcD _ _ _) rfl) em rfl (by
    show nrO (.dicN ((jp P J).map TT)) = true
    exact nrs_map nr_TT (jp P J))
@[simp] def B1_square_row_1 : AS :=
    (sDrop (mMet isL (mVar 4) (mCons (mIfE (mT (m2 (mTup (mCons (mVar 5) (mCons (mVar 3) mNil))) (mVar 0) gIn)) (mC (.str "#")) (mC (.str "."))) mNil) gAppend))
def B1_square_row : AS :=
    sSeq (sIf (mT (m2 (mVar 5) (mC (.int 0)) gGt)) (sDrop (mMet isL (mVar 4) (mCons (mIfE (mT (m2 (mTup (mCons (mTup (mCons (m2 (mVar 5) (mC (.int 1)) gSub) (mCons (mVar 3) mNil))) (mCons (mTup (mCons (mVar 5) (mCons (mVar 3) mNil))) mNil))) (mVar 1) (gInN false))) (mC (.str "-")) (mC (.str "."))) mNil) gAppend)) sNext)
    B1_square_row_1
def F1_square_row : AS := (sForI (mR1 (mCons (mVar 2) mNil)) (.nm 5) B1_square_row)
@[simp] def b_square_row_2 : AS :=
    (sRet (mJoinO (mC (.str "")) (mVar 4)))
@[simp] def b_square_row_1 : AS :=
    sSeq F1_square_row
    b_square_row_2
def b_square_row : AS :=
    sSeq (sSet 4 (mNew (mLst mNil)))
    b_square_row_1
def m_square_row : List D → Hd → Option (D × Hd) := mDef 6 b_square_row
abbrev c_square_row := m_square_row
theorem join1_fit {n : Nat} (f : Nat → Nat) (hn : n ≤ 1000) {a : Str} (ha : a.length ≤ 10) : (((List.range n).map fun c => ch1 (f c)).map (·.length)).sum + ((List.range n).map fun c => ch1 (f c)).length * a.length ≤ 16777216 := by
  have h1 := sum_le (((List.range n).map fun c => ch1 (f c)).map (·.length)) (b := 1) (fun x hx => by
    obtain ⟨y, hy, rfl⟩ := List.mem_map.mp hx
    obtain ⟨c, _, rfl⟩ := List.mem_map.mp hy
    exact Nat.le_refl _)
  rw [List.length_map, List.length_map, List.length_range] at h1
  rw [List.length_map, List.length_range]
  have : n * a.length ≤ 1000 * 10 := Nat.mul_le_mul hn ha
  omega
theorem square_row_ok {P : List (List Int)} {J : List Sd} (g : Gd P J) {hp : Hd} {n d : Nat} (gn : hp[n]? = some (.dicN ((jp P J).map TT))) (hd : d ≤ hgt P) :
    ∃ l, m_square_row [.tup (P.map T), .ref n, .int ((wdt P + 1 : Nat) : Int), .int ((hgt P - d : Nat) : Int)] hp = some (.str (rwN (gch P J (2 * d)) (2 * wdt P + 1)), hp ++ l) := by
  have big := g.big
  obtain ⟨ls', H', e, v5, rfl, rfl⟩ := sForI_pre (fi := mR1 (mCons (mVar 2) mNil)) (t := .nm 5) (b := B1_square_row) (gd := []) (items := List.range (wdt P + 1)) (ls := [some (.tup (P.map T)), some (.ref n), some (.int ((wdt P + 1 : Nat) : Int)), some (.int ((hgt P - d : Nat) : Int)), some (.ref hp.length), none]) (hp := hp ++ [.lst []]) (hp1 := hp ++ [.lst []]) (fun x : Nat => D.int (x : Nat))
    (fun dn ls H => ∃ v5, ls = [some (.tup (P.map T)), some (.ref n), some (.int ((wdt P + 1 : Nat) : Int)), some (.int ((hgt P - d : Nat) : Int)), some (.ref hp.length), v5] ∧ H = hp ++ [.lst ((List.range (2 * dn.length - 1)).map fun c => D.str (ch1 (gch P J (2 * d) c)))]) (mR1_nat (j := wdt P + 1) (cons_of (mVar_of rfl) nil_of) (by omega)) (fun _ _ _ _ => rfl) ⟨_, rfl, rfl⟩ (by
      rintro dn x r ls H ed ⟨v5, rfl, rfl⟩
      obtain ⟨rfl, hx⟩ := range_at ed
      generalize hk : dn.length = k at *
      have gt : mT (m2 (mVar 5) (mC (.int 0)) gGt) [some (.tup (P.map T)), some (.ref n), some (.int ((wdt P + 1 : Nat) : Int)), some (.int ((hgt P - d : Nat) : Int)), some (.ref hp.length), some (.int (k : Nat))] (hp ++ [.lst ((List.range (2 * k - 1)).map fun c => D.str (ch1 (gch P J (2 * d) c)))]) = some (decide (0 < (k : Int)), hp ++ [.lst ((List.range (2 * k - 1)).map fun c => D.str (ch1 (gch P J (2 * d) c)))]) := mT_of (m2_ev (mVar_of rfl) mC_of gGt_int)
      have app : ∀ (m : Nat) (s : Str), m ≤ 1000 → s = ch1 (gch P J (2 * d) m) → gAppend (.ref hp.length) [.str s] (hp ++ [.lst ((List.range m).map fun c => D.str (ch1 (gch P J (2 * d) c)))]) = some (.non, hp ++ [.lst ((List.range (m + 1)).map fun c => D.str (ch1 (gch P J (2 * d) c)))]) := fun m s hm es => by
        rw [gAppend_of hget_new (by rw [List.length_map, List.length_range]; omega), set_end, List.range_succ, List.map_append, es]
        rfl
      have s1 : ∀ (H : Hd), H = hp ++ [.lst ((List.range (2 * k - 1)).map fun c => D.str (ch1 (gch P J (2 * d) c)))] → sIf (mT (m2 (mVar 5) (mC (.int 0)) gGt)) (sDrop (mMet isL (mVar 4) (mCons (mIfE (mT (m2 (mTup (mCons (mTup (mCons (m2 (mVar 5) (mC (.int 1)) gSub) (mCons (mVar 3) mNil))) (mCons (mTup (mCons (mVar 5) (mCons (mVar 3) mNil))) mNil))) (mVar 1) (gInN false))) (mC (.str "-")) (mC (.str "."))) mNil) gAppend)) sNext [some (.tup (P.map T)), some (.ref n), some (.int ((wdt P + 1 : Nat) : Int)), some (.int ((hgt P - d : Nat) : Int)), some (.ref hp.length), some (.int (k : Nat))] H =
          some (.nx, [some (.tup (P.map T)), some (.ref n), some (.int ((wdt P + 1 : Nat) : Int)), some (.int ((hgt P - d : Nat) : Int)), some (.ref hp.length), some (.int (k : Nat))], hp ++ [.lst ((List.range (2 * k)).map fun c => D.str (ch1 (gch P J (2 * d) c)))]) := by
        rintro H rfl
        rcases Nat.eq_zero_or_pos k with z | z
        · subst z
          exact sIf_f gt rfl
        · rw [decide_eq_true (by omega)] at gt
          obtain ⟨j, rfl⟩ : ∃ j, k = j + 1 := ⟨k - 1, by omega⟩
          have gi : m2 (mTup (mCons (mTup (mCons (m2 (mVar 5) (mC (.int 1)) gSub) (mCons (mVar 3) mNil))) (mCons (mTup (mCons (mVar 5) (mCons (mVar 3) mNil))) mNil))) (mVar 1) (gInN false) [some (.tup (P.map T)), some (.ref n), some (.int ((wdt P + 1 : Nat) : Int)), some (.int ((hgt P - d : Nat) : Int)), some (.ref hp.length), some (.int ((j + 1 : Nat) : Int))] (hp ++ [.lst ((List.range (2 * (j + 1) - 1)).map fun c => D.str (ch1 (gch P J (2 * d) c)))]) = _ :=
            m2_ev (tup_of (cons_of (tup_of (cons_of (m2_ev (mVar_of rfl) mC_of gSub_int) (cons_of (mVar_of rfl) nil_of)) (Nat.le_of_ble_eq_true rfl)) (cons_of (tup_of (cons_of (mVar_of rfl) (cons_of (mVar_of rfl) nil_of)) (Nat.le_of_ble_eq_true rfl)) nil_of)) (Nat.le_of_ble_eq_true rfl)) (mVar_of rfl) (gInN_TT (cs := [[((j + 1 : Nat) : Int) - 1, ((hgt P - d : Nat) : Int)], [((j + 1 : Nat) : Int), ((hgt P - d : Nat) : Int)]]) (hget_old gn))
          rw [show ((j + 1 : Nat) : Int) - 1 = (j : Int) by omega, Bool.bne_false] at gi
          have gc := gch_eo g (x := j) hd
          rw [show (j : Int) + 1 = ((j + 1 : Nat) : Int) by omega] at gc
          have ei : mIfE (mT (m2 (mTup (mCons (mTup (mCons (m2 (mVar 5) (mC (.int 1)) gSub) (mCons (mVar 3) mNil))) (mCons (mTup (mCons (mVar 5) (mCons (mVar 3) mNil))) mNil))) (mVar 1) (gInN false))) (mC (.str "-")) (mC (.str ".")) [some (.tup (P.map T)), some (.ref n), some (.int ((wdt P + 1 : Nat) : Int)), some (.int ((hgt P - d : Nat) : Int)), some (.ref hp.length), some (.int ((j + 1 : Nat) : Int))] (hp ++ [.lst ((List.range (2 * (j + 1) - 1)).map fun c => D.str (ch1 (gch P J (2 * d) c)))]) = some (.str (ch1 (gch P J (2 * d) (2 * j + 1))), hp ++ [.lst ((List.range (2 * (j + 1) - 1)).map fun c => D.str (ch1 (gch P J (2 * d) c)))]) := by
            rw [mIfE_s2, mT_of gi, gc]
            by_cases c : [[(j : Int), ((hgt P - d : Nat) : Int)], [((j + 1 : Nat) : Int), ((hgt P - d : Nat) : Int)]] ∈ jp P J
            · rw [decide_eq_true c, if_pos c]; rfl
            · rw [decide_eq_false c, if_neg c]; rfl
          have := app (2 * (j + 1) - 1) _ (by omega) (show ch1 (gch P J (2 * d) (2 * j + 1)) = ch1 (gch P J (2 * d) (2 * (j + 1) - 1)) by rw [show 2 * (j + 1) - 1 = 2 * j + 1 by omega])
          rw [show 2 * (j + 1) - 1 + 1 = 2 * (j + 1) by omega] at this
          exact sIf_t gt (sDrop_of (met_of (mVar_of rfl) (isL_of hget_new) (cons_of ei nil_of) this))
      have gi : m2 (mTup (mCons (mVar 5) (mCons (mVar 3) mNil))) (mVar 0) gIn [some (.tup (P.map T)), some (.ref n), some (.int ((wdt P + 1 : Nat) : Int)), some (.int ((hgt P - d : Nat) : Int)), some (.ref hp.length), some (.int (k : Nat))] (hp ++ [.lst ((List.range (2 * k)).map fun c => D.str (ch1 (gch P J (2 * d) c)))]) = _ :=
        m2_ev (tup_of (cons_of (mVar_of rfl) (cons_of (mVar_of rfl) nil_of)) (Nat.le_of_ble_eq_true rfl)) (mVar_of rfl) (gIn_tup (a := [(k : Int), ((hgt P - d : Nat) : Int)]))
      have ei : mIfE (mT (m2 (mTup (mCons (mVar 5) (mCons (mVar 3) mNil))) (mVar 0) gIn)) (mC (.str "#")) (mC (.str ".")) [some (.tup (P.map T)), some (.ref n), some (.int ((wdt P + 1 : Nat) : Int)), some (.int ((hgt P - d : Nat) : Int)), some (.ref hp.length), some (.int (k : Nat))] (hp ++ [.lst ((List.range (2 * k)).map fun c => D.str (ch1 (gch P J (2 * d) c)))]) = some (.str (ch1 (gch P J (2 * d) (2 * k))), hp ++ [.lst ((List.range (2 * k)).map fun c => D.str (ch1 (gch P J (2 * d) c)))]) := by
        rw [mIfE_s2, mT_of gi, gch_ee g hd]
        by_cases c : [(k : Int), ((hgt P - d : Nat) : Int)] ∈ P
        · rw [decide_eq_true c, if_pos c]; rfl
        · rw [decide_eq_false c, if_neg c]; rfl
      refine ⟨_, _, _, asg_nm, .inl (sSeq_of (s1 _ rfl) (sDrop_of (met_of (mVar_of rfl) (isL_of hget_new) (cons_of ei nil_of) (app (2 * k) _ (by omega) rfl)))), _, rfl, ?_⟩
      rw [List.length_append, List.length_singleton, hk]
      rfl)
  rw [List.length_range, show 2 * (wdt P + 1) - 1 = 2 * wdt P + 1 by omega] at e
  have e' : F1_square_row [some (.tup (P.map T)), some (.ref n), some (.int ((wdt P + 1 : Nat) : Int)), some (.int ((hgt P - d : Nat) : Int)), some (.ref hp.length), none] (hp ++ [.lst []]) = _ := e
  have gl : (hp ++ [O.lst ((List.range (2 * wdt P + 1)).map fun c => D.str (ch1 (gch P J (2 * d) c)))])[hp.length]? = some (.lst (((List.range (2 * wdt P + 1)).map fun c => ch1 (gch P J (2 * d) c)).map D.str)) := by
    rw [List.map_map]
    exact hget_new
  have ej := mJoinO_of (fo := mC (.str "")) (fa := mVar 4) (ls := [some (.tup (P.map T)), some (.ref n), some (.int ((wdt P + 1 : Nat) : Int)), some (.int ((hgt P - d : Nat) : Int)), some (.ref hp.length), v5]) mC_of (mVar_of rfl) gl (join1_fit _ (by omega) (by decide))
  rw [join_ch1] at ej
  exact ⟨_, def_of (sSeq_of (sSet_of (mNew_of (fl := mLst mNil) (ds := []) rfl)) (sSeq_of e' (ret_of ej)))⟩
end Lw
namespace Lw
open PySem PySem.Spec L2 Ve
def E1_joint_row : AE :=
    (mIfE (mT (m2 (mTup (mCons (mTup (mCons (mVar 4) (mCons (m2 (mVar 2) (mC (.int 1)) gSub) mNil))) (mCons (mTup (mCons (mVar 4) (mCons (mVar 2) mNil))) mNil))) (mVar 0) (gInN false))) (mC (.str "|")) (mC (.str ".")))
def C1_joint_row : AA :=
    (mLc (mR1 (mCons (mVar 1) mNil)) (.nm 4) [4] tYesD E1_joint_row)
@[simp] def b_joint_row_1 : AS :=
    (sRet (mJoinO (mC (.str ".")) (mVar 3)))
def b_joint_row : AS :=
    sSeq (sSet 3 (mNew C1_joint_row))
    b_joint_row_1
def m_joint_row : List D → Hd → Option (D × Hd) := mDef 5 b_joint_row
abbrev c_joint_row := m_joint_row
theorem joint_row_ok {P : List (List Int)} {J : List Sd} (g : Gd P J) {hp : Hd} {n d : Nat} (gn : hp[n]? = some (.dicN ((jp P J).map TT))) (hd : d < hgt P) :
    ∃ l, m_joint_row [.ref n, .int ((wdt P + 1 : Nat) : Int), .int ((hgt P - d : Nat) : Int)] hp = some (.str (rwN (gch P J (2 * d + 1)) (2 * wdt P + 1)), hp ++ l) := by
  have big := g.big
  have el := mLc_typed (fi := mR1 (mCons (mVar 1) mNil)) (t := .nm 4) (own := [4]) (tt := tYesD) (te := E1_joint_row) (ls := [some (.ref n), some (.int ((wdt P + 1 : Nat) : Int)), some (.int ((hgt P - d : Nat) : Int)), none, none]) (hp := hp) (gd := []) (fun x : Nat => D.int (x : Nat)) (List.range (wdt P + 1)) (fun _ => true) (fun x => D.str (ch1 (gch P J (2 * d + 1) (2 * x)))) (mR1_nat (j := wdt P + 1) (cons_of (mVar_of rfl) nil_of) (by omega)) (by rw [List.length_range, sizeLine_eq]; omega) rfl (fun x hx => by
    refine ⟨_, asg_nm, rfl, fun _ => ?_⟩
    have gi : m2 (mTup (mCons (mTup (mCons (mVar 4) (mCons (m2 (mVar 2) (mC (.int 1)) gSub) mNil))) (mCons (mTup (mCons (mVar 4) (mCons (mVar 2) mNil))) mNil))) (mVar 0) (gInN false) [some (.ref n), some (.int ((wdt P + 1 : Nat) : Int)), some (.int ((hgt P - d : Nat) : Int)), none, some (.int (x : Nat))] hp = _ :=
      m2_ev (tup_of (cons_of (tup_of (cons_of (mVar_of rfl) (cons_of (m2_ev (mVar_of rfl) mC_of gSub_int) nil_of)) (Nat.le_of_ble_eq_true rfl)) (cons_of (tup_of (cons_of (mVar_of rfl) (cons_of (mVar_of rfl) nil_of)) (Nat.le_of_ble_eq_true rfl)) nil_of)) (Nat.le_of_ble_eq_true rfl)) (mVar_of rfl) (gInN_TT (cs := [[(x : Int), ((hgt P - d : Nat) : Int) - 1], [(x : Int), ((hgt P - d : Nat) : Int)]]) gn)
    rw [Bool.bne_false] at gi
    show mIfE (mT (m2 (mTup (mCons (mTup (mCons (mVar 4) (mCons (m2 (mVar 2) (mC (.int 1)) gSub) mNil))) (mCons (mTup (mCons (mVar 4) (mCons (mVar 2) mNil))) mNil))) (mVar 0) (gInN false))) (mC (.str "|")) (mC (.str ".")) [some (.ref n), some (.int ((wdt P + 1 : Nat) : Int)), some (.int ((hgt P - d : Nat) : Int)), none, some (.int (x : Nat))] hp = _
    rw [mIfE_s2, mT_of gi, gch_oe g hd]
    by_cases c : [[(x : Int), ((hgt P - d : Nat) : Int) - 1], [(x : Int), ((hgt P - d : Nat) : Int)]] ∈ jp P J
    · rw [decide_eq_true c, if_pos c]; rfl
    · rw [decide_eq_false c, if_neg c]; rfl)
  rw [List.filter_eq_self.mpr (fun _ _ => rfl)] at el
  have gl : (hp ++ [O.lst ((List.range (wdt P + 1)).map fun x => D.str (ch1 (gch P J (2 * d + 1) (2 * x))))])[hp.length]? = some (.lst (((List.range (wdt P + 1)).map fun x => ch1 (gch P J (2 * d + 1) (2 * x))).map D.str)) := by
    rw [List.map_map]
    exact hget_new
  have a1 := sSet_of (i := 3) (mNew_of (show C1_joint_row _ _ = _ from el))
  have ej := mJoinO_of (fo := mC (.str ".")) (fa := mVar 3) (ls := [some (.ref n), some (.int ((wdt P + 1 : Nat) : Int)), some (.int ((hgt P - d : Nat) : Int)), some (.ref hp.length), none]) mC_of (mVar_of rfl) gl (join1_fit (fun x => gch P J (2 * d + 1) (2 * x)) (by omega) (by decide))
  rw [join_dot (fun x => gch P J (2 * d + 1) (2 * x)) (gch P J (2 * d + 1)) (wdt P + 1) (fun x _ => rfl) (fun x _ => gch_oo g), show 2 * (wdt P + 1) - 1 = 2 * wdt P + 1 by omega] at ej
  exact ⟨_, def_of (sSeq_of a1 (ret_of ej))⟩
def E1_show_piece : AE :=
    (mVar 6)
def C1_show_piece : AA :=
    (mLc (mIS (mVar 1)) (.tp ((.nm 6) :: ((.nm 5) :: []))) [6, 5] tYesD E1_show_piece)
def E2_show_piece : AE :=
    (mVar 5)
def C2_show_piece : AA :=
    (mLc (mIS (mVar 1)) (.tp ((.nm 6) :: ((.nm 5) :: []))) [6, 5] tYesD E2_show_piece)
@[simp] def B1_show_piece_1 : AS :=
    (sIf (mT (m2 (mVar 5) (mC (.int 0)) gGt)) (sDrop (mMet isL (mVar 4) (mCons (mAs (mCons (mVar 2) (mCons (mVar 3) (mCons (mVar 5) mNil))) (ar 3 c_joint_row)) mNil) gAppend)) sNext)
def B1_show_piece : AS :=
    sSeq (sDrop (mMet isL (mVar 4) (mCons (mAs (mCons (mVar 1) (mCons (mVar 2) (mCons (mVar 3) (mCons (mVar 5) mNil)))) (ar 4 c_square_row)) mNil) gAppend))
    B1_show_piece_1
def F1_show_piece : AS := (sForI (mR3 (mCons (mL C2_show_piece gMaxL) (mCons (m1 (mC (.int 1)) gNeg) (mCons (m1 (mC (.int 1)) gNeg) mNil)))) (.nm 5) B1_show_piece)
@[simp] def b_show_piece_5 : AS :=
    (sRet (mJoinO (mC (.str "\n")) (mVar 4)))
@[simp] def b_show_piece_4 : AS :=
    sSeq F1_show_piece
    b_show_piece_5
@[simp] def b_show_piece_3 : AS :=
    sSeq (sSet 4 (mNew (mLst mNil)))
    b_show_piece_4
@[simp] def b_show_piece_2 : AS :=
    sSeq (sSet 3 (m2 (mC (.int 1)) (mL C1_show_piece gMaxL) gAdd))
    b_show_piece_3
@[simp] def b_show_piece_1 : AS :=
    sSeq (sSet 2 (mAs (mCons (mVar 0) mNil) (ar 1 c_joined_pairs)))
    b_show_piece_2
def b_show_piece : AS :=
    sSeq (sSet 1 (m2 (mVar 0) (mC (.int 0)) gIx))
    b_show_piece_1
def m_show_piece : List D → Hd → Option (D × Hd) := mDef 7 b_show_piece
def c_show_piece := cV m_show_piece
theorem con_show_piece : Cl c_show_piece m_show_piece := cl_cV _
def grR (P : List (List Int)) (J : List Sd) (r : Nat) : Str := rwN (gch P J r) (2 * wdt P + 1)
theorem gridR_eq (P : List (List Int)) (J : List Sd) : gridR P J = (List.range (2 * hgt P + 1)).map (grR P J) := rfl
theorem grid_fit {P : List (List Int)} {J : List Sd} (g : Gd P J) : ((gridR P J).map (·.length)).sum + (gridR P J).length * ("\n" : Str).length ≤ 16777216 := by
  have big := g.big
  refine jn_fit (b := 129) (fun y hy => ?_) ?_
  · obtain ⟨r, _, rfl⟩ := List.mem_map.mp hy
    rw [rwN_len]; omega
  · unfold gridR
    rw [List.length_map, List.length_range, show ("\n" : Str).length = 1 by decide]
    have : (2 * hgt P + 1) * (129 + 1) ≤ 129 * 130 := Nat.mul_le_mul (by omega) (by omega)
    omega
theorem show_run {P : List (List Int)} {J : List Sd} (h : Pce P J) (hl : P.length ≤ 60) (hJ : J.length ≤ 1000) : ∃ H, m_show_piece [pcD false P J] [] = some (.str (pcT P J), H) := by
  have g := gd_of h hl
  have big := g.big
  have hne := h.sq.ne
  have a1 := sSet_of (i := 1) (m2_ev (fa := mVar 0) (fb := mC (.int 0)) (g := gIx) (ls := stD 7 [pcD false P J]) (hp := []) (mVar_of rfl) mC_of (gIx_tup (j := 0) rfl))
  have a2 : sSet 2 (mAs (mCons (mVar 0) mNil) (ar 1 c_joined_pairs)) [some (pcD false P J), some (.tup (P.map T)), none, none, none, none, none] [] = some (.nx, [some (pcD false P J), some (.tup (P.map T)), some (.ref 0), none, none, none, none], [.dicN ((jp P J).map TT)]) := sSet_of (call_of (cons_of (mVar_of rfl) nil_of) rfl (joined_ok [] h hJ))
  have cc : ∀ (H : Hd) (v3 v4 : Option D), C1_show_piece [some (pcD false P J), some (.tup (P.map T)), some (.ref 0), v3, v4, none, none] H = some (P.map (fun c => D.int (c.getD 0 0)), H) ∧ C2_show_piece [some (pcD false P J), some (.tup (P.map T)), some (.ref 0), v3, v4, none, none] H = some (P.map (fun c => D.int (c.getD 1 0)), H) := fun H v3 v4 => by
    have e1 := mLc_typed (fi := mIS (mVar 1)) (t := .tp ((.nm 6) :: ((.nm 5) :: []))) (own := [6, 5]) (tt := tYesD) (te := E1_show_piece) (ls := [some (pcD false P J), some (.tup (P.map T)), some (.ref 0), v3, v4, none, none]) (hp := H) (gd := []) T P (fun _ => true) (fun c => D.int (c.getD 0 0)) (mIS_tup (mVar_of rfl)) (by rw [sizeLine_eq]; omega) rfl (fun c hc => by
      obtain ⟨x, y, rfl⟩ := h.sq.two c hc
      exact ⟨_, rfl, rfl, fun _ => mVar_of rfl⟩)
    have e2 := mLc_typed (fi := mIS (mVar 1)) (t := .tp ((.nm 6) :: ((.nm 5) :: []))) (own := [6, 5]) (tt := tYesD) (te := E2_show_piece) (ls := [some (pcD false P J), some (.tup (P.map T)), some (.ref 0), v3, v4, none, none]) (hp := H) (gd := []) T P (fun _ => true) (fun c => D.int (c.getD 1 0)) (mIS_tup (mVar_of rfl)) (by rw [sizeLine_eq]; omega) rfl (fun c hc => by
      obtain ⟨x, y, rfl⟩ := h.sq.two c hc
      exact ⟨_, rfl, rfl, fun _ => mVar_of rfl⟩)
    rw [List.filter_eq_self.mpr fun _ _ => rfl] at e1 e2
    exact ⟨e1, e2⟩
  have a3 : sSet 3 (m2 (mC (.int 1)) (mL C1_show_piece gMaxL) gAdd) [some (pcD false P J), some (.tup (P.map T)), some (.ref 0), none, none, none, none] [.dicN ((jp P J).map TT)] = some (.nx, [some (pcD false P J), some (.tup (P.map T)), some (.ref 0), some (.int ((wdt P + 1 : Nat) : Int)), none, none, none], [.dicN ((jp P J).map TT)]) := by
    refine sSet_of ((m2_ev mC_of ((mL_of (cc _ _ _).1).trans (gMaxL_mxA hne 0)) gAdd_int).trans ?_)
    rw [g.w1, show (1 : Int) + ((wdt P : Nat) : Int) = ((wdt P + 1 : Nat) : Int) by omega]
  have a4 := sSet_of (i := 4) (mNew_of (fl := mLst mNil) (ls := [some (pcD false P J), some (.tup (P.map T)), some (.ref 0), some (.int ((wdt P + 1 : Nat) : Int)), none, none, none]) (hp := [.dicN ((jp P J).map TT)]) (ds := []) rfl)
  have ei := mR3_down (fr := mCons (mL C2_show_piece gMaxL) (mCons (m1 (mC (.int 1)) gNeg) (mCons (m1 (mC (.int 1)) gNeg) mNil))) (ls := [some (pcD false P J), some (.tup (P.map T)), some (.ref 0), some (.int ((wdt P + 1 : Nat) : Int)), some (.ref 1), none, none]) (hp := [.dicN ((jp P J).map TT), .lst []]) (k := hgt P) (cons_of ((mL_of (cc _ _ _).2).trans ((gMaxL_mxA hne 1).trans (by rw [g.h1]))) (cons_of (m1_ev mC_of rfl) (cons_of (m1_ev mC_of rfl) nil_of))) (by omega)
  obtain ⟨ls', H', e5, v5, rfl, h0, h1⟩ := sForI_pre (t := .nm 5) (b := B1_show_piece) (gd := []) (items := List.range (hgt P + 1)) (fun i : Nat => D.int ((hgt P - i : Nat) : Int))
    (fun dn ls H => ∃ v5, ls = [some (pcD false P J), some (.tup (P.map T)), some (.ref 0), some (.int ((wdt P + 1 : Nat) : Int)), some (.ref 1), v5, none] ∧ H[0]? = some (.dicN ((jp P J).map TT)) ∧ H[1]? = some (.lst ((List.range (min (2 * dn.length) (2 * hgt P + 1))).map fun r => D.str (grR P J r)))) ei (fun _ _ _ _ => rfl) ⟨_, rfl, rfl, rfl⟩ (by
      rintro dn i r ls H ed ⟨v5, rfl, h0, h1⟩
      obtain ⟨rfl, hi⟩ := range_at ed
      generalize hk : dn.length = k at *
      rw [show min (2 * k) (2 * hgt P + 1) = 2 * k by omega] at h1
      have app : ∀ (m : Nat) (H : Hd), m ≤ 1000 → H[1]? = some (.lst ((List.range m).map fun r => D.str (grR P J r))) → gAppend (.ref 1) [.str (grR P J m)] H = some (.non, H.set 1 (.lst ((List.range (m + 1)).map fun r => D.str (grR P J r)))) := fun m H hm e => by
        rw [gAppend_of e (by rw [List.length_map, List.length_range]; omega), List.range_succ, List.map_append]
        rfl
      obtain ⟨l1, e1⟩ := square_row_ok g h0 (show k ≤ hgt P by omega)
      have h1' : (H ++ l1)[1]? = some (.lst ((List.range (2 * k)).map fun r => D.str (grR P J r))) := hget_old h1
      have s1 : sDrop (mMet isL (mVar 4) (mCons (mAs (mCons (mVar 1) (mCons (mVar 2) (mCons (mVar 3) (mCons (mVar 5) mNil)))) (ar 4 c_square_row)) mNil) gAppend) [some (pcD false P J), some (.tup (P.map T)), some (.ref 0), some (.int ((wdt P + 1 : Nat) : Int)), some (.ref 1), some (.int ((hgt P - k : Nat) : Int)), none] H = some (.nx, _, (H ++ l1).set 1 (.lst ((List.range (2 * k + 1)).map fun r => D.str (grR P J r)))) :=
        sDrop_of (met_of (mVar_of rfl) (isL_of h1) (cons_of (call_of (cons_of (mVar_of rfl) (cons_of (mVar_of rfl) (cons_of (mVar_of rfl) (cons_of (mVar_of rfl) nil_of)))) rfl e1) nil_of) (app _ _ (by omega) h1'))
      have k0 : ((H ++ l1).set 1 (.lst ((List.range (2 * k + 1)).map fun r => D.str (grR P J r))))[0]? = some (.dicN ((jp P J).map TT)) := hset_ne (by decide) (hget_old h0)
      have k1 : ((H ++ l1).set 1 (.lst ((List.range (2 * k + 1)).map fun r => D.str (grR P J r))))[1]? = some (.lst ((List.range (2 * k + 1)).map fun r => D.str (grR P J r))) := hset_same h1'
      generalize (H ++ l1).set 1 (.lst ((List.range (2 * k + 1)).map fun r => D.str (grR P J r))) = H2 at s1 k0 k1
      have gt : mT (m2 (mVar 5) (mC (.int 0)) gGt) [some (pcD false P J), some (.tup (P.map T)), some (.ref 0), some (.int ((wdt P + 1 : Nat) : Int)), some (.ref 1), some (.int ((hgt P - k : Nat) : Int)), none] H2 = some (decide ((0 : Int) < ((hgt P - k : Nat) : Int)), H2) := mT_of (m2_ev (mVar_of rfl) mC_of gGt_int)
      by_cases c : k < hgt P
      · rw [decide_eq_true (by omega)] at gt
        obtain ⟨l2, e2⟩ := joint_row_ok g k0 c
        have k1' : (H2 ++ l2)[1]? = some (.lst ((List.range (2 * k + 1)).map fun r => D.str (grR P J r))) := hget_old k1
        refine ⟨_, _, _, asg_nm, .inl (sSeq_of s1 (sIf_t gt (sDrop_of (met_of (mVar_of rfl) (isL_of k1) (cons_of (call_of (cons_of (mVar_of rfl) (cons_of (mVar_of rfl) (cons_of (mVar_of rfl) nil_of))) rfl e2) nil_of) (app _ _ (by omega) k1'))))), _, rfl, hset_ne (by decide) (hget_old k0), ?_⟩
        rw [hset_same k1', List.length_append, List.length_singleton, hk, show min (2 * (k + 1)) (2 * hgt P + 1) = 2 * k + 1 + 1 by omega]
      · rw [decide_eq_false (by omega)] at gt
        refine ⟨_, _, _, asg_nm, .inl (sSeq_of s1 (sIf_f gt rfl)), _, rfl, k0, ?_⟩
        rw [k1, List.length_append, List.length_singleton, hk, show min (2 * (k + 1)) (2 * hgt P + 1) = 2 * k + 1 by omega])
  rw [List.length_range, show min (2 * (hgt P + 1)) (2 * hgt P + 1) = 2 * hgt P + 1 by omega] at h1
  have e5' : F1_show_piece [some (pcD false P J), some (.tup (P.map T)), some (.ref 0), some (.int ((wdt P + 1 : Nat) : Int)), some (.ref 1), none, none] [.dicN ((jp P J).map TT), .lst []] = _ := e5
  have gl : H'[1]? = some (.lst ((gridR P J).map D.str)) := by
    rw [h1, gridR_eq, List.map_map]
    rfl
  exact ⟨H', def_of (sSeq_of a1 (sSeq_of a2 (sSeq_of a3 (sSeq_of a4 (sSeq_of e5' (ret_of (mJoinO_of mC_of (mVar_of rfl) gl (grid_fit g))))))))⟩
theorem show_ok (hp : Hd) {P : List (List Int)} {J : List Sd} (h : Pce P J) (hl : P.length ≤ 60) (hJ : J.length ≤ 1000) : c_show_piece [pcD false P J] hp = some (.str (pcT P J), hp) := by
  obtain ⟨H, e⟩ := show_run h hl hJ
  exact cV_of (nrs_cons (nr_pcD _ _ _) rfl) e rfl
end Lw
namespace Lw
open PySem PySem.Spec L2 Ve
def E1_L_text : AE :=
    (mVar 7)
def C1_L_text : AA :=
    (mLc (mIS (mVar 1)) (.tp ((.nm 6) :: ((.nm 7) :: []))) [6, 7] tYesD E1_L_text)
def E2_L_text : AE :=
    (mVar 6)
def C2_L_text : AA :=
    (mLc (mIS (mVar 1)) (.tp ((.nm 6) :: ((.nm 7) :: []))) [6, 7] tYesD E2_L_text)
def E3_L_text : AE :=
    (mNew (mRep (mLst (mCons (mC (.str ".")) mNil)) (m2 (m2 (mC (.int 2)) (mVar 3) gMul) (mC (.int 1)) gAdd)))
def C3_L_text : AA :=
    (mLc (mR1 (mCons (m2 (m2 (mC (.int 2)) (mVar 4) gMul) (mC (.int 1)) gAdd) mNil)) (.nm 10) [10] tYesD E3_L_text)
def B1_L_text : AS :=
    (sStore (mC (.str "#")) (m2 (mVar 5) (m2 (mC (.int 2)) (m2 (mVar 4) (mVar 7) gSub) gMul) gIx) (m2 (mC (.int 2)) (mVar 6) gMul))
def F1_L_text : AS := (sForI (mIS (mVar 1)) (.tp ((.nm 6) :: ((.nm 7) :: []))) B1_L_text)
@[simp] def B2_L_text_1 : AS :=
    (sIf (mT (m2 (m2 (m2 (mVar 1) (mVar 9) gIx) (mC (.int 1)) gIx) (mVar 7) gEq)) (sStore (mC (.str "-")) (m2 (mVar 5) (m2 (mC (.int 2)) (m2 (mVar 4) (mVar 7) gSub) gMul) gIx) (m2 (m2 (mC (.int 2)) (mVar 6) gMul) (mC (.int 1)) gAdd)) (sStore (mC (.str "|")) (m2 (mVar 5) (m2 (m2 (mC (.int 2)) (m2 (mVar 4) (mVar 7) gSub) gMul) (mC (.int 1)) gSub) gIx) (m2 (mC (.int 2)) (mVar 6) gMul)))
def B2_L_text : AS :=
    sSeq (sAsg (.tp ((.nm 6) :: ((.nm 7) :: []))) (m2 (mVar 1) (mVar 8) gIx))
    B2_L_text_1
def F2_L_text : AS := (sForI (mIS (mVar 2)) (.tp ((.nm 8) :: ((.nm 9) :: []))) B2_L_text)
def E4_L_text : AE :=
    (mJoinO (mC (.str "")) (mVar 11))
def C4_L_text : AA :=
    (mLc (mIS (mVar 5)) (.nm 11) [11] tYesD E4_L_text)
@[simp] def b_L_text_5 : AS :=
    (sRet (mJoin (mC (.str "\n")) C4_L_text))
@[simp] def b_L_text_4 : AS :=
    sSeq F2_L_text
    b_L_text_5
@[simp] def b_L_text_3 : AS :=
    sSeq F1_L_text
    b_L_text_4
@[simp] def b_L_text_2 : AS :=
    sSeq (sSet 5 (mNew C3_L_text))
    b_L_text_3
@[simp] def b_L_text_1 : AS :=
    sSeq (sAsg (.tp ((.nm 3) :: ((.nm 4) :: []))) (mTup (mCons (mL C2_L_text gMaxL) (mCons (mL C1_L_text gMaxL) mNil))))
    b_L_text_2
def b_L_text : AS :=
    sSeq (sAsg (.tp ((.nm 1) :: ((.nm 2) :: []))) (mVar 0))
    b_L_text_1
def m_L_text : List D → Hd → Option (D × Hd) := mDef 12 b_L_text
def c_L_text := cV m_L_text
theorem con_L_text : Cl c_L_text m_L_text := cl_cV _
structure GS (R C : Nat) (F : Nat → Nat → Nat) (H : Hd) : Prop where
  row : ∀ r, r < R → H[r]? = some (.lst ((List.range C).map fun c => D.str (ch1 (F r c))))
  tab : H[R]? = some (.lst ((List.range R).map fun r => D.ref r))
def updF (F : Nat → Nat → Nat) (s : Sd) (n : Nat) : Nat → Nat → Nat := fun r c => if (r, c) = s then n else F r c
theorem GS.put {R C : Nat} {F : Nat → Nat → Nat} {H : Hd} (g : GS R C F H) {r c n : Nat} (hr : r < R) (hc : c < C) {ls : Ls} {er ec : AE} {s : Str} (hs : s = ch1 n) (h5 : ls[5]? = some (some (.ref R))) (e1 : er ls H = some (.int (r : Nat), H)) (e2 : ec ls H = some (.int (c : Nat), H)) :
    ∃ H', sStore (mC (.str s)) (m2 (mVar 5) er gIx) ec ls H = some (.nx, ls, H') ∧ GS R C (updF F (r, c) n) H' := by
  have gx : gIx (.ref R) (.int (r : Nat)) H = some (.ref r, H) := gIx_refN g.tab (by rw [List.getElem?_map, List.getElem?_range hr]; rfl)
  have gs := gSet_nat (v := .str s) (g.row r hr) (j := c) (by rw [List.length_map, List.length_range]; exact hc)
  refine ⟨_, sStore_of mC_of (m2_ev (mVar_of h5) e1 gx) e2 gs, fun q hq => ?_, hset_ne (by omega) g.tab⟩
  by_cases z : q = r
  · subst z
    rw [hset_same (g.row q hq)]
    congr 2
    refine List.ext_getElem? fun k => ?_
    by_cases hk : k < C
    · by_cases zc : k = c
      · subst zc
        rw [List.getElem?_set_self (by rw [List.length_map, List.length_range]; exact hk), List.getElem?_map, List.getElem?_range hk]
        show some (D.str s) = some (D.str (ch1 (updF F (q, k) n q k)))
        unfold updF
        rw [if_pos rfl, hs]
      · rw [List.getElem?_set_ne (Ne.symm zc), List.getElem?_map, List.getElem?_map, List.getElem?_range hk]
        show some (D.str (ch1 (F q k))) = some (D.str (ch1 (updF F (q, c) n q k)))
        unfold updF
        rw [if_neg (fun e => zc (congrArg Prod.snd e))]
    · rw [List.getElem?_eq_none (by rw [List.length_set, List.length_map, List.length_range]; omega), List.getElem?_eq_none (by rw [List.length_map, List.length_range]; omega)]
  · rw [List.getElem?_set_ne (Ne.symm z), g.row q hq]
    have ef : ∀ k, F q k = updF F (r, c) n q k := fun k => by
      unfold updF
      rw [if_neg (fun e => z (congrArg Prod.fst e))]
    rw [show F q = updF F (r, c) n q from funext ef]
theorem updF_eq {F G : Nat → Nat → Nat} {s : Sd} {n : Nat} (h : ∀ r c, (if (r, c) = s then n else F r c) = G r c) : updF F s n = G := funext fun r => funext fun c => h r c
def F1c (P d : List (List Int)) : Nat → Nat → Nat := fun r c => if (r, c) ∈ d.map (sqC P) then 35 else 46
def F2c (P : List (List Int)) (d : List Sd) : Nat → Nat → Nat := fun r c =>
  if (r, c) ∈ P.map (sqC P) then 35 else if (r, c) ∈ (d.filter fun p => hor P p).map (jnC P) then 45 else if (r, c) ∈ (d.filter fun p => !hor P p).map (jnC P) then 124 else 46
theorem F1c_step (P d : List (List Int)) (q : List Int) : updF (F1c P d) (sqC P q) 35 = F1c P (d ++ [q]) := updF_eq fun r c => by
  unfold F1c
  rw [List.map_append, List.map_singleton]
  by_cases z : (r, c) = sqC P q
  · rw [if_pos z, if_pos (List.mem_append_right _ (List.mem_singleton.mpr z))]
  · rw [if_neg z]
    by_cases y : (r, c) ∈ d.map (sqC P)
    · rw [if_pos y, if_pos (List.mem_append_left _ y)]
    · rw [if_neg y, if_neg]
      intro w
      rcases List.mem_append.mp w with w | w
      · exact y w
      · exact z (List.mem_singleton.mp w)
theorem F2c_hor {P : List (List Int)} {d : List Sd} {p : Sd} (hp : hor P p = true) (hn : jnC P p ∉ P.map (sqC P)) : updF (F2c P d) (jnC P p) 45 = F2c P (d ++ [p]) := updF_eq fun r c => by
  unfold F2c
  rw [List.filter_append, List.filter_append, List.filter_cons_of_pos (by exact hp), List.filter_cons_of_neg (by rw [hp]; decide), List.filter_nil, List.filter_nil, List.append_nil, List.map_append, List.map_singleton]
  by_cases z : (r, c) = jnC P p
  · rw [if_pos z, if_neg (by rw [z]; exact hn), if_pos (List.mem_append_right _ (List.mem_singleton.mpr z))]
  · rw [if_neg z]
    have e : ((r, c) ∈ (d.filter fun p => hor P p).map (jnC P) ++ [jnC P p]) = ((r, c) ∈ (d.filter fun p => hor P p).map (jnC P)) := propext ⟨fun w => by
      rcases List.mem_append.mp w with w | w
      · exact w
      · exact absurd (List.mem_singleton.mp w) z, fun w => List.mem_append_left _ w⟩
    simp only [e]
theorem F2c_ver {P : List (List Int)} {d : List Sd} {p : Sd} (hp : hor P p = false) (hn : jnC P p ∉ P.map (sqC P)) (hn2 : jnC P p ∉ (d.filter fun p => hor P p).map (jnC P)) : updF (F2c P d) (jnC P p) 124 = F2c P (d ++ [p]) := updF_eq fun r c => by
  unfold F2c
  rw [List.filter_append, List.filter_append, List.filter_cons_of_neg (by rw [hp]; decide), List.filter_cons_of_pos (by rw [hp]; rfl), List.filter_nil, List.filter_nil, List.append_nil, List.map_append, List.map_singleton]
  by_cases z : (r, c) = jnC P p
  · rw [if_pos z, if_neg (by rw [z]; exact hn), if_neg (by rw [z]; exact hn2), if_pos (List.mem_append_right _ (List.mem_singleton.mpr z))]
  · rw [if_neg z]
    have e : ((r, c) ∈ (d.filter fun p => !hor P p).map (jnC P) ++ [jnC P p]) = ((r, c) ∈ (d.filter fun p => !hor P p).map (jnC P)) := propext ⟨fun w => by
      rcases List.mem_append.mp w with w | w
      · exact w
      · exact absurd (List.mem_singleton.mp w) z, fun w => List.mem_append_left _ w⟩
    simp only [e]
theorem text_run {P : List (List Int)} {J : List Sd} (h : Pce P J) (hl : P.length ≤ 60) (hJ : J.length ≤ 1000) : ∃ H, m_L_text [pcD false P J] [] = some (.str (pcT P J), H) := by
  have g := gd_of h hl
  have big := g.big
  have hne := h.sq.ne
  have a1 : sAsg (.tp ((.nm 1) :: ((.nm 2) :: []))) (mVar 0) (stD 12 [pcD false P J]) [] = some (.nx, [some (pcD false P J), some (.tup (P.map T)), some (.tup ((J.map pI).map T)), none, none, none, none, none, none, none, none, none], []) := asg_of (mVar_of rfl) rfl
  have c1 := mLc_typed (fi := mIS (mVar 1)) (t := .tp ((.nm 6) :: ((.nm 7) :: []))) (own := [6, 7]) (tt := tYesD) (te := E1_L_text) (ls := [some (pcD false P J), some (.tup (P.map T)), some (.tup ((J.map pI).map T)), none, none, none, none, none, none, none, none, none]) (hp := []) (gd := []) T P (fun _ => true) (fun c => D.int (c.getD 1 0)) (mIS_tup (mVar_of rfl)) (by rw [sizeLine_eq]; omega) rfl (fun c hc => by
    obtain ⟨x, y, rfl⟩ := h.sq.two c hc
    exact ⟨_, rfl, rfl, fun _ => mVar_of rfl⟩)
  have c2 := mLc_typed (fi := mIS (mVar 1)) (t := .tp ((.nm 6) :: ((.nm 7) :: []))) (own := [6, 7]) (tt := tYesD) (te := E2_L_text) (ls := [some (pcD false P J), some (.tup (P.map T)), some (.tup ((J.map pI).map T)), none, none, none, none, none, none, none, none, none]) (hp := []) (gd := []) T P (fun _ => true) (fun c => D.int (c.getD 0 0)) (mIS_tup (mVar_of rfl)) (by rw [sizeLine_eq]; omega) rfl (fun c hc => by
    obtain ⟨x, y, rfl⟩ := h.sq.two c hc
    exact ⟨_, rfl, rfl, fun _ => mVar_of rfl⟩)
  rw [List.filter_eq_self.mpr fun _ _ => rfl] at c1 c2
  have a2 := asg_of (t := .tp ((.nm 3) :: ((.nm 4) :: []))) (tup_of (cons_of ((mL_of (show C2_L_text _ _ = _ from c2)).trans (gMaxL_mxA hne 0)) (cons_of ((mL_of (show C1_L_text _ _ = _ from c1)).trans (gMaxL_mxA hne 1)) nil_of)) (Nat.le_of_ble_eq_true rfl)) (ls1 := [some (pcD false P J), some (.tup (P.map T)), some (.tup ((J.map pI).map T)), some (.int (mxA P 0)), some (.int (mxA P 1)), none, none, none, none, none, none, none]) rfl
  rw [g.w1, g.h1] at a2
  have er : ∀ (H : Hd), m2 (m2 (mC (.int 2)) (mVar 4) gMul) (mC (.int 1)) gAdd [some (pcD false P J), some (.tup (P.map T)), some (.tup ((J.map pI).map T)), some (.int ((wdt P : Nat) : Int)), some (.int ((hgt P : Nat) : Int)), none, none, none, none, none, none, none] H = some (.int ((2 * hgt P + 1 : Nat) : Int), H) := fun H => by
    refine (m2_ev (m2_ev mC_of (mVar_of rfl) (gMul_int (cMul_of (.inl (by omega))))) mC_of gAdd_int).trans ?_
    rw [show (2 : Int) * ((hgt P : Nat) : Int) + 1 = ((2 * hgt P + 1 : Nat) : Int) by omega]
  obtain ⟨out, H3, e3, ho, hr, hlen⟩ := mLc_pre (fi := mR1 (mCons (m2 (m2 (mC (.int 2)) (mVar 4) gMul) (mC (.int 1)) gAdd) mNil)) (t := .nm 10) (own := [10]) (te := E3_L_text) (gd := []) (items := List.range (2 * hgt P + 1)) (ls := [some (pcD false P J), some (.tup (P.map T)), some (.tup ((J.map pI).map T)), some (.int ((wdt P : Nat) : Int)), some (.int ((hgt P : Nat) : Int)), none, none, none, none, none, none, none]) (hp := []) (hp1 := []) (fun i : Nat => D.int (i : Nat))
    (fun d o H => o = (List.range d.length).map D.ref ∧ (∀ r, r < d.length → H[r]? = some (.lst ((List.range (2 * wdt P + 1)).map fun c => D.str (ch1 (F1c P [] r c))))) ∧ H.length = d.length) (mR1_nat (j := 2 * hgt P + 1) (cons_of (er _) nil_of) (by omega)) (by rw [List.length_range, sizeLine_eq]; omega) (fun _ _ _ _ => rfl) ⟨rfl, fun r hr => absurd hr (Nat.not_lt_zero _), rfl⟩ (by
      rintro d x r o H ed ⟨rfl, hr, hlen⟩
      have ew : m2 (m2 (mC (.int 2)) (mVar 3) gMul) (mC (.int 1)) gAdd [some (pcD false P J), some (.tup (P.map T)), some (.tup ((J.map pI).map T)), some (.int ((wdt P : Nat) : Int)), some (.int ((hgt P : Nat) : Int)), none, none, none, none, none, some (.int (x : Nat)), none] H = some (.int ((2 * wdt P + 1 : Nat) : Int), H) := by
        refine (m2_ev (m2_ev mC_of (mVar_of rfl) (gMul_int (cMul_of (.inl (by omega))))) mC_of gAdd_int).trans ?_
        rw [show (2 : Int) * ((wdt P : Nat) : Int) + 1 = ((2 * wdt P + 1 : Nat) : Int) by omega]
      have em : mRep (mLst (mCons (mC (.str ".")) mNil)) (m2 (m2 (mC (.int 2)) (mVar 3) gMul) (mC (.int 1)) gAdd) [some (pcD false P J), some (.tup (P.map T)), some (.tup ((J.map pI).map T)), some (.int ((wdt P : Nat) : Int)), some (.int ((hgt P : Nat) : Int)), none, none, none, none, none, some (.int (x : Nat)), none] H = some ((List.range (2 * wdt P + 1)).map (fun c => D.str (ch1 46)), H) := by
        rw [mRep_s, show mLst (mCons (mC (.str ".")) mNil) _ H = some ([.str "."], H) from lst_of (cons_of mC_of nil_of) (Nat.le_of_ble_eq_true rfl)]
        dsimp only
        rw [ew]
        dsimp only
        rw [if_pos (by rw [List.length_singleton, sizeLine_eq]; omega)]
        congr 2
        rw [show (((2 * wdt P + 1 : Nat) : Int)).toNat = 2 * wdt P + 1 by omega]
        have : ∀ m : Nat, (List.replicate m [D.str "."]).flatten = (List.range m).map fun _ => D.str (ch1 46) := fun m => by
          induction m with
          | zero => rfl
          | succ m ih =>
            rw [List.replicate_succ', List.flatten_append, ih, List.range_succ, List.map_append]
            rfl
        exact this _
      refine ⟨_, _, _, asg_nm, mNew_of em, ?_, fun r hr2 => ?_, by rw [List.length_append, List.length_append, hlen]; rfl⟩
      · rw [List.length_append, List.length_singleton, List.range_succ, List.map_append, hlen]; rfl
      · rw [List.length_append, List.length_singleton] at hr2
        rcases Nat.lt_or_ge r d.length with z | z
        · exact hget_old (hr r z)
        · obtain rfl : r = d.length := by omega
          rw [← hlen, hget_new]
          rfl)
  rw [List.length_range] at ho hr hlen
  have a3 := sSet_of (i := 5) (mNew_of (show C3_L_text _ _ = _ from e3))
  rw [hlen] at a3
  have g0 : GS (2 * hgt P + 1) (2 * wdt P + 1) (F1c P []) (H3 ++ [.lst out]) := ⟨fun r hr2 => hget_old (hr r hr2), by
    have := hget_new (hp := H3) (o := .lst out)
    rw [hlen, ho] at this
    rw [ho]
    exact this⟩
  obtain ⟨ls1, H4, e4, v6, v7, rfl, g4⟩ := sForI_pre (fi := mIS (mVar 1)) (t := .tp ((.nm 6) :: ((.nm 7) :: []))) (b := B1_L_text) (gd := []) (items := P) (ls := [some (pcD false P J), some (.tup (P.map T)), some (.tup ((J.map pI).map T)), some (.int ((wdt P : Nat) : Int)), some (.int ((hgt P : Nat) : Int)), some (.ref (2 * hgt P + 1)), none, none, none, none, none, none]) (hp := H3 ++ [.lst out]) (hp1 := H3 ++ [.lst out]) T
    (fun d ls H => ∃ v6 v7, ls = [some (pcD false P J), some (.tup (P.map T)), some (.tup ((J.map pI).map T)), some (.int ((wdt P : Nat) : Int)), some (.int ((hgt P : Nat) : Int)), some (.ref (2 * hgt P + 1)), v6, v7, none, none, none, none] ∧ GS (2 * hgt P + 1) (2 * wdt P + 1) (F1c P d) H) (mIS_tup (mVar_of rfl)) (fun _ _ _ _ => rfl) ⟨_, _, rfl, g0⟩ (by
      rintro d q r ls H ed ⟨v6, v7, rfl, gs⟩
      obtain ⟨a, b, rfl, ha, hb⟩ := g.co q (by rw [ed]; simp)
      obtain ⟨H', e, gs'⟩ := gs.put (r := 2 * (hgt P - b)) (c := 2 * a) (n := 35) (s := "#") (ls := [some (pcD false P J), some (.tup (P.map T)), some (.tup ((J.map pI).map T)), some (.int ((wdt P : Nat) : Int)), some (.int ((hgt P : Nat) : Int)), some (.ref (2 * hgt P + 1)), some (.int (a : Nat)), some (.int (b : Nat)), none, none, none, none]) (er := m2 (mC (.int 2)) (m2 (mVar 4) (mVar 7) gSub) gMul) (ec := m2 (mC (.int 2)) (mVar 6) gMul) (by omega) (by omega) (by decide) rfl
        ((m2_ev mC_of (m2_ev (mVar_of rfl) (mVar_of rfl) gSub_int) (gMul_int (cMul_of (.inl (by omega))))).trans (by rw [show (2 : Int) * ((hgt P : Nat) - (b : Nat)) = ((2 * (hgt P - b) : Nat) : Int) by omega]))
        ((m2_ev mC_of (mVar_of rfl) (gMul_int (cMul_of (.inl (by omega))))).trans (by rw [show (2 : Int) * ((a : Nat) : Int) = ((2 * a : Nat) : Int) by omega]))
      refine ⟨_, _, _, rfl, .inl e, _, _, rfl, ?_⟩
      rw [← F1c_step]
      exact gs')
  have e4' : F1_L_text _ _ = _ := e4
  have f0 : F1c P P = F2c P [] := funext fun r => funext fun c => by
    unfold F1c F2c
    by_cases z : (r, c) ∈ P.map (sqC P)
    · rw [if_pos z, if_pos z]
    · rw [if_neg z, if_neg z, if_neg (by simp), if_neg (by simp)]
  rw [f0] at g4
  obtain ⟨ls2, H5, e5, w6, w7, w8, w9, rfl, g5⟩ := sForI_pre (fi := mIS (mVar 2)) (t := .tp ((.nm 8) :: ((.nm 9) :: []))) (b := B2_L_text) (gd := []) (items := J) (ls := [some (pcD false P J), some (.tup (P.map T)), some (.tup ((J.map pI).map T)), some (.int ((wdt P : Nat) : Int)), some (.int ((hgt P : Nat) : Int)), some (.ref (2 * hgt P + 1)), v6, v7, none, none, none, none]) (hp := H4) (hp1 := H4) (fun p : Sd => T (pI p))
    (fun d ls H => ∃ v6 v7 v8 v9, ls = [some (pcD false P J), some (.tup (P.map T)), some (.tup ((J.map pI).map T)), some (.int ((wdt P : Nat) : Int)), some (.int ((hgt P : Nat) : Int)), some (.ref (2 * hgt P + 1)), v6, v7, v8, v9, none, none] ∧ GS (2 * hgt P + 1) (2 * wdt P + 1) (F2c P d) H) (by
      rw [show (J.map fun p => T (pI p)) = (J.map pI).map T by rw [List.map_map]; rfl]
      exact mIS_tup (mVar_of rfl)) (fun _ _ _ _ => rfl) ⟨_, _, _, _, rfl, g4⟩ (by
      rintro d p r ls H ed ⟨v6, v7, v8, v9, rfl, gs⟩
      have hp : p ∈ J := by rw [ed]; simp
      obtain ⟨⟨h1, h2⟩, _⟩ := h.ok p hp
      obtain ⟨a, b, ea, ⟨hA, hB⟩, hh⟩ := g.jt p hp
      have q1 := gIx_sq (hp := H) (show p.1 < P.length by omega)
      have q2 := gIx_sq (hp := H) h2
      rw [ea] at q1
      have s1 : sAsg (.tp ((.nm 6) :: ((.nm 7) :: []))) (m2 (mVar 1) (mVar 8) gIx) [some (pcD false P J), some (.tup (P.map T)), some (.tup ((J.map pI).map T)), some (.int ((wdt P : Nat) : Int)), some (.int ((hgt P : Nat) : Int)), some (.ref (2 * hgt P + 1)), v6, v7, some (.int ((p.1 : Nat) : Int)), some (.int ((p.2 : Nat) : Int)), none, none] H = some (.nx, [some (pcD false P J), some (.tup (P.map T)), some (.tup ((J.map pI).map T)), some (.int ((wdt P : Nat) : Int)), some (.int ((hgt P : Nat) : Int)), some (.ref (2 * hgt P + 1)), some (.int (a : Nat)), some (.int (b : Nat)), some (.int ((p.1 : Nat) : Int)), some (.int ((p.2 : Nat) : Int)), none, none], H) := asg_of (m2_ev (mVar_of rfl) (mVar_of rfl) q1) rfl
      have mA : [(a : Int), (b : Int)] ∈ P := by rw [← ea]; exact sqA_mem (by omega)
      rcases hh with ⟨eb, hw⟩ | ⟨eb, hw⟩
      · obtain ⟨k1, k2⟩ := hor_t ea eb
        rw [eb] at q2
        have gt : mT (m2 (m2 (m2 (mVar 1) (mVar 9) gIx) (mC (.int 1)) gIx) (mVar 7) gEq) [some (pcD false P J), some (.tup (P.map T)), some (.tup ((J.map pI).map T)), some (.int ((wdt P : Nat) : Int)), some (.int ((hgt P : Nat) : Int)), some (.ref (2 * hgt P + 1)), some (.int (a : Nat)), some (.int (b : Nat)), some (.int ((p.1 : Nat) : Int)), some (.int ((p.2 : Nat) : Int)), none, none] H = some (true, H) := by
          refine mT_of ((m2_ev (m2_ev (m2_ev (mVar_of rfl) (mVar_of rfl) q2) mC_of (gIx_tup (j := 1) rfl)) (mVar_of rfl) gEq_int).trans ?_)
          rw [beq_self_eq_true]
        obtain ⟨H', e, gs'⟩ := gs.put (r := 2 * (hgt P - b)) (c := 2 * a + 1) (n := 45) (s := "-") (ls := [some (pcD false P J), some (.tup (P.map T)), some (.tup ((J.map pI).map T)), some (.int ((wdt P : Nat) : Int)), some (.int ((hgt P : Nat) : Int)), some (.ref (2 * hgt P + 1)), some (.int (a : Nat)), some (.int (b : Nat)), some (.int ((p.1 : Nat) : Int)), some (.int ((p.2 : Nat) : Int)), none, none]) (er := m2 (mC (.int 2)) (m2 (mVar 4) (mVar 7) gSub) gMul) (ec := m2 (m2 (mC (.int 2)) (mVar 6) gMul) (mC (.int 1)) gAdd) (by omega) (by omega) (by decide) rfl
          ((m2_ev mC_of (m2_ev (mVar_of rfl) (mVar_of rfl) gSub_int) (gMul_int (cMul_of (.inl (by omega))))).trans (by rw [show (2 : Int) * ((hgt P : Nat) - (b : Nat)) = ((2 * (hgt P - b) : Nat) : Int) by omega]))
          ((m2_ev (m2_ev mC_of (mVar_of rfl) (gMul_int (cMul_of (.inl (by omega))))) mC_of gAdd_int).trans (by rw [show (2 : Int) * ((a : Nat) : Int) + 1 = ((2 * a + 1 : Nat) : Int) by omega]))
        refine ⟨_, _, _, rfl, .inl (sSeq_of s1 (sIf_t gt e)), _, _, _, _, rfl, ?_⟩
        rw [← F2c_hor k1 (by
          rw [k2]
          intro z
          obtain ⟨q, _, eq⟩ := List.mem_map.mp z
          injection eq with _ eq2
          omega), k2]
        exact gs'
      · obtain ⟨k1, k2⟩ := hor_f ea eb
        rw [eb] at q2
        have gt : mT (m2 (m2 (m2 (mVar 1) (mVar 9) gIx) (mC (.int 1)) gIx) (mVar 7) gEq) [some (pcD false P J), some (.tup (P.map T)), some (.tup ((J.map pI).map T)), some (.int ((wdt P : Nat) : Int)), some (.int ((hgt P : Nat) : Int)), some (.ref (2 * hgt P + 1)), some (.int (a : Nat)), some (.int (b : Nat)), some (.int ((p.1 : Nat) : Int)), some (.int ((p.2 : Nat) : Int)), none, none] H = some (false, H) := by
          refine mT_of ((m2_ev (m2_ev (m2_ev (mVar_of rfl) (mVar_of rfl) q2) mC_of (gIx_tup (j := 1) rfl)) (mVar_of rfl) gEq_int).trans ?_)
          rw [show (((b : Int) + 1) == ((b : Nat) : Int)) = false by rw [beq_eq_false_iff_ne]; omega]
        obtain ⟨H', e, gs'⟩ := gs.put (r := 2 * (hgt P - b) - 1) (c := 2 * a) (n := 124) (s := "|") (ls := [some (pcD false P J), some (.tup (P.map T)), some (.tup ((J.map pI).map T)), some (.int ((wdt P : Nat) : Int)), some (.int ((hgt P : Nat) : Int)), some (.ref (2 * hgt P + 1)), some (.int (a : Nat)), some (.int (b : Nat)), some (.int ((p.1 : Nat) : Int)), some (.int ((p.2 : Nat) : Int)), none, none]) (er := m2 (m2 (mC (.int 2)) (m2 (mVar 4) (mVar 7) gSub) gMul) (mC (.int 1)) gSub) (ec := m2 (mC (.int 2)) (mVar 6) gMul) (by omega) (by omega) (by decide) rfl
          ((m2_ev (m2_ev mC_of (m2_ev (mVar_of rfl) (mVar_of rfl) gSub_int) (gMul_int (cMul_of (.inl (by omega))))) mC_of gSub_int).trans (by rw [show (2 : Int) * ((hgt P : Nat) - (b : Nat)) - 1 = ((2 * (hgt P - b) - 1 : Nat) : Int) by omega]))
          ((m2_ev mC_of (mVar_of rfl) (gMul_int (cMul_of (.inl (by omega))))).trans (by rw [show (2 : Int) * ((a : Nat) : Int) = ((2 * a : Nat) : Int) by omega]))
        refine ⟨_, _, _, rfl, .inl (sSeq_of s1 (sIf_f gt e)), _, _, _, _, rfl, ?_⟩
        rw [← F2c_ver k1 (by
          rw [k2]
          intro z
          obtain ⟨q, _, eq⟩ := List.mem_map.mp z
          injection eq with eq1 _
          have eq1 : 2 * (hgt P - (q.getD 1 0).toNat) = 2 * (hgt P - b) - 1 := eq1
          omega) (by
          rw [k2]
          intro z
          have z2 : (2 * (hgt P - b) - 1, 2 * a) ∈ (J.filter fun p => hor P p).map (jnC P) := by
            obtain ⟨q, hq, eq⟩ := List.mem_map.mp z
            obtain ⟨hq1, hq2⟩ := List.mem_filter.mp hq
            exact List.mem_map.mpr ⟨q, List.mem_filter.mpr ⟨by rw [ed]; exact List.mem_append_left _ hq1, hq2⟩, eq⟩
          obtain ⟨a', b', _, _, _, e3⟩ := (mem_hor g).mp z2
          omega), k2]
        exact gs')
  have e5' : F2_L_text _ _ = _ := e5
  have fJ : F2c P J = gch P J := rfl
  rw [fJ] at g5
  have c4 := mLc_typed (fi := mIS (mVar 5)) (t := .nm 11) (own := [11]) (tt := tYesD) (te := E4_L_text) (ls := [some (pcD false P J), some (.tup (P.map T)), some (.tup ((J.map pI).map T)), some (.int ((wdt P : Nat) : Int)), some (.int ((hgt P : Nat) : Int)), some (.ref (2 * hgt P + 1)), w6, w7, w8, w9, none, none]) (hp := H5) D.ref (List.range (2 * hgt P + 1)) (fun _ => true) (fun r => D.str (grR P J r)) (mIS_ref (mVar_of rfl) g5.tab) (by rw [List.length_range, sizeLine_eq]; omega) (gdOk1 g5.tab) (fun r hr => by
    refine ⟨_, asg_nm, rfl, fun _ => ?_⟩
    have gl : H5[r]? = some (.lst (((List.range (2 * wdt P + 1)).map fun c => ch1 (gch P J r c)).map D.str)) := by
      rw [g5.row r (List.mem_range.mp hr), List.map_map]
      rfl
    have ej := mJoinO_of (fo := mC (.str "")) (fa := mVar 11) (ls := [some (pcD false P J), some (.tup (P.map T)), some (.tup ((J.map pI).map T)), some (.int ((wdt P : Nat) : Int)), some (.int ((hgt P : Nat) : Int)), some (.ref (2 * hgt P + 1)), w6, w7, w8, w9, none, some (.ref r)]) mC_of (mVar_of rfl) gl (join1_fit _ (by omega) (by decide))
    rw [join_ch1] at ej
    exact ej)
  rw [List.filter_eq_self.mpr fun _ _ => rfl] at c4
  have c4' : C4_L_text [some (pcD false P J), some (.tup (P.map T)), some (.tup ((J.map pI).map T)), some (.int ((wdt P : Nat) : Int)), some (.int ((hgt P : Nat) : Int)), some (.ref (2 * hgt P + 1)), w6, w7, w8, w9, none, none] H5 = some ((gridR P J).map D.str, H5) := by
    refine Eq.trans c4 ?_
    rw [gridR_eq, List.map_map]
    rfl
  exact ⟨H5, def_of (sSeq_of a1 (sSeq_of a2 (sSeq_of a3 (sSeq_of e4' (sSeq_of e5' (ret_of (mJoin_of mC_of c4' (grid_fit g))))))))⟩
theorem text_ok (hp : Hd) {P : List (List Int)} {J : List Sd} (h : Pce P J) (hl : P.length ≤ 60) (hJ : J.length ≤ 1000) : c_L_text [pcD false P J] hp = some (.str (pcT P J), hp) := by
  obtain ⟨H, e⟩ := text_run h hl hJ
  exact cV_of (nrs_cons (nr_pcD _ _ _) rfl) e rfl
end Lw
namespace Lw
open PySem PySem.Spec L2 Ve
def E1_is_row : AE :=
    (m2 (mVar 4) (m2 (m2 (mC k_SIGNS) (m2 (mVar 1) (mC (.int 2)) gMod) gIx) (m2 (mVar 3) (mC (.int 2)) gMod) gIx) gIn)
def C1_is_row : AA :=
    (mLc (mEnumS (mVar 0)) (.tp ((.nm 3) :: ((.nm 4) :: []))) [3, 4] tYesD E1_is_row)
@[simp] def b_is_row_1 : AS :=
    (sRet (mL C1_is_row gAll))
def b_is_row : AS :=
    sSeq (sIf (mOr (mT (m2 (mAs (mCons (mVar 0) mNil) gLen) (mC (.int 0)) gEq)) (mT (m2 (mAs (mCons (mVar 0) mNil) gLen) (mVar 2) gNe))) (sRet (mC (.bl false))) sNext)
    b_is_row_1
def m_is_row : List D → Hd → Option (D × Hd) := mDef 5 b_is_row
abbrev c_is_row := m_is_row
theorem gIn_s {n : Nat} {s : Str} (h : (!(Builtin.Str.occurrences s (ch1 n) 0 s.length 1).isEmpty) = true) (hp : Hd) : gIn (.str (ch1 n)) (.str s) hp = some (.bl true, hp) := by
  show (match (some (!(Builtin.Str.occurrences s (ch1 n) 0 s.length 1).isEmpty)) with | some b => some (D.bl b, hp) | none => none) = _
  rw [h]
theorem sgn_in {P : List (List Int)} {J : List Sd} (g : Gd P J) (r c : Nat) (hr : r ≤ 2 * hgt P) (hp : Hd) : ∃ z : D, gIx k_SIGNS (.int ((r % 2 : Nat) : Int)) hp = some (z, hp) ∧ ∃ s : D, gIx z (.int ((c % 2 : Nat) : Int)) hp = some (s, hp) ∧ gIn (.str (ch1 (gch P J r c))) s hp = some (.bl true, hp) := by
  have hr2 : r % 2 = 0 ∨ r % 2 = 1 := by omega
  have hc2 : c % 2 = 0 ∨ c % 2 = 1 := by omega
  rcases hr2 with a | a <;> rcases hc2 with b | b
  · have e := gch_ee g (d := r / 2) (x := c / 2) (by omega)
    rw [show 2 * (r / 2) = r by omega, show 2 * (c / 2) = c by omega] at e
    rw [e, a, b]
    refine ⟨_, rfl, _, rfl, ?_⟩
    by_cases q : [((c / 2 : Nat) : Int), ((hgt P - r / 2 : Nat) : Int)] ∈ P
    · rw [if_pos q]; exact gIn_s (by decide +kernel) hp
    · rw [if_neg q]; exact gIn_s (by decide +kernel) hp
  · have e := gch_eo g (d := r / 2) (x := c / 2) (by omega)
    rw [show 2 * (r / 2) = r by omega, show 2 * (c / 2) + 1 = c by omega] at e
    rw [e, a, b]
    refine ⟨_, rfl, _, rfl, ?_⟩
    by_cases q : [[((c / 2 : Nat) : Int), ((hgt P - r / 2 : Nat) : Int)], [((c / 2 : Nat) : Int) + 1, ((hgt P - r / 2 : Nat) : Int)]] ∈ jp P J
    · rw [if_pos q]; exact gIn_s (by decide +kernel) hp
    · rw [if_neg q]; exact gIn_s (by decide +kernel) hp
  · have e := gch_oe g (d := r / 2) (x := c / 2) (by omega)
    rw [show 2 * (r / 2) + 1 = r by omega, show 2 * (c / 2) = c by omega] at e
    rw [e, a, b]
    refine ⟨_, rfl, _, rfl, ?_⟩
    by_cases q : [[((c / 2 : Nat) : Int), ((hgt P - r / 2 : Nat) : Int) - 1], [((c / 2 : Nat) : Int), ((hgt P - r / 2 : Nat) : Int)]] ∈ jp P J
    · rw [if_pos q]; exact gIn_s (by decide +kernel) hp
    · rw [if_neg q]; exact gIn_s (by decide +kernel) hp
  · have e := gch_oo g (d := r / 2) (x := c / 2)
    rw [show 2 * (r / 2) + 1 = r by omega, show 2 * (c / 2) + 1 = c by omega] at e
    rw [e, a, b]
    exact ⟨_, rfl, _, rfl, gIn_s (by decide +kernel) hp⟩
theorem enum_rwN (f : Nat → Nat) (w : Nat) : enumD (sgnD (rwN f w)) = (List.range w).map fun x => D.tup [.int (x : Nat), .str (ch1 (f x))] := by
  rw [sgn_rwN, enumD_range]
theorem is_row_ok {P : List (List Int)} {J : List Sd} (g : Gd P J) (r : Nat) (hr : r ≤ 2 * hgt P) (hp : Hd) : m_is_row [.str (grR P J r), .int (r : Nat), .int ((2 * wdt P + 1 : Nat) : Int)] hp = some (.bl true, hp) := by
  have big := g.big
  have gl : gLen [.str (grR P J r)] hp = some (.int ((2 * wdt P + 1 : Nat) : Int), hp) := by
    have hl : (grR P J r).length = 2 * wdt P + 1 := rwN_len _ _
    show (if (grR P J r).length ≤ sizeLine then some (D.int ((grR P J r).length : Nat), hp) else none) = _
    rw [hl, if_pos (by rw [sizeLine_eq]; omega)]
  have g1 : mT (m2 (mAs (mCons (mVar 0) mNil) gLen) (mC (.int 0)) gEq) [some (.str (grR P J r)), some (.int (r : Nat)), some (.int ((2 * wdt P + 1 : Nat) : Int)), none, none] hp = some (false, hp) := by
    refine mT_of ((m2_ev (as_of (cons_of (mVar_of rfl) nil_of) gl) mC_of gEq_int).trans ?_)
    rw [show (((2 * wdt P + 1 : Nat) : Int) == 0) = false by rw [beq_eq_false_iff_ne]; omega]
  have g2 : mT (m2 (mAs (mCons (mVar 0) mNil) gLen) (mVar 2) gNe) [some (.str (grR P J r)), some (.int (r : Nat)), some (.int ((2 * wdt P + 1 : Nat) : Int)), none, none] hp = some (false, hp) := by
    refine mT_of ((m2_ev (as_of (cons_of (mVar_of rfl) nil_of) gl) (mVar_of rfl) gNe_int).trans ?_)
    rw [beq_self_eq_true]
    rfl
  have el := mLc_typed (fi := mEnumS (mVar 0)) (t := .tp ((.nm 3) :: ((.nm 4) :: []))) (own := [3, 4]) (tt := tYesD) (te := E1_is_row) (ls := [some (.str (grR P J r)), some (.int (r : Nat)), some (.int ((2 * wdt P + 1 : Nat) : Int)), none, none]) (hp := hp) (gd := []) (fun c : Nat => D.tup [.int (c : Nat), .str (ch1 (gch P J r c))]) (List.range (2 * wdt P + 1)) (fun _ => true) (fun _ => D.bl true) (by rw [← enum_rwN]; exact mEnumS_of (mVar_of rfl)) (by rw [List.length_range, sizeLine_eq]; omega) rfl (fun c hc => by
    obtain ⟨z, e1, s, e2, e3⟩ := sgn_in g r c hr hp
    exact ⟨_, rfl, rfl, fun _ => m2_ev (mVar_of rfl) (m2_ev (m2_ev mC_of (m2_ev (mVar_of rfl) mC_of (gMod_int (by decide))) e1) (m2_ev (mVar_of rfl) mC_of (gMod_int (by decide))) e2) e3⟩)
  rw [List.filter_eq_self.mpr fun _ _ => rfl] at el
  have ga : gAll ((List.range (2 * wdt P + 1)).map fun _ => D.bl true) hp = some (.bl true, hp) := (gAll_map (fun _ => true) _ hp).trans (by rw [List.all_eq_true.mpr (fun _ _ => rfl)])
  exact def_of (sSeq_of (sIf_f (or_f g1 g2) rfl) (ret_of ((mL_of el).trans ga)))
@[simp] def B1_told_by_1 : AS :=
    (sIf (mT (m2 (mVar 7) (mC (.str "#")) gEqS)) (sDrop (mMet isL (mVar 1) (mCons (mTup (mCons (mVar 8) (mCons (mVar 5) mNil))) mNil) gAppend)) (sIf (mT (m2 (mVar 7) (mC (.str "-")) gEqS)) (sDrop (mMet isL (mVar 2) (mCons (mTup (mCons (mTup (mCons (mVar 8) (mCons (mVar 5) mNil))) (mCons (mTup (mCons (m2 (mVar 8) (mC (.int 1)) gAdd) (mCons (mVar 5) mNil))) mNil))) mNil) gAppend)) (sIf (mT (m2 (mVar 7) (mC (.str "|")) gEqS)) (sDrop (mMet isL (mVar 2) (mCons (mTup (mCons (mTup (mCons (mVar 8) (mCons (mVar 5) mNil))) (mCons (mTup (mCons (mVar 8) (mCons (m2 (mVar 5) (mC (.int 1)) gAdd) mNil))) mNil))) mNil) gAppend)) sNext)))
def B1_told_by : AS :=
    sSeq (sSet 8 (m2 (mVar 6) (mC (.int 2)) gDiv))
    B1_told_by_1
def F1_told_by : AS := (sForI (mEnumS (mVar 4)) (.tp ((.nm 6) :: ((.nm 7) :: []))) B1_told_by)
@[simp] def B2_told_by_1 : AS :=
    F1_told_by
def B2_told_by : AS :=
    sSeq (sSet 5 (m2 (m2 (m2 (mAs (mCons (mVar 0) mNil) gLen) (mC (.int 1)) gSub) (mVar 3) gSub) (mC (.int 2)) gDiv))
    B2_told_by_1
def F2_told_by : AS := (sForI (mEnum (mVar 0)) (.tp ((.nm 3) :: ((.nm 4) :: []))) B2_told_by)
@[simp] def b_told_by_2 : AS :=
    (sRet (mTup (mCons (mNew (mSorted (mVar 1))) (mCons (mNew (mSorted (mVar 2))) mNil))))
@[simp] def b_told_by_1 : AS :=
    sSeq F2_told_by
    b_told_by_2
def b_told_by : AS :=
    sSeq (sPar 1 2 (mCons (mNew (mLst mNil)) (mCons (mNew (mLst mNil)) mNil)))
    b_told_by_1
def m_told_by : List D → Hd → Option (D × Hd) := mDef 9 b_told_by
abbrev c_told_by := m_told_by
def tCl (P : List (List Int)) (J : List Sd) (r c : Nat) : List (List Int) := if gch P J r c = 35 then [[((c / 2 : Nat) : Int), (((2 * hgt P - r) / 2 : Nat) : Int)]] else []
def jCl (P : List (List Int)) (J : List Sd) (r c : Nat) : List (List (List Int)) :=
  if gch P J r c = 45 then [[[((c / 2 : Nat) : Int), (((2 * hgt P - r) / 2 : Nat) : Int)], [((c / 2 : Nat) : Int) + 1, (((2 * hgt P - r) / 2 : Nat) : Int)]]]
  else if gch P J r c = 124 then [[[((c / 2 : Nat) : Int), (((2 * hgt P - r) / 2 : Nat) : Int)], [((c / 2 : Nat) : Int), (((2 * hgt P - r) / 2 : Nat) : Int) + 1]]] else []
def tRw (P : List (List Int)) (J : List Sd) (r n : Nat) : List (List Int) := (List.range n).flatMap (tCl P J r)
def jRw (P : List (List Int)) (J : List Sd) (r n : Nat) : List (List (List Int)) := (List.range n).flatMap (jCl P J r)
def tAl (P : List (List Int)) (J : List Sd) (n : Nat) : List (List Int) := (List.range n).flatMap fun r => tRw P J r (2 * wdt P + 1)
def jAl (P : List (List Int)) (J : List Sd) (n : Nat) : List (List (List Int)) := (List.range n).flatMap fun r => jRw P J r (2 * wdt P + 1)
theorem flat_le {α : Type} {f : Nat → List α} {k : Nat} (h : ∀ r, (f r).length ≤ k) : ∀ n, ((List.range n).flatMap f).length ≤ n * k
  | 0 => by simp
  | n + 1 => by
    have := flat_le h n
    rw [List.range_succ, List.flatMap_append, List.length_append, List.flatMap_singleton, Nat.succ_mul]
    have := h n
    omega
theorem tRw_len (P : List (List Int)) (J : List Sd) (r n : Nat) : (tRw P J r n).length ≤ n := by
  have := flat_le (f := tCl P J r) (k := 1) (fun c => by unfold tCl; split <;> simp) n
  unfold tRw
  omega
theorem jRw_len (P : List (List Int)) (J : List Sd) (r n : Nat) : (jRw P J r n).length ≤ n := by
  have := flat_le (f := jCl P J r) (k := 1) (fun c => by
    unfold jCl
    split
    · simp
    · split <;> simp) n
  unfold jRw
  omega
theorem tAl_len (P : List (List Int)) (J : List Sd) (n : Nat) : (tAl P J n).length ≤ n * (2 * wdt P + 1) := flat_le (fun r => tRw_len P J r _) n
theorem jAl_len (P : List (List Int)) (J : List Sd) (n : Nat) : (jAl P J n).length ≤ n * (2 * wdt P + 1) := flat_le (fun r => jRw_len P J r _) n
theorem gch_vals (P : List (List Int)) (J : List Sd) (r c : Nat) : gch P J r c = 35 ∨ gch P J r c = 45 ∨ gch P J r c = 124 ∨ gch P J r c = 46 := by
  unfold gch
  split
  · exact .inl rfl
  · split
    · exact .inr (.inl rfl)
    · split
      · exact .inr (.inr (.inl rfl))
      · exact .inr (.inr (.inr rfl))
theorem eqS_ch (a b : Nat) (s : Str) (hs : s = ch1 b) (hp : Hd) : gEqS (.str (ch1 a)) (.str s) hp = some (.bl (decide (a = b)), hp) := by
  subst hs
  unfold gEqS
  dsimp only
  congr 3
  by_cases h : a = b
  · subst h
    simp
  · rw [decide_eq_false h]
    have : ch1 a ≠ ch1 b := fun e => h (by
      have := congrArg TL.tl e
      rw [tl_ch1, tl_ch1] at this
      injection this)
    simp [this]
abbrev LT (n : Nat) (v3 v4 v5 v6 v7 v8 : Option D) (A : Nat) : Ls := [some (.ref n), some (.ref A), some (.ref (A + 1)), v3, v4, v5, v6, v7, v8]
theorem told_row {P : List (List Int)} {J : List Sd} (g : Gd P J) {n A r : Nat} {H : Hd} {t0 : List (List Int)} {j0 : List (List (List Int))} {v6 v7 v8 : Option D} (hr : r ≤ 2 * hgt P) (hA : H[A]? = some (.lst (t0.map T))) (hB : H[A + 1]? = some (.lst (j0.map TT))) (ht : t0.length ≤ 100000) (hj : j0.length ≤ 100000) :
    ∃ (H' : Hd) (w6 w7 w8 : Option D), F1_told_by (LT n (some (.int (r : Nat))) (some (.str (grR P J r))) (some (.int (((2 * hgt P - r) / 2 : Nat) : Int))) v6 v7 v8 A) H = some (.nx, LT n (some (.int (r : Nat))) (some (.str (grR P J r))) (some (.int (((2 * hgt P - r) / 2 : Nat) : Int))) w6 w7 w8 A, H') ∧ H'[A]? = some (.lst ((t0 ++ tRw P J r (2 * wdt P + 1)).map T)) ∧ H'[A + 1]? = some (.lst ((j0 ++ jRw P J r (2 * wdt P + 1)).map TT)) ∧ ∀ k, k ≠ A → k ≠ A + 1 → H'[k]? = H[k]? := by
  have big := g.big
  obtain ⟨ls', H', e, w6, w7, w8, rfl, h1, h2, h3⟩ := sForI_pre (fi := mEnumS (mVar 4)) (t := .tp ((.nm 6) :: ((.nm 7) :: []))) (b := B1_told_by) (gd := []) (items := List.range (2 * wdt P + 1)) (ls := LT n (some (.int (r : Nat))) (some (.str (grR P J r))) (some (.int (((2 * hgt P - r) / 2 : Nat) : Int))) v6 v7 v8 A) (hp := H) (hp1 := H) (fun c : Nat => D.tup [.int (c : Nat), .str (ch1 (gch P J r c))])
    (fun d ls G => ∃ v6 v7 v8, ls = LT n (some (.int (r : Nat))) (some (.str (grR P J r))) (some (.int (((2 * hgt P - r) / 2 : Nat) : Int))) v6 v7 v8 A ∧ G[A]? = some (.lst ((t0 ++ tRw P J r d.length).map T)) ∧ G[A + 1]? = some (.lst ((j0 ++ jRw P J r d.length).map TT)) ∧ ∀ k, k ≠ A → k ≠ A + 1 → G[k]? = H[k]?) (by rw [← enum_rwN]; exact mEnumS_of (mVar_of rfl)) (fun _ _ _ _ => rfl) ⟨_, _, _, rfl, by rw [hA]; simp [tRw], by rw [hB]; simp [jRw], fun _ _ _ => rfl⟩ (by
      rintro d c q ls G ed ⟨v6, v7, v8, rfl, h1, h2, h3⟩
      obtain ⟨rfl, hc⟩ := range_at ed
      generalize hdl : d.length = c at *
      have e8 : sSet 8 (m2 (mVar 6) (mC (.int 2)) gDiv) (LT n (some (.int (r : Nat))) (some (.str (grR P J r))) (some (.int (((2 * hgt P - r) / 2 : Nat) : Int))) (some (.int (c : Nat))) (some (.str (ch1 (gch P J r c)))) v8 A) G = some (.nx, LT n (some (.int (r : Nat))) (some (.str (grR P J r))) (some (.int (((2 * hgt P - r) / 2 : Nat) : Int))) (some (.int (c : Nat))) (some (.str (ch1 (gch P J r c)))) (some (.int ((c / 2 : Nat) : Int))) A, G) := sSet_of (m2_ev (mVar_of rfl) mC_of (gDiv_int (cDiv_of ⟨by decide, by decide⟩)))
      have st : tRw P J r (c + 1) = tRw P J r c ++ tCl P J r c := by
        unfold tRw
        rw [List.range_succ, List.flatMap_append, List.flatMap_singleton]
      have sj : jRw P J r (c + 1) = jRw P J r c ++ jCl P J r c := by
        unfold jRw
        rw [List.range_succ, List.flatMap_append, List.flatMap_singleton]
      have lt := tRw_len P J r c
      have lj := jRw_len P J r c
      have q1 := fun (b : Nat) (s : Str) (hs : s = ch1 b) => mT_of (m2_ev (fa := mVar 7) (fb := mC (.str s)) (g := gEqS) (ls := LT n (some (.int (r : Nat))) (some (.str (grR P J r))) (some (.int (((2 * hgt P - r) / 2 : Nat) : Int))) (some (.int (c : Nat))) (some (.str (ch1 (gch P J r c)))) (some (.int ((c / 2 : Nat) : Int))) A) (hp := G) (mVar_of rfl) mC_of (eqS_ch (gch P J r c) b s hs G))
      have q35 := q1 35 "#" (by decide)
      have q45 := q1 45 "-" (by decide)
      have q124 := q1 124 "|" (by decide)
      rw [List.length_append, List.length_singleton]
      have gx := gch_vals P J r c
      by_cases z35 : gch P J r c = 35
      · have ct : tCl P J r c = [[((c / 2 : Nat) : Int), (((2 * hgt P - r) / 2 : Nat) : Int)]] := by unfold tCl; rw [if_pos z35]
        have cj : jCl P J r c = [] := by unfold jCl; rw [if_neg (by omega), if_neg (by omega)]
        rw [decide_eq_true z35] at q35
        refine ⟨_, _, _, rfl, .inl (sSeq_of e8 (sIf_t q35 (sDrop_of (met_of (mVar_of rfl) (isL_of h1) (cons_of (tup_of (cons_of (mVar_of rfl) (cons_of (mVar_of rfl) nil_of)) (Nat.le_of_ble_eq_true rfl)) nil_of) (gAppend_of h1 (by rw [List.length_map, List.length_append]; omega)))))), _, _, _, rfl, ?_, ?_, fun k k1 k2 => ?_⟩
        · rw [hset_same h1, hdl, st, ct, ← List.append_assoc, List.map_append (l₁ := t0 ++ tRw P J r c)]
          rfl
        · rw [List.getElem?_set_ne (by omega), h2, hdl, sj, cj, List.append_nil]
        · rw [List.getElem?_set_ne (Ne.symm k1)]
          exact h3 k k1 k2
      · have ct : tCl P J r c = [] := by unfold tCl; rw [if_neg z35]
        rw [decide_eq_false z35] at q35
        by_cases z45 : gch P J r c = 45
        · have cj : jCl P J r c = [[[((c / 2 : Nat) : Int), (((2 * hgt P - r) / 2 : Nat) : Int)], [((c / 2 : Nat) : Int) + 1, (((2 * hgt P - r) / 2 : Nat) : Int)]]] := by unfold jCl; rw [if_pos z45]
          rw [decide_eq_true z45] at q45
          refine ⟨_, _, _, rfl, .inl (sSeq_of e8 (sIf_f q35 (sIf_t q45 (sDrop_of (met_of (mVar_of rfl) (isL_of h2) (cons_of (tup_of (cons_of (tup_of (cons_of (mVar_of rfl) (cons_of (mVar_of rfl) nil_of)) (Nat.le_of_ble_eq_true rfl)) (cons_of (tup_of (cons_of (m2_ev (mVar_of rfl) mC_of gAdd_int) (cons_of (mVar_of rfl) nil_of)) (Nat.le_of_ble_eq_true rfl)) nil_of)) (Nat.le_of_ble_eq_true rfl)) nil_of) (gAppend_of h2 (by rw [List.length_map, List.length_append]; omega))))))), _, _, _, rfl, ?_, ?_, fun k k1 k2 => ?_⟩
          · rw [List.getElem?_set_ne (by omega), h1, hdl, st, ct, List.append_nil]
          · rw [hset_same h2, hdl, sj, cj, ← List.append_assoc, List.map_append (l₁ := j0 ++ jRw P J r c)]
            rfl
          · rw [List.getElem?_set_ne (Ne.symm k2)]
            exact h3 k k1 k2
        · rw [decide_eq_false z45] at q45
          by_cases z124 : gch P J r c = 124
          · have cj : jCl P J r c = [[[((c / 2 : Nat) : Int), (((2 * hgt P - r) / 2 : Nat) : Int)], [((c / 2 : Nat) : Int), (((2 * hgt P - r) / 2 : Nat) : Int) + 1]]] := by unfold jCl; rw [if_neg z45, if_pos z124]
            rw [decide_eq_true z124] at q124
            refine ⟨_, _, _, rfl, .inl (sSeq_of e8 (sIf_f q35 (sIf_f q45 (sIf_t q124 (sDrop_of (met_of (mVar_of rfl) (isL_of h2) (cons_of (tup_of (cons_of (tup_of (cons_of (mVar_of rfl) (cons_of (mVar_of rfl) nil_of)) (Nat.le_of_ble_eq_true rfl)) (cons_of (tup_of (cons_of (mVar_of rfl) (cons_of (m2_ev (mVar_of rfl) mC_of gAdd_int) nil_of)) (Nat.le_of_ble_eq_true rfl)) nil_of)) (Nat.le_of_ble_eq_true rfl)) nil_of) (gAppend_of h2 (by rw [List.length_map, List.length_append]; omega)))))))), _, _, _, rfl, ?_, ?_, fun k k1 k2 => ?_⟩
            · rw [List.getElem?_set_ne (by omega), h1, hdl, st, ct, List.append_nil]
            · rw [hset_same h2, hdl, sj, cj, ← List.append_assoc, List.map_append (l₁ := j0 ++ jRw P J r c)]
              rfl
            · rw [List.getElem?_set_ne (Ne.symm k2)]
              exact h3 k k1 k2
          · have cj : jCl P J r c = [] := by unfold jCl; rw [if_neg z45, if_neg z124]
            rw [decide_eq_false z124] at q124
            refine ⟨_, _, _, rfl, .inl (sSeq_of e8 (sIf_f q35 (sIf_f q45 (sIf_f q124 rfl)))), _, _, _, rfl, ?_, ?_, h3⟩
            · rw [h1, hdl, st, ct, List.append_nil]
            · rw [h2, hdl, sj, cj, List.append_nil])
  rw [List.length_range] at h1 h2
  exact ⟨H', w6, w7, w8, e, h1, h2, h3⟩
theorem told_run {P : List (List Int)} {J : List Sd} (g : Gd P J) {n : Nat} {H0 : Hd} (gn : H0[n]? = some (.lst ((gridR P J).map D.str))) :
    ∃ H', m_told_by [.ref n] H0 = some (.tup [.ref H'.length, .ref (H'.length + 1)], H' ++ [.lst ((sortC (tAl P J (2 * hgt P + 1))).map T)] ++ [.lst ((sortT (jAl P J (2 * hgt P + 1))).map TT)]) ∧ ∀ k, k < H0.length → H'[k]? = H0[k]? := by
  have big := g.big
  have hn := hlt gn
  have s0 : sPar 1 2 (mCons (mNew (mLst mNil)) (mCons (mNew (mLst mNil)) mNil)) (stD 9 [.ref n]) H0 = some (.nx, LT n none none none none none none H0.length, H0 ++ [.lst []] ++ [.lst []]) := by
    show some _ = _
    rw [List.length_append, List.length_singleton]
    rfl
  have ig : enumD ((gridR P J).map D.str) = (List.range (2 * hgt P + 1)).map fun r => D.tup [.int (r : Nat), .str (grR P J r)] := by
    rw [gridR_eq, List.map_map, enumD_range]
    rfl
  have gl : gLen [.ref n] (H0 ++ [O.lst []] ++ [O.lst []]) = gLen [.ref n] (H0 ++ [O.lst []] ++ [O.lst []]) := rfl
  obtain ⟨ls', H', e, w3, w4, w5, w6, w7, w8, rfl, h1, h2, h3⟩ := sForI_pre (fi := mEnum (mVar 0)) (t := .tp ((.nm 3) :: ((.nm 4) :: []))) (b := B2_told_by) (gd := [(n, (gridR P J).map D.str)]) (items := List.range (2 * hgt P + 1)) (ls := LT n none none none none none none H0.length) (hp := H0 ++ [.lst []] ++ [.lst []]) (hp1 := H0 ++ [.lst []] ++ [.lst []]) (fun r : Nat => D.tup [.int (r : Nat), .str (grR P J r)])
    (fun d ls G => ∃ v3 v4 v5 v6 v7 v8, ls = LT n v3 v4 v5 v6 v7 v8 H0.length ∧ G[H0.length]? = some (.lst ((tAl P J d.length).map T)) ∧ G[H0.length + 1]? = some (.lst ((jAl P J d.length).map TT)) ∧ ∀ k, k < H0.length → G[k]? = H0[k]?) (by rw [← ig]; exact mEnum_ref (mVar_of rfl) (hget_old (hget_old gn))) (fun d ls G h => by
      obtain ⟨_, _, _, _, _, _, _, _, _, h3⟩ := h
      exact gdOk1 ((h3 n hn).trans gn)) ⟨_, _, _, _, _, _, rfl, hget_old hget_new, by
      have := hget_new (hp := H0 ++ [O.lst []]) (o := .lst [])
      rw [List.length_append, List.length_singleton] at this
      exact this, fun k hk => by rw [List.append_assoc, List.getElem?_append_left hk]⟩ (by
      rintro d r q ls G ed ⟨v3, v4, v5, v6, v7, v8, rfl, h1, h2, h3⟩
      obtain ⟨rfl, hr⟩ := range_at ed
      generalize hdl : d.length = r at *
      have e5 : sSet 5 (m2 (m2 (m2 (mAs (mCons (mVar 0) mNil) gLen) (mC (.int 1)) gSub) (mVar 3) gSub) (mC (.int 2)) gDiv) (LT n (some (.int (r : Nat))) (some (.str (grR P J r))) v5 v6 v7 v8 H0.length) G = some (.nx, LT n (some (.int (r : Nat))) (some (.str (grR P J r))) (some (.int (((2 * hgt P - r) / 2 : Nat) : Int))) v6 v7 v8 H0.length, G) := by
        have g1 : gLen [.ref n] G = some (.int ((2 * hgt P + 1 : Nat) : Int), G) := by
          rw [gLen_lst ((h3 n hn).trans gn)]
          unfold gridR
          rw [List.length_map, List.length_map, List.length_range]
        refine sSet_of ((m2_ev (m2_ev (m2_ev (as_of (cons_of (mVar_of rfl) nil_of) g1) mC_of gSub_int) (mVar_of rfl) gSub_int) mC_of (gDiv_int (cDiv_of ⟨by decide, by decide⟩))).trans ?_)
        rw [show (((2 * hgt P + 1 : Nat) : Int) - 1 - ((r : Nat) : Int)) / 2 = (((2 * hgt P - r) / 2 : Nat) : Int) by omega]
      have lt := tAl_len P J r
      have lj := jAl_len P J r
      have lb : r * (2 * wdt P + 1) ≤ 129 * 129 := Nat.mul_le_mul (by omega) (by omega)
      obtain ⟨G', w6, w7, w8, e6, k1, k2, k3⟩ := told_row g (n := n) (v6 := v6) (v7 := v7) (v8 := v8) (show r ≤ 2 * hgt P by omega) h1 h2 (by omega) (by omega)
      refine ⟨_, _, _, rfl, .inl (sSeq_of e5 e6), _, _, _, _, _, _, rfl, ?_, ?_, fun k hk => ?_⟩
      · rw [List.length_append, List.length_singleton, hdl]
        have : tAl P J (r + 1) = tAl P J r ++ tRw P J r (2 * wdt P + 1) := by
          unfold tAl
          rw [List.range_succ, List.flatMap_append, List.flatMap_singleton]
        rw [this]
        exact k1
      · rw [List.length_append, List.length_singleton, hdl]
        have : jAl P J (r + 1) = jAl P J r ++ jRw P J r (2 * wdt P + 1) := by
          unfold jAl
          rw [List.range_succ, List.flatMap_append, List.flatMap_singleton]
        rw [this]
        exact k2
      · rw [k3 k (by omega) (by omega)]
        exact h3 k hk)
  rw [List.length_range] at h1 h2
  have e' : F2_told_by _ _ = _ := e
  have s1 : mSorted (mVar 1) (LT n w3 w4 w5 w6 w7 w8 H0.length) H' = some ((sortC (tAl P J (2 * hgt P + 1))).map T, H') := by
    rw [mSorted_s, mVar_of (d := .ref H0.length) rfl]
    dsimp only
    show gSrtO (.ref H0.length) H' = _
    unfold gSrtO seqOfL lstOf
    dsimp only
    rw [h1]
    dsimp only
    exact gSrt_T fun c hc => by
      obtain ⟨r, _, hc⟩ := List.mem_flatMap.mp hc
      obtain ⟨k, _, hc⟩ := List.mem_flatMap.mp hc
      unfold tCl at hc
      split at hc
      · rw [List.mem_singleton.mp hc]; simp
      · cases hc
  have h2' : (H' ++ [O.lst ((sortC (tAl P J (2 * hgt P + 1))).map T)])[H0.length + 1]? = some (.lst ((jAl P J (2 * hgt P + 1)).map TT)) := hget_old h2
  have s2 : mSorted (mVar 2) (LT n w3 w4 w5 w6 w7 w8 H0.length) (H' ++ [O.lst ((sortC (tAl P J (2 * hgt P + 1))).map T)]) = some ((sortT (jAl P J (2 * hgt P + 1))).map TT, H' ++ [O.lst ((sortC (tAl P J (2 * hgt P + 1))).map T)]) := by
    rw [mSorted_s, mVar_of (d := .ref (H0.length + 1)) rfl]
    dsimp only
    show gSrtO (.ref (H0.length + 1)) _ = _
    unfold gSrtO seqOfL lstOf
    dsimp only
    rw [h2']
    dsimp only
    exact gSrt_TT fun c hc => by
      obtain ⟨r, _, hc⟩ := List.mem_flatMap.mp hc
      obtain ⟨k, _, hc⟩ := List.mem_flatMap.mp hc
      unfold jCl at hc
      split at hc
      · rw [List.mem_singleton.mp hc]; simp
      · split at hc
        · rw [List.mem_singleton.mp hc]; simp
        · cases hc
  have er := tup_of (cons_of (mNew_of s1) (cons_of (mNew_of s2) nil_of)) (Nat.le_of_ble_eq_true rfl)
  rw [List.length_append, List.length_singleton] at er
  exact ⟨H', def_of (sSeq_of s0 (sSeq_of e' (ret_of er))), h3⟩
end Lw
namespace Lw
open PySem PySem.Spec L2 Ve
def b_is_whole : AS :=
    (sRet (mAndV (mIsi "int" (mVar 0)) (mNotV (mIsi "bool" (mVar 0)))))
def m_is_whole : List D → Hd → Option (D × Hd) := mDef 1 b_is_whole
abbrev c_is_whole := m_is_whole
def E1_is_pair : AE :=
    (mAs (mCons (mVar 1) mNil) (ar 1 c_is_whole))
def C1_is_pair : AA :=
    (mLc (mIS (mVar 0)) (.nm 1) [1] tYesD E1_is_pair)
def b_is_pair : AS :=
    (sRet (mAndV (mIsi "tuple" (mVar 0)) (mAndV (m2 (mAs (mCons (mVar 0) mNil) gLen) (mC (.int 2)) gEq) (mL C1_is_pair gAll))))
def m_is_pair : List D → Hd → Option (D × Hd) := mDef 2 b_is_pair
def c_is_pair := cV m_is_pair
theorem con_is_pair : Cl c_is_pair m_is_pair := cl_cV _
theorem pairP_ok (hp : Hd) (x y : Int) : c_is_pair [T [x, y]] hp = some (.bl true, hp) := by
  have em : m_is_pair [T [x, y]] [] = some (.bl true, []) := by kernel_rfl
  exact cV_of (nrs_cons (nr_T _) rfl) em rfl
def E1_are_rising : AE :=
    (m2 (mVar 1) (mVar 2) gLt)
def C1_are_rising : AA :=
    (mLc (mZip (mVar 0) (mSl (mVar 0) (some (mC (.int 1))) none)) (.tp ((.nm 1) :: ((.nm 2) :: []))) [1, 2] tYesD E1_are_rising)
def b_are_rising : AS :=
    (sRet (mL C1_are_rising gAll))
def m_are_rising : List D → Hd → Option (D × Hd) := mDef 3 b_are_rising
def c_are_rising := cV m_are_rising
theorem con_are_rising : Cl c_are_rising m_are_rising := cl_cV _
theorem rising_ok (hp : Hd) (w : Bool) (l : List (List Int)) (hl : l.length ≤ 100000) (h : w = false ∨ l ≠ []) : c_are_rising [tw w (l.map T)] hp = some (.bl (risB l), hp) := by
  have es := mSl_one (fa := mVar 0) (ls := [some (tw w (l.map T)), none, none]) (hp := []) (mVar_of rfl) h
  have ez := mZip_tw (fa := mVar 0) (ls := [some (tw w (l.map T)), none, none]) (hp := []) (mVar_of rfl) es
  rw [zipD_T] at ez
  have el := mLc_typed (t := .tp ((.nm 1) :: ((.nm 2) :: []))) (own := [1, 2]) (tt := tYesD) (te := E1_are_rising) (ls := [some (tw w (l.map T)), none, none]) (hp := []) (fun p : List Int × List Int => D.tup [T p.1, T p.2]) (l.zip (l.drop 1)) (fun _ => true) (fun p => D.bl (decide (p.1 < p.2))) ez (by rw [List.length_zip, sizeLine_eq]; omega) rfl (fun p _ => ⟨_, rfl, rfl, fun _ => by
    unfold E1_are_rising
    rw [m2_of (mVar_of (d := T p.1) rfl) (mVar_of (d := T p.2) rfl), gLt_T]⟩)
  rw [List.filter_eq_self.mpr (fun _ _ => rfl)] at el
  have em : m_are_rising [tw w (l.map T)] [] = some (.bl (risB l), []) := def_of (ret_of ((mL_of el).trans (gAll_map _ _ _)))
  exact cV_of (nrs_cons (nr_tw (nrs_T _)) rfl) em rfl
@[simp] def b_towards_2 : AS :=
    (sRet (mMet isW (mC k_STEPS) (mCons (mVar 2) mNil) gTIdx))
@[simp] def b_towards_1 : AS :=
    sSeq (sIf (mT (m2 (mVar 2) (mC k_STEPS) gNotIn)) (sRet (mC .non)) sNext)
    b_towards_2
def b_towards : AS :=
    sSeq (sSet 2 (mTup (mCons (m2 (m2 (mVar 1) (mC (.int 0)) gIx) (m2 (mVar 0) (mC (.int 0)) gIx) gSub) (mCons (m2 (m2 (mVar 1) (mC (.int 1)) gIx) (m2 (mVar 0) (mC (.int 1)) gIx) gSub) mNil))))
    b_towards_1
def m_towards : List D → Hd → Option (D × Hd) := mDef 3 b_towards
def c_towards := cV m_towards
theorem con_towards : Cl c_towards m_towards := cl_cV _
theorem inB_steps {hp : Hd} (a : List Int) : inB (T a) k_STEPS hp = some (decide (a ∈ SSt)) := by
  have h1 : inB (T a) k_STEPS hp = inL hp (T a) (SSt.map T) := rfl
  rw [h1, inL_T]
  congr 1
  rw [Bool.eq_iff_iff, decide_eq_true_eq, List.any_eq_true]
  constructor
  · rintro ⟨b, hb, e⟩
    rw [← (beq_iff_eq.mp e)]
    exact hb
  · exact fun h => ⟨a, h, beq_self_eq_true _⟩
theorem idx_steps {hp : Hd} {a : List Int} (h : a ∈ SSt) : gTIdx k_STEPS [T a] hp = some (.int (SSt.idxOf a : Nat), hp) := by
  have h1 : gTIdx k_STEPS [T a] hp = gTIdx (.tup (SSt.map T)) [T a] hp := rfl
  rw [h1]
  exact gTIdx_tw (w := false) h
theorem towards_ok (hp : Hd) (x y x' y' : Int) : c_towards [T [x, y], T [x', y']] hp = some (if Sbs [x, y] [x', y'] then .int (twK [x, y] [x', y'] : Nat) else .non, hp) := by
  have a1 : sSet 2 (mTup (mCons (m2 (m2 (mVar 1) (mC (.int 0)) gIx) (m2 (mVar 0) (mC (.int 0)) gIx) gSub) (mCons (m2 (m2 (mVar 1) (mC (.int 1)) gIx) (m2 (mVar 0) (mC (.int 1)) gIx) gSub) mNil))) [some (T [x, y]), some (T [x', y']), none] [] = some (.nx, [some (T [x, y]), some (T [x', y']), some (T [x' - x, y' - y])], []) :=
    sSet_of (tup_of (cons_of (m2_ev (m2_ev (mVar_of rfl) mC_of (gIx_tup (j := 0) rfl)) (m2_ev (mVar_of rfl) mC_of (gIx_tup (j := 0) rfl)) gSub_int) (cons_of (m2_ev (m2_ev (mVar_of rfl) mC_of (gIx_tup (j := 1) rfl)) (m2_ev (mVar_of rfl) mC_of (gIx_tup (j := 1) rfl)) gSub_int) nil_of)) (Nat.le_of_ble_eq_true rfl))
  have gn : gNotIn (T [x' - x, y' - y]) k_STEPS [] = some (.bl (!decide ([x' - x, y' - y] ∈ SSt)), []) := by
    unfold gNotIn
    rw [inB_steps]
  have em : m_towards [T [x, y], T [x', y']] [] = some (if Sbs [x, y] [x', y'] then .int (twK [x, y] [x', y'] : Nat) else .non, []) := by
    have hs : Sbs [x, y] [x', y'] ↔ [x' - x, y' - y] ∈ SSt := Iff.rfl
    by_cases c : [x' - x, y' - y] ∈ SSt
    · rw [decide_eq_true c] at gn
      rw [if_pos (hs.mpr c)]
      exact def_of (sSeq_of a1 (sSeq_of (sIf_f (mT_of (m2_ev (mVar_of rfl) mC_of gn)) rfl) (ret_of (met_of mC_of rfl (cons_of (mVar_of rfl) nil_of) (idx_steps c)))))
    · rw [decide_eq_false c] at gn
      rw [if_neg (fun z => c (hs.mp z))]
      exact def_of (sSeq_of a1 (seq_ret (sIf_t (mT_of (m2_ev (mVar_of rfl) mC_of gn)) (ret_of mC_of))))
  exact cV_of (nrs_cons (nr_T _) (nrs_cons (nr_T _) rfl)) em (by split <;> rfl)
theorem towards_at (hp : Hd) {P : List (List Int)} (h2 : Two P) {a b : Nat} (ha : a < P.length) (hb : b < P.length) : c_towards [T (sqA P a), T (sqA P b)] hp = some (if Sbs (sqA P a) (sqA P b) then .int (twK (sqA P a) (sqA P b) : Nat) else .non, hp) := by
  have q : ∀ {i}, i < P.length → ∃ x y : Int, sqA P i = [x, y] := fun {i} hi => h2 _ (by unfold sqA; rw [List.getD_eq_getElem?_getD, List.getElem?_eq_getElem hi]; exact List.getElem_mem hi)
  obtain ⟨x, y, e⟩ := q ha
  obtain ⟨x', y', e'⟩ := q hb
  rw [e, e']
  exact towards_ok hp x y x' y'
def E1_neighbours : AE :=
    (mNew (mLst mNil))
def C1_neighbours : AA :=
    (mLc (mIS (mVar 1)) (.nm 7) [7] tYesD E1_neighbours)
@[simp] def B1_neighbours_2 : AS :=
    (sDrop (mMet isL (m2 (mVar 3) (mVar 5) gIx) (mCons (mTup (mCons (mVar 4) (mCons (m2 (m2 (mVar 6) (mC (.int 2)) gAdd) (mC (.int 4)) gMod) mNil))) mNil) gAppend))
@[simp] def B1_neighbours_1 : AS :=
    sSeq (sDrop (mMet isL (m2 (mVar 3) (mVar 4) gIx) (mCons (mTup (mCons (mVar 5) (mCons (mVar 6) mNil))) mNil) gAppend))
    B1_neighbours_2
def B1_neighbours : AS :=
    sSeq (sSet 6 (mAs (mCons (m2 (mVar 1) (mVar 4) gIx) (mCons (m2 (mVar 1) (mVar 5) gIx) mNil)) (ar 2 c_towards)))
    B1_neighbours_1
def F1_neighbours : AS := (sForI (mIS (mVar 2)) (.tp ((.nm 4) :: ((.nm 5) :: []))) B1_neighbours)
@[simp] def b_neighbours_3 : AS :=
    (sRet (mVar 3))
@[simp] def b_neighbours_2 : AS :=
    sSeq F1_neighbours
    b_neighbours_3
@[simp] def b_neighbours_1 : AS :=
    sSeq (sSet 3 (mNew C1_neighbours))
    b_neighbours_2
def b_neighbours : AS :=
    sSeq (sAsg (.tp ((.nm 1) :: ((.nm 2) :: []))) (mVar 0))
    b_neighbours_1
def m_neighbours : List D → Hd → Option (D × Hd) := mDef 8 b_neighbours
abbrev c_neighbours := m_neighbours
theorem neighbours_run (hp : Hd) (w : Bool) {P : List (List Int)} {J : List Sd} (h2 : Two P) (hj : JointsOk P J) (hn : P.length ≤ 1000) (hl : J.length ≤ 10000) :
    ∃ H, m_neighbours [.tup [tw w (P.map T), .tup (J.map fun p => T (pI p))]] hp = some (.ref (hp.length + P.length), H) ∧ Nbs hp.length P.length H (ngb P J) ∧ H.length = hp.length + P.length + 1 ∧ ∀ k, k < hp.length → H[k]? = hp[k]? := by
  have a0 := asg_of (t := .tp ((.nm 1) :: ((.nm 2) :: []))) (fa := mVar 0) (ls := [some (.tup [tw w (P.map T), .tup (J.map fun p => T (pI p))]), none, none, none, none, none, none, none]) (hp := hp) (mVar_of rfl) rfl
  obtain ⟨out, H1, e1, ho, hH⟩ := mLc_pre (fi := mIS (mVar 1)) (t := .nm 7) (own := [7]) (te := E1_neighbours) (gd := []) (items := P) (hp := hp) (hp1 := hp)
    (ls := [some (.tup [tw w (P.map T), .tup (J.map fun p => T (pI p))]), some (tw w (P.map T)), some (.tup (J.map fun p => T (pI p))), none, none, none, none, none]) T
    (fun d out H => out = (List.range d.length).map (fun f => D.ref (hp.length + f)) ∧ H = hp ++ List.replicate d.length (.lst []))
    (mIS_tw (mVar_of rfl)) (by rw [sizeLine_eq]; omega) (fun _ _ _ _ => rfl) ⟨rfl, by simp⟩ (by
      rintro d f r out H ed ⟨rfl, rfl⟩
      have en := mNew_of (fl := mLst mNil) (ls := (wipeL [some (.tup [tw w (P.map T), .tup (J.map fun p => T (pI p))]), some (tw w (P.map T)), some (.tup (J.map fun p => T (pI p))), none, none, none, none, none] [7]).set 7 (some (T f))) (hp := hp ++ List.replicate d.length (.lst [])) (ds := []) (hp' := hp ++ List.replicate d.length (.lst [])) rfl
      rw [List.length_append, List.length_replicate] at en
      refine ⟨_, .ref (hp.length + d.length), _, asg_nm, en, ?_, ?_⟩
      · rw [List.length_append, List.length_singleton, List.range_succ, List.map_append]
        simp
      · rw [List.length_append, List.length_singleton, List.replicate_succ', List.append_assoc])
  subst ho hH
  have a2 : sSet 3 (mNew C1_neighbours) [some (.tup [tw w (P.map T), .tup (J.map fun p => T (pI p))]), some (tw w (P.map T)), some (.tup (J.map fun p => T (pI p))), none, none, none, none, none] hp = some (.nx, [some (.tup [tw w (P.map T), .tup (J.map fun p => T (pI p))]), some (tw w (P.map T)), some (.tup (J.map fun p => T (pI p))), some (.ref (hp.length + P.length)), none, none, none, none], (hp ++ List.replicate P.length (.lst [])) ++ [.lst ((List.range P.length).map fun f => D.ref (hp.length + f))]) := by
    have := mNew_of (fl := C1_neighbours) e1
    rw [List.length_append, List.length_replicate] at this
    exact sSet_of this
  have s0 : Nbs hp.length P.length ((hp ++ List.replicate P.length (.lst [])) ++ [.lst ((List.range P.length).map fun f => D.ref (hp.length + f))]) (ngb P []) := by
    refine ⟨?_, fun f hf => ?_⟩
    · have := hget_new (hp := hp ++ List.replicate P.length (.lst [])) (o := .lst ((List.range P.length).map fun f => D.ref (hp.length + f)))
      rwa [List.length_append, List.length_replicate] at this
    · refine hget_old ?_
      rw [List.getElem?_append_right (by omega), Nat.add_sub_cancel_left, List.getElem?_replicate, if_pos hf]
      rfl
  have l0 : ((hp ++ List.replicate P.length (O.lst [])) ++ [O.lst ((List.range P.length).map fun f => D.ref (hp.length + f))]).length = hp.length + P.length + 1 := by simp; omega
  have k0 : ∀ k, k < hp.length → ((hp ++ List.replicate P.length (O.lst [])) ++ [O.lst ((List.range P.length).map fun f => D.ref (hp.length + f))])[k]? = hp[k]? := fun k hk => by
    rw [List.append_assoc, List.getElem?_append_left hk]
  generalize (hp ++ List.replicate P.length (O.lst [])) ++ [O.lst ((List.range P.length).map fun f => D.ref (hp.length + f))] = H2 at a2 s0 l0 k0
  obtain ⟨ls', hp', e, w4, w5, w6, rfl, s3, l3, k3⟩ := sForI_pre (fi := mIS (mVar 2)) (t := .tp ((.nm 4) :: ((.nm 5) :: []))) (b := B1_neighbours) (gd := []) (items := J) (hp := H2) (hp1 := H2)
    (ls := [some (.tup [tw w (P.map T), .tup (J.map fun p => T (pI p))]), some (tw w (P.map T)), some (.tup (J.map fun p => T (pI p))), some (.ref (hp.length + P.length)), none, none, none, none]) (fun p : Sd => T (pI p))
    (fun d ls H => ∃ w4 w5 w6, ls = [some (.tup [tw w (P.map T), .tup (J.map fun p => T (pI p))]), some (tw w (P.map T)), some (.tup (J.map fun p => T (pI p))), some (.ref (hp.length + P.length)), w4, w5, w6, none] ∧ Nbs hp.length P.length H (ngb P d) ∧ H.length = hp.length + P.length + 1 ∧ ∀ k, k < hp.length → H[k]? = hp[k]?)
    (mIS_tup (mVar_of rfl)) (fun _ _ _ _ => rfl) ⟨_, _, _, rfl, s0, l0, k0⟩ (by
      rintro d p r ls H ed ⟨w4, w5, w6, rfl, s, l, kk⟩
      have hp1 : p ∈ J := by rw [ed]; simp
      have hd : d.length < J.length := by rw [ed, List.length_append, List.length_cons]; omega
      obtain ⟨⟨h1, h2'⟩, h3⟩ := hj p hp1
      have et : ngb P (d ++ [p]) = fun f => (ngb P d f ++ if p.1 = f then [(p.2, twK (sqA P p.1) (sqA P p.2))] else []) ++ if p.2 = f then [(p.1, (twK (sqA P p.1) (sqA P p.2) + 2) % 4)] else [] := by
        funext f
        unfold ngb
        rw [List.flatMap_append, List.flatMap_singleton, List.append_assoc]
      rw [et]
      have t1 := ngb_len P d p.1
      have t2 := ngb_len P d p.2
      have ix : ∀ {i : Nat} (H : Hd), i < P.length → gIx (tw w (P.map T)) (.int (i : Nat)) H = some (T (sqA P i), H) := fun {i} H hi => gIx_tw (by
        rw [List.getElem?_map, List.getElem?_eq_getElem hi]
        unfold sqA
        rw [List.getD_eq_getElem?_getD, List.getElem?_eq_getElem hi]
        rfl)
      have tk := towards_at H h2 (show p.1 < P.length by omega) h2'
      rw [if_pos h3] at tk
      obtain ⟨hp2, b1, b2, b3, b4⟩ := s.app (show p.1 < P.length by omega) (p.2, twK (sqA P p.1) (sqA P p.2)) (by omega)
      obtain ⟨hp3, c1, c2, c3, c4⟩ := b2.app h2' (p.1, (twK (sqA P p.1) (sqA P p.2) + 2) % 4) (by
        rw [List.length_append]
        split <;> simp <;> omega)
      have i1 : isL (.ref (hp.length + p.1)) H = true := isL_of (s.row _ (by omega))
      have i2 : isL (.ref (hp.length + p.2)) hp2 = true := isL_of (b2.row _ h2')
      have gm : gMod (.int ((twK (sqA P p.1) (sqA P p.2) : Nat) + 2)) (.int 4) hp2 = some (.int (((twK (sqA P p.1) (sqA P p.2) + 2) % 4 : Nat) : Int), hp2) := gMod_int (by decide)
      exact ⟨_, _, hp3, rfl, .inl (sSeq_of (sSet_of (call_of (cons_of (m2_ev (mVar_of rfl) (mVar_of rfl) (ix H (by omega))) (cons_of (m2_ev (mVar_of rfl) (mVar_of rfl) (ix H h2')) nil_of)) rfl tk))
        (sSeq_of (sDrop_of (met_of (m2_ev (mVar_of rfl) (mVar_of rfl) (s.at_ (by omega))) i1 (cons_of (tup_of (cons_of (mVar_of rfl) (cons_of (mVar_of rfl) nil_of)) (Nat.le_of_ble_eq_true rfl)) nil_of) b1))
          (sDrop_of (met_of (m2_ev (mVar_of rfl) (mVar_of rfl) (b2.at_ h2')) i2 (cons_of (tup_of (cons_of (mVar_of rfl) (cons_of (m2_ev (m2_ev (mVar_of rfl) mC_of gAdd_int) mC_of gm) nil_of)) (Nat.le_of_ble_eq_true rfl)) nil_of) c1)))), _, _, _, rfl, c2, by omega, fun k hk => by rw [c4 k hk, b4 k hk, kk k hk]⟩)
  have e' : F1_neighbours [some (.tup [tw w (P.map T), .tup (J.map fun p => T (pI p))]), some (tw w (P.map T)), some (.tup (J.map fun p => T (pI p))), some (.ref (hp.length + P.length)), none, none, none, none] H2 = _ := e
  exact ⟨hp', def_of (sSeq_of a0 (sSeq_of a2 (sSeq_of e' (ret_of (mVar_of rfl))))), s3, l3, k3⟩
end Lw
namespace Lw
open PySem PySem.Spec L2 Ve
def B1_is_one : AS :=
    (sIf (mT (m2 (mVar 4) (mVar 2) gNotIn)) (sSeq (sStore (mC (.bl true)) (mVar 2) (mVar 4))
    (sDrop (mMet isL (mVar 3) (mCons (mVar 4) mNil) gAppend))) sNext)
def F1_is_one : AS := (sForI (mIS (m2 (mVar 1) (mMet isL (mVar 3) mNil gPop) gIx)) (.tp ((.nm 4) :: ((.nm 5) :: []))) B1_is_one)
def B2_is_one : AS :=
    F1_is_one
def W2_is_one : Nat → AS := sWhile (mT (m2 (mAs (mCons (mVar 3) mNil) gLen) (mC (.int 0)) gGt)) B2_is_one
@[simp] def b_is_one_4 : AS :=
    (sRet (m2 (mAs (mCons (mVar 2) mNil) gLen) (mAs (mCons (mVar 1) mNil) gLen) gEq))
@[simp] def b_is_one_3 : AS :=
    sSeq (W2_is_one 1000000)
    b_is_one_4
@[simp] def b_is_one_2 : AS :=
    sSeq (sSet 3 (mNew (mLst (mCons (mC (.int 0)) mNil))))
    b_is_one_3
@[simp] def b_is_one_1 : AS :=
    sSeq (sSet 2 (mDict (((mC (.int 0)), (mC (.bl true))) :: [])))
    b_is_one_2
def b_is_one : AS :=
    sSeq (sSet 1 (mAs (mCons (mVar 0) mNil) (ar 1 c_neighbours)))
    b_is_one_1
def m_is_one : List D → Hd → Option (D × Hd) := mDef 6 b_is_one
def c_is_one := cV m_is_one
theorem con_is_one : Cl c_is_one m_is_one := cl_cV _
theorem one_told (hp : Hd) (w : Bool) {P : List (List Int)} {J : List Sd} (h2 : Two P) (h0 : P ≠ []) (hj : JointsOk P J) (hn : P.length ≤ 200) (hl : J.length ≤ 390) :
    ∃ b : Bool, c_is_one [.tup [tw w (P.map T), .tup (J.map fun p => T (pI p))]] hp = some (.bl b, hp) ∧ (b = true ↔ CnJ P.length J) := by
  have hpos : 0 < P.length := List.length_pos_iff.mpr h0
  obtain ⟨H, e1, nb1, lH, _⟩ := neighbours_run [] w h2 hj (by omega) (by omega)
  simp only [List.length_nil, Nat.zero_add] at e1 nb1 lH
  generalize hX : (D.tup [tw w (P.map T), .tup (J.map fun p => T (pI p))]) = X at e1 ⊢
  have hX2 : nr X = true := by
    rw [← hX]
    exact nr_tup (nrs_cons (nr_tw (nrs_T _)) (nrs_cons (nr_tup (by
      have := nrs_T (J.map pI)
      rwa [List.map_map] at this)) rfl))
  have a1 : sSet 1 (mAs (mCons (mVar 0) mNil) (ar 1 c_neighbours)) [some X, none, none, none, none, none] [] = some (.nx, [some X, some (.ref P.length), none, none, none, none], H) :=
    sSet_of (call_of (cons_of (mVar_of rfl) nil_of) rfl e1)
  have a2 : sSet 2 (mDict (((mC (.int 0)), (mC (.bl true))) :: [])) [some X, some (.ref P.length), none, none, none, none] H = some (.nx, [some X, some (.ref P.length), some (.ref (P.length + 1)), none, none, none], H ++ [.dic (Gi (fun _ => .bl true) [0])]) := by
    rw [← lH]
    rfl
  have a3 : sSet 3 (mNew (mLst (mCons (mC (.int 0)) mNil))) [some X, some (.ref P.length), some (.ref (P.length + 1)), none, none, none] (H ++ [.dic (Gi (fun _ => .bl true) [0])]) = some (.nx, [some X, some (.ref P.length), some (.ref (P.length + 1)), some (.ref (P.length + 2)), none, none], H ++ [.dic (Gi (fun _ => .bl true) [0]), .lst [.int (0 : Nat)]]) := by
    have := sSet_of (i := 3) (mNew_of (fl := mLst (mCons (mC (.int 0)) mNil)) (ls := [some X, some (.ref P.length), some (.ref (P.length + 1)), none, none, none]) (hp := H ++ [.dic (Gi (fun _ => .bl true) [0])]) (ds := [.int 0]) rfl)
    rw [List.length_append, lH, List.append_assoc] at this
    exact this
  have hN : ∀ a b, a < P.length → b ∈ (ngb P J a).map (·.1) → b < P.length := fun a b _ h => by
    obtain ⟨q, hq, rfl⟩ := List.mem_map.mp h
    exact (hj.ngb hq).2.1
  have inb : ∀ {b}, Rch (fun i => (ngb P J i).map (·.1)) 0 b → b < P.length := fun r => by
    cases r with
    | refl => exact hpos
    | step _ q =>
      obtain ⟨q, hq, rfl⟩ := List.mem_map.mp q
      exact (hj.ngb hq).2.1
  obtain ⟨met, ls', hp', e, ⟨v4, v5, rfl, rfl⟩, hm, hz⟩ := search_while (P := Rch (fun i => (ngb P J i).map (·.1)) 0) (N := fun i => (ngb P J i).map (·.1)) (List.range P.length) (fun _ h => List.mem_range.mpr (inb h)) (fun a b h q => .step h q) (c := mT (m2 (mAs (mCons (mVar 3) mNil) gLen) (mC (.int 0)) gGt)) (b := B2_is_one)
    (fun met wait ls hp => ∃ v4 v5, ls = [some X, some (.ref P.length), some (.ref (P.length + 1)), some (.ref (P.length + 2)), v4, v5] ∧ hp = H ++ [.dic (Gi (fun _ => .bl true) met), .lst (wait.map fun i : Nat => D.int (i : Nat))])
    (by
      rintro met ls hp ⟨v4, v5, rfl, rfl⟩
      exact mT_of (m2_ev (as_of (cons_of (mVar_of rfl) nil_of) (gLen_lst (xs := []) (two_bt (by omega)))) mC_of rfl)) (by
      rintro met wt here ls hp ⟨v4, v5, rfl, rfl⟩
      refine mT_of ((m2_ev (as_of (cons_of (mVar_of rfl) nil_of) (gLen_lst (xs := (wt ++ [here]).map fun i : Nat => D.int (i : Nat)) (two_bt (by omega)))) mC_of gGt_int).trans ?_)
      rw [List.length_map, List.length_append, List.length_singleton, decide_eq_true (by omega)]) (by
      rintro met wt here ls hp ⟨v4, v5, rfl, rfl⟩ hh hbh l1 l2 _
      rw [List.length_range] at l1 l2
      have hb := inb hbh
      have gp : gPop (.ref (P.length + 2)) [] (H ++ [.dic (Gi (fun _ => .bl true) met), .lst ((wt ++ [here]).map fun i : Nat => D.int (i : Nat))]) = some (.int (here : Nat), H ++ [.dic (Gi (fun _ => .bl true) met), .lst (wt.map fun i : Nat => D.int (i : Nat))]) := by
        have := gPop_of (hp := H ++ [.dic (Gi (fun _ => .bl true) met), .lst ((wt ++ [here]).map fun i : Nat => D.int (i : Nat))]) (n := P.length + 2) (xs := wt.map fun i : Nat => D.int (i : Nat)) (d := .int (here : Nat)) (by
          rw [two_bt (by omega), List.map_append]
          rfl)
        rw [this, two_sbt (by omega)]
      have il : isL (.ref (P.length + 2)) (H ++ [.dic (Gi (fun _ => .bl true) met), .lst ((wt ++ [here]).map fun i : Nat => D.int (i : Nat))]) = true := isL_of (xs := (wt ++ [here]).map fun i : Nat => D.int (i : Nat)) (two_bt (by omega))
      have nbk : ∀ (a b : O), Nbs 0 P.length (H ++ [a, b]) (ngb P J) := fun a b => nb1.keep fun k hk => by rw [List.getElem?_append_left (by omega)]
      have row := fun a b => (nbk a b).row here hb
      simp only [Nat.zero_add] at row
      have att := fun a b => (nbk a b).at_ hb
      simp only [Nat.zero_add] at att
      have ei : (mIS (m2 (mVar 1) (mMet isL (mVar 3) mNil gPop) gIx)) [some X, some (.ref P.length), some (.ref (P.length + 1)), some (.ref (P.length + 2)), v4, v5] (H ++ [.dic (Gi (fun _ => .bl true) met), .lst ((wt ++ [here]).map fun i : Nat => D.int (i : Nat))]) = some ((ngb P J here).map (fun q => T (pI q)), [(here, (ngb P J here).map fun q => T (pI q))], H ++ [.dic (Gi (fun _ => .bl true) met), .lst (wt.map fun i : Nat => D.int (i : Nat))]) :=
        mIS_ref (m2_ev (mVar_of rfl) (met_of (mVar_of rfl) il nil_of gp) (att _ _)) (row _ _)
      have hlen := ngb_len P J here
      obtain ⟨ls2, hp2, e2, ⟨v4', v5', rfl, rfl⟩⟩ := sForI_psh (t := .tp ((.nm 4) :: ((.nm 5) :: []))) (b := B1_is_one) (ngb P J here) (fun q => T (pI q)) (fun q : Sd => q.1) (fun _ => true)
        (fun st ls hp => ∃ v4 v5, ls = [some X, some (.ref P.length), some (.ref (P.length + 1)), some (.ref (P.length + 2)), v4, v5] ∧ hp = H ++ [.dic (Gi (fun _ => .bl true) st.1), .lst (st.2.map fun i : Nat => D.int (i : Nat))]) ei (by
          rintro st ls hp ⟨v4, v5, rfl, rfl⟩
          exact gdOk1 (row _ _)) (met, wt) ⟨v4, v5, rfl, rfl⟩ (by
          rintro q hq st ls hp ⟨v4, v5, rfl, rfl⟩ hm0 l3 l4
          dsimp only at l3 l4
          have gn : gNotIn (.int (q.1 : Nat)) (.ref (P.length + 1)) (H ++ [.dic (Gi (fun _ => .bl true) st.1), .lst (st.2.map fun i : Nat => D.int (i : Nat))]) = some (.bl (!decide (q.1 ∈ st.1)), _) := gNotIn_Gi (two_at lH)
          by_cases c : q.1 ∈ st.1
          · rw [decide_eq_true c] at gn
            refine ⟨_, _, _, rfl, .inl (sIf_f (mT_of (m2_ev (mVar_of rfl) (mVar_of rfl) gn)) rfl), _, _, rfl, ?_⟩
            rw [if_neg (fun z => z.2 c)]
          · rw [decide_eq_false c] at gn
            have gs : gSet (.ref (P.length + 1)) (.int (q.1 : Nat)) (.bl true) (H ++ [.dic (Gi (fun _ => .bl true) st.1), .lst (st.2.map fun i : Nat => D.int (i : Nat))]) = some (H ++ [.dic (Gi (fun _ => .bl true) (st.1 ++ [q.1])), .lst (st.2.map fun i : Nat => D.int (i : Nat))]) := by
              have := gSet_Gi (g := fun _ => D.bl true) (ks := st.1) (a := q.1) (hp := H ++ [.dic (Gi (fun _ => .bl true) st.1), .lst (st.2.map fun i : Nat => D.int (i : Nat))]) (q := P.length + 1) (two_at lH) c (by
omega)
              rw [this, two_sat lH]
            have ga : gAppend (.ref (P.length + 2)) [.int (q.1 : Nat)] (H ++ [.dic (Gi (fun _ => .bl true) (st.1 ++ [q.1])), .lst (st.2.map fun i : Nat => D.int (i : Nat))]) = some (.non, H ++ [.dic (Gi (fun _ => .bl true) (st.1 ++ [q.1])), .lst ((st.2 ++ [q.1]).map fun i : Nat => D.int (i : Nat))]) := by
              have := gAppend_of (hp := H ++ [.dic (Gi (fun _ => .bl true) (st.1 ++ [q.1])), .lst (st.2.map fun i : Nat => D.int (i : Nat))]) (n := P.length + 2) (xs := st.2.map fun i : Nat => D.int (i : Nat)) (d := .int (q.1 : Nat)) (two_bt (by omega)) (by rw [List.length_map]; omega)
              rw [this, two_sbt (by omega), List.map_append]
              rfl
            refine ⟨_, _, _, rfl, .inl (sIf_t (mT_of (m2_ev (mVar_of rfl) (mVar_of rfl) gn)) (sSeq_of (sStore_of mC_of (mVar_of rfl) (mVar_of rfl) gs) (sDrop_of (met_of (mVar_of rfl) (isL_of (xs := st.2.map fun i : Nat => D.int (i : Nat)) (two_bt (by omega))) (cons_of (mVar_of rfl) nil_of) ga)))), _, _, rfl, ?_⟩
            rw [if_pos ⟨rfl, c⟩])
      exact ⟨_, _, e2, _, _, rfl, by rw [List.filter_eq_self.mpr (fun _ _ => rfl)]⟩)
    1000000 0 .refl [some X, some (.ref P.length), some (.ref (P.length + 1)), some (.ref (P.length + 2)), none, none] (H ++ [.dic (Gi (fun _ => .bl true) [0]), .lst [.int (0 : Nat)]]) ⟨none, none, rfl, rfl⟩ (by rw [List.length_range]; omega)
  have hin : ∀ a ∈ met, a < P.length := fun a ha => inb (hm.pr a ha)
  refine ⟨((met.length : Int) == (P.length : Int)), ?_, ?_⟩
  · have gb : gLen [.ref P.length] (H ++ [.dic (Gi (fun _ => .bl true) met), .lst []]) = some (.int (P.length : Nat), H ++ [.dic (Gi (fun _ => .bl true) met), .lst []]) := by
      have := nb1.tb
      rw [Nat.zero_add] at this
      have := gLen_lst (hp := H ++ [.dic (Gi (fun _ => .bl true) met), .lst []]) (n := P.length) (xs := (List.range P.length).map fun f => D.ref (0 + f)) (by rw [List.getElem?_append_left (by omega)]; exact this)
      rwa [List.length_map, List.length_range] at this
    have em : m_is_one [X] [] = some (.bl ((met.length : Int) == (P.length : Int)), _) := def_of (sSeq_of a1 (sSeq_of a2 (sSeq_of a3 (sSeq_of e (ret_of (m2_ev (as_of (cons_of (mVar_of rfl) nil_of) (gLen_Gi (ks := met) (two_at lH))) (as_of (cons_of (mVar_of rfl) nil_of) gb) gEq_int))))))
    exact cV_of (nrs_cons hX2 rfl) em rfl
  · rw [beq_iff_eq, ← cnJ_iff hpos hm hz hin]
    omega
end Lw
namespace Lw
open PySem PySem.Spec L2 Ve
def E1_are_squares : AE :=
    (mAs (mCons (mVar 1) mNil) (ar 1 c_is_pair))
def C1_are_squares : AA :=
    (mLc (mIS (mVar 0)) (.nm 1) [1] tYesD E1_are_squares)
def E2_are_squares : AE :=
    (mVar 2)
def C2_are_squares : AA :=
    (mLc (mIS (mVar 0)) (.tp ((.nm 2) :: ((.nm 3) :: []))) [2, 3] tYesD E2_are_squares)
def E3_are_squares : AE :=
    (mVar 3)
def C3_are_squares : AA :=
    (mLc (mIS (mVar 0)) (.tp ((.nm 2) :: ((.nm 3) :: []))) [2, 3] tYesD E3_are_squares)
@[simp] def b_are_squares_1 : AS :=
    (sRet (mAndV (mAs (mCons (mVar 0) mNil) (ar 1 c_are_rising)) (mAndV (m2 (mL C2_are_squares gMinL) (mC (.int 0)) gEq) (m2 (mL C3_are_squares gMinL) (mC (.int 0)) gEq))))
def b_are_squares : AS :=
    sSeq (sIf (mOr (mNot (mT (mIsi "tuple" (mVar 0)))) (mOr (mNot (mT (mChain (mC (.int 1)) (mAs (mCons (mVar 0) mNil) gLen) (mC k_MOST_SQUARES) gLe gLe))) (mNot (mT (mL C1_are_squares gAll))))) (sRet (mC (.bl false))) sNext)
    b_are_squares_1
def m_are_squares : List D → Hd → Option (D × Hd) := mDef 4 b_are_squares
def c_are_squares := cV m_are_squares
theorem con_are_squares : Cl c_are_squares m_are_squares := cl_cV _
theorem pairs_all {w : Bool} {P : List (List Int)} (h2 : Two P) (hl : P.length ≤ 100000) : C1_are_squares [some (tw w (P.map T)), none, none, none] [] = some (P.map fun _ => D.bl true, []) := by
  have := mLc_typed (fi := mIS (mVar 0)) (t := .nm 1) (own := [1]) (tt := tYesD) (te := E1_are_squares) (ls := [some (tw w (P.map T)), none, none, none]) (hp := []) (gd := []) T P (fun _ => true) (fun _ => D.bl true) (mIS_tw (mVar_of rfl)) (by rw [sizeLine_eq]; omega) rfl (fun c hc => by
    obtain ⟨x, y, rfl⟩ := h2 c hc
    exact ⟨_, asg_nm, rfl, fun _ => call_of (cons_of (mVar_of rfl) nil_of) rfl (pairP_ok _ x y)⟩)
  rw [List.filter_eq_self.mpr fun _ _ => rfl] at this
  exact this
theorem coords {w : Bool} {P : List (List Int)} (h2 : Two P) (hl : P.length ≤ 100000) : C2_are_squares [some (tw w (P.map T)), none, none, none] [] = some (P.map (fun c => D.int (c.getD 0 0)), []) ∧ C3_are_squares [some (tw w (P.map T)), none, none, none] [] = some (P.map (fun c => D.int (c.getD 1 0)), []) := by
  constructor
  · have := mLc_typed (fi := mIS (mVar 0)) (t := .tp ((.nm 2) :: ((.nm 3) :: []))) (own := [2, 3]) (tt := tYesD) (te := E2_are_squares) (ls := [some (tw w (P.map T)), none, none, none]) (hp := []) (gd := []) T P (fun _ => true) (fun c => D.int (c.getD 0 0)) (mIS_tw (mVar_of rfl)) (by rw [sizeLine_eq]; omega) rfl (fun c hc => by
      obtain ⟨x, y, rfl⟩ := h2 c hc
      exact ⟨_, rfl, rfl, fun _ => mVar_of rfl⟩)
    rw [List.filter_eq_self.mpr fun _ _ => rfl] at this
    exact this
  · have := mLc_typed (fi := mIS (mVar 0)) (t := .tp ((.nm 2) :: ((.nm 3) :: []))) (own := [2, 3]) (tt := tYesD) (te := E3_are_squares) (ls := [some (tw w (P.map T)), none, none, none]) (hp := []) (gd := []) T P (fun _ => true) (fun c => D.int (c.getD 1 0)) (mIS_tw (mVar_of rfl)) (by rw [sizeLine_eq]; omega) rfl (fun c hc => by
      obtain ⟨x, y, rfl⟩ := h2 c hc
      exact ⟨_, rfl, rfl, fun _ => mVar_of rfl⟩)
    rw [List.filter_eq_self.mpr fun _ _ => rfl] at this
    exact this
theorem squares_told (hp : Hd) (w : Bool) {P : List (List Int)} (h2 : Two P) (hl : P.length ≤ 100000) : ∃ b : Bool, c_are_squares [tw w (P.map T)] hp = some (.bl b, hp) ∧ (b = true ↔ Sqr P) := by
  have g0 : mNot (mT (mIsi "tuple" (mVar 0))) [some (tw w (P.map T)), none, none, none] [] = some (false, []) := not_of (mT_of (isi_ev (mVar_of rfl) gIsi_tw))
  have gl : gLen [tw w (P.map T)] [] = some (.int (P.length : Nat), []) := by rw [gLen_tw, List.length_map]
  have gc : mNot (mT (mChain (mC (.int 1)) (mAs (mCons (mVar 0) mNil) gLen) (mC k_MOST_SQUARES) gLe gLe)) [some (tw w (P.map T)), none, none, none] [] = some (!(decide (1 ≤ (P.length : Int)) && decide ((P.length : Int) ≤ 130)), []) :=
    not_of (mT_of (chain_int (fun _ _ _ => gLe_int) (fun _ _ _ => gLe_int) mC_of (as_of (cons_of (mVar_of rfl) nil_of) gl) mC_of))
  have ga : mNot (mT (mL C1_are_squares gAll)) [some (tw w (P.map T)), none, none, none] [] = some (false, []) := by
    have := not_of (mT_of ((mL_of (pairs_all (w := w) h2 hl)).trans (gAll_map (fun _ => true) P [])))
    rwa [List.all_eq_true.mpr (fun _ _ => rfl)] at this
  by_cases c : 1 ≤ (P.length : Int) ∧ (P.length : Int) ≤ 130
  · have hne : P ≠ [] := fun z => by rw [z] at c; simp at c
    rw [decide_eq_true c.1, decide_eq_true c.2] at gc
    obtain ⟨k2, k3⟩ := coords (w := w) h2 hl
    have er := rising_ok [] w P hl (.inr hne)
    have e2 : m2 (mL C2_are_squares gMinL) (mC (.int 0)) gEq [some (tw w (P.map T)), none, none, none] [] = some (.bl (mnC P 0 == 0), []) := m2_ev ((mL_of k2).trans (gMinL_mn hne 0)) mC_of gEq_int
    have e3 : m2 (mL C3_are_squares gMinL) (mC (.int 0)) gEq [some (tw w (P.map T)), none, none, none] [] = some (.bl (mnC P 1 == 0), []) := m2_ev ((mL_of k3).trans (gMinL_mn hne 1)) mC_of gEq_int
    refine ⟨risB P && ((mnC P 0 == 0) && (mnC P 1 == 0)), ?_, ?_⟩
    · have hc : mAs (mCons (mVar 0) mNil) (ar 1 c_are_rising) [some (tw w (P.map T)), none, none, none] [] = some (.bl (risB P), []) := call_of (cons_of (mVar_of rfl) nil_of) rfl er
      have em : m_are_squares [tw w (P.map T)] [] = some (.bl (risB P && ((mnC P 0 == 0) && (mnC P 1 == 0))), []) := by
        refine def_of (sSeq_of (sIf_f (or_f g0 (or_f gc ga)) rfl) (ret_of ?_))
        cases hr : risB P with
        | false => rw [hr] at hc; exact andV_f hc
        | true =>
          rw [hr] at hc
          refine andV_t hc ?_
          cases hm : (mnC P 0 == 0) with
          | false => rw [hm] at e2; exact andV_f e2
          | true => rw [hm] at e2; exact andV_t e2 e3
      exact cV_of (nrs_cons (nr_tw (nrs_T _)) rfl) em rfl
    · rw [Bool.and_eq_true, Bool.and_eq_true, risB_iff, beq_iff_eq, beq_iff_eq]
      exact ⟨fun ⟨h1, h3, h4⟩ => ⟨h2, hne, by omega, h1, h3, h4⟩, fun h => ⟨h.srt, h.m0, h.m1⟩⟩
  · refine ⟨false, ?_, fun z => (by cases z), fun h => absurd ⟨by have := List.length_pos_iff.mpr h.ne; omega, by have := h.few; omega⟩ c⟩
    have gc2 : (!(decide (1 ≤ (P.length : Int)) && decide ((P.length : Int) ≤ 130))) = true := by
      by_cases c1 : 1 ≤ (P.length : Int)
      · rw [decide_eq_true c1, decide_eq_false (fun z => c ⟨c1, z⟩)]; rfl
      · rw [decide_eq_false c1]; rfl
    rw [gc2] at gc
    have em : m_are_squares [tw w (P.map T)] [] = some (.bl false, []) := def_of (seq_ret (sIf_t (or_f g0 (or_t gc)) (ret_of mC_of)))
    exact cV_of (nrs_cons (nr_tw (nrs_T _)) rfl) em rfl
@[simp] def b_is_joint_1 : AS :=
    (sRet (m2 (mAs (mCons (m2 (mVar 1) (m2 (mVar 0) (mC (.int 0)) gIx) gIx) (mCons (m2 (mVar 1) (m2 (mVar 0) (mC (.int 1)) gIx) gIx) mNil)) (ar 2 c_towards)) (mC .non) gIsNot))
def b_is_joint : AS :=
    sSeq (sIf (mOr (mNot (mT (mAs (mCons (mVar 0) mNil) (ar 1 c_is_pair)))) (mNot (mT (mChain3 (mC (.int 0)) (m2 (mVar 0) (mC (.int 0)) gIx) (m2 (mVar 0) (mC (.int 1)) gIx) (mAs (mCons (mVar 1) mNil) gLen) gLe gLt gLt)))) (sRet (mC (.bl false))) sNext)
    b_is_joint_1
def m_is_joint : List D → Hd → Option (D × Hd) := mDef 2 b_is_joint
def c_is_joint := cV m_is_joint
theorem con_is_joint : Cl c_is_joint m_is_joint := cl_cV _
def jtB (P : List (List Int)) (c : List Int) : Bool := (decide (0 ≤ c.getD 0 0) && (decide (c.getD 0 0 < c.getD 1 0) && decide (c.getD 1 0 < P.length))) && decide (Sbs (sqA P (c.getD 0 0).toNat) (sqA P (c.getD 1 0).toNat))
theorem joint_told (hp : Hd) (w : Bool) {P : List (List Int)} (h2 : Two P) (x y : Int) : c_is_joint [T [x, y], tw w (P.map T)] hp = some (.bl (jtB P [x, y]), hp) := by
  have gl : gLen [tw w (P.map T)] [] = some (.int (P.length : Nat), []) := by rw [gLen_tw, List.length_map]
  have g0 : mNot (mT (mAs (mCons (mVar 0) mNil) (ar 1 c_is_pair))) [some (T [x, y]), some (tw w (P.map T))] [] = some (false, []) := not_of (mT_of (call_of (cons_of (mVar_of rfl) nil_of) rfl (pairP_ok _ x y)))
  have gc : mNot (mT (mChain3 (mC (.int 0)) (m2 (mVar 0) (mC (.int 0)) gIx) (m2 (mVar 0) (mC (.int 1)) gIx) (mAs (mCons (mVar 1) mNil) gLen) gLe gLt gLt)) [some (T [x, y]), some (tw w (P.map T))] [] = some (!(decide (0 ≤ x) && (decide (x < y) && decide (y < P.length))), []) := by
    refine not_of (mT_of ?_)
    have i0 : m2 (mVar 0) (mC (.int 0)) gIx [some (T [x, y]), some (tw w (P.map T))] [] = some (.int x, []) := m2_ev (mVar_of rfl) mC_of (gIx_tup (j := 0) rfl)
    have i1 : m2 (mVar 0) (mC (.int 1)) gIx [some (T [x, y]), some (tw w (P.map T))] [] = some (.int y, []) := m2_ev (mVar_of rfl) mC_of (gIx_tup (j := 1) rfl)
    have i2 : mAs (mCons (mVar 1) mNil) gLen [some (T [x, y]), some (tw w (P.map T))] [] = some (.int (P.length : Nat), []) := as_of (cons_of (mVar_of rfl) nil_of) gl
    rw [mChain3_s, mC_of]
    dsimp only
    rw [i0]
    dsimp only
    rw [gLe_int]
    by_cases c1 : 0 ≤ x
    · rw [decide_eq_true c1]
      dsimp only
      rw [i1]
      dsimp only
      rw [gLt_int]
      by_cases c2 : x < y
      · rw [decide_eq_true c2]
        dsimp only
        rw [i2]
        dsimp only
        rw [gLt_int]
        rfl
      · rw [decide_eq_false c2]
        rfl
    · rw [decide_eq_false c1]
      rfl
  have em : m_is_joint [T [x, y], tw w (P.map T)] [] = some (.bl (jtB P [x, y]), []) := by
    by_cases c : 0 ≤ x ∧ x < y ∧ y < P.length
    · have hb : (decide (0 ≤ x) && (decide (x < y) && decide (y < P.length))) = true := by rw [decide_eq_true c.1, decide_eq_true c.2.1, decide_eq_true c.2.2]; rfl
      rw [hb] at gc
      obtain ⟨a, rfl⟩ := Int.eq_ofNat_of_zero_le c.1
      obtain ⟨b, rfl⟩ := Int.eq_ofNat_of_zero_le (show 0 ≤ y by omega)
      have ix : ∀ {i : Nat} (H : Hd), i < P.length → gIx (tw w (P.map T)) (.int (i : Nat)) H = some (T (sqA P i), H) := fun {i} H hi => gIx_tw (by
        rw [List.getElem?_map, List.getElem?_eq_getElem hi]
        unfold sqA
        rw [List.getD_eq_getElem?_getD, List.getElem?_eq_getElem hi]
        rfl)
      have tk := towards_at [] h2 (show a < P.length by omega) (show b < P.length by omega)
      have hj : jtB P [(a : Int), (b : Int)] = decide (Sbs (sqA P a) (sqA P b)) := by
        show ((decide (0 ≤ (a : Int)) && (decide ((a : Int) < b) && decide ((b : Int) < P.length))) && decide (Sbs (sqA P a) (sqA P b))) = _
        rw [hb, Bool.true_and]
      rw [hj]
      refine def_of (sSeq_of (sIf_f (or_f g0 gc) rfl) (ret_of (m2_ev (call_of (cons_of (m2_ev (mVar_of rfl) (m2_ev (mVar_of rfl) mC_of (gIx_tup (j := 0) rfl)) (ix _ (by omega))) (cons_of (m2_ev (mVar_of rfl) (m2_ev (mVar_of rfl) mC_of (gIx_tup (j := 1) rfl)) (ix _ (by omega))) nil_of)) rfl tk) mC_of ?_)))
      by_cases z : Sbs (sqA P a) (sqA P b)
      · rw [if_pos z, decide_eq_true z]; rfl
      · rw [if_neg z, decide_eq_false z]; rfl
    · have hb : (decide (0 ≤ x) && (decide (x < y) && decide (y < P.length))) = false := by
        rw [Bool.eq_false_iff]
        intro z
        simp only [Bool.and_eq_true, decide_eq_true_eq] at z
        exact c ⟨z.1, z.2.1, z.2.2⟩
      rw [hb] at gc
      have hj : jtB P [x, y] = false := by
        show ((decide (0 ≤ x) && (decide (x < y) && decide (y < P.length))) && decide (Sbs (sqA P x.toNat) (sqA P y.toNat))) = _
        rw [hb]; rfl
      rw [hj]
      exact def_of (seq_ret (sIf_t (or_f g0 gc) (ret_of mC_of)))
  exact cV_of (nrs_cons (nr_T _) (nrs_cons (nr_tw (nrs_T _)) rfl)) em rfl
def E1_is_piece : AE :=
    (mAs (mCons (mVar 1) (mCons (m2 (mVar 0) (mC (.int 0)) gIx) mNil)) (ar 2 c_is_joint))
def C1_is_piece : AA :=
    (mLc (mIS (m2 (mVar 0) (mC (.int 1)) gIx)) (.nm 1) [1] tYesD E1_is_piece)
@[simp] def b_is_piece_2 : AS :=
    (sRet (mAs (mCons (mVar 0) mNil) (ar 1 c_is_one)))
@[simp] def b_is_piece_1 : AS :=
    sSeq (sIf (mOr (mNot (mT (mL C1_is_piece gAll))) (mNot (mT (mAs (mCons (m2 (mVar 0) (mC (.int 1)) gIx) mNil) (ar 1 c_are_rising))))) (sRet (mC (.bl false))) sNext)
    b_is_piece_2
def b_is_piece : AS :=
    sSeq (sIf (mOr (mNot (mT (mIsi "tuple" (mVar 0)))) (mOr (mT (m2 (mAs (mCons (mVar 0) mNil) gLen) (mC (.int 2)) gNe)) (mOr (mNot (mT (mAs (mCons (m2 (mVar 0) (mC (.int 0)) gIx) mNil) (ar 1 c_are_squares)))) (mNot (mT (mIsi "tuple" (m2 (mVar 0) (mC (.int 1)) gIx))))))) (sRet (mC (.bl false))) sNext)
    b_is_piece_1
def m_is_piece : List D → Hd → Option (D × Hd) := mDef 2 b_is_piece
def c_is_piece := cV m_is_piece
theorem con_is_piece : Cl c_is_piece m_is_piece := cl_cV _
theorem jt_pairs {P : List (List Int)} {C : List (List Int)} (h2 : Two C) (h : C.all (jtB P) = true) : ∃ J : List Sd, C = J.map pI ∧ JointsOk P J := by
  refine ⟨C.map fun c => ((c.getD 0 0).toNat, (c.getD 1 0).toNat), ?_, fun p hp => ?_⟩
  · rw [List.map_map]
    conv => lhs; rw [← List.map_id C]
    refine List.map_congr_left fun c hc => ?_
    obtain ⟨x, y, rfl⟩ := h2 c hc
    have := List.all_eq_true.mp h _ hc
    unfold jtB at this
    simp only [Bool.and_eq_true, decide_eq_true_eq] at this
    have h1 : 0 ≤ x := this.1.1
    have h3 : x < y := this.1.2.1
    show [x, y] = [((x.toNat : Nat) : Int), ((y.toNat : Nat) : Int)]
    rw [Int.toNat_of_nonneg h1, Int.toNat_of_nonneg (by omega)]
  · obtain ⟨c, hc, rfl⟩ := List.mem_map.mp hp
    obtain ⟨x, y, rfl⟩ := h2 c hc
    have := List.all_eq_true.mp h _ hc
    unfold jtB at this
    simp only [Bool.and_eq_true, decide_eq_true_eq] at this
    have h1 : 0 ≤ x := this.1.1
    have h3 : x < y := this.1.2.1
    have h4 : y < P.length := this.1.2.2
    have h5 : Sbs (sqA P x.toNat) (sqA P y.toNat) := this.2
    exact ⟨⟨by show x.toNat < y.toNat; omega, by show y.toNat < _; omega⟩, h5⟩
theorem jt_of {P : List (List Int)} {J : List Sd} (h : JointsOk P J) : (J.map pI).all (jtB P) = true := by
  rw [List.all_map, List.all_eq_true]
  intro p hp
  obtain ⟨⟨h1, h2⟩, h3⟩ := h p hp
  show ((decide (0 ≤ ((p.1 : Nat) : Int)) && (decide (((p.1 : Nat) : Int) < (p.2 : Nat)) && decide (((p.2 : Nat) : Int) < P.length))) && decide (Sbs (sqA P ((p.1 : Nat) : Int).toNat) (sqA P ((p.2 : Nat) : Int).toNat))) = true
  rw [decide_eq_true (by omega), decide_eq_true (by omega), decide_eq_true (by omega), Int.toNat_natCast, Int.toNat_natCast, decide_eq_true h3]
  rfl
theorem piece_told (hp : Hd) (w : Bool) {P C : List (List Int)} (h2 : Two P) (hc2 : Two C) (hl : P.length ≤ 100000) (hlc : C.length ≤ 390) : ∃ b : Bool, c_is_piece [.tup [tw w (P.map T), .tup (C.map T)]] hp = some (.bl b, hp) ∧ (b = true ↔ ∃ J : List Sd, C = J.map pI ∧ Pce P J) := by
  generalize hX : (D.tup [tw w (P.map T), .tup (C.map T)]) = X
  have hX2 : nr X = true := by
    rw [← hX]
    exact nr_tup (nrs_cons (nr_tw (nrs_T _)) (nrs_cons (nr_tup (nrs_T _)) rfl))
  have i0 : ∀ v1 : Option D, m2 (mVar 0) (mC (.int 0)) gIx [some X, v1] [] = some (tw w (P.map T), []) := fun _ => m2_ev (mVar_of rfl) mC_of (by rw [← hX]; exact gIx_tup (j := 0) rfl)
  have i1 : ∀ v1 : Option D, m2 (mVar 0) (mC (.int 1)) gIx [some X, v1] [] = some (.tup (C.map T), []) := fun _ => m2_ev (mVar_of rfl) mC_of (by rw [← hX]; exact gIx_tup (j := 1) rfl)
  have gi : gIsi "tuple" [X] [] = some (.bl true, []) := by rw [← hX]; rfl
  have g0 : mNot (mT (mIsi "tuple" (mVar 0))) [some X, none] [] = some (false, []) := not_of (mT_of (isi_ev (mVar_of rfl) gi))
  have g1 : mT (m2 (mAs (mCons (mVar 0) mNil) gLen) (mC (.int 2)) gNe) [some X, none] [] = some (false, []) := by
    rw [← hX]
    rfl
  obtain ⟨b1, e1, hb1⟩ := squares_told [] w h2 hl
  have g2 : mNot (mT (mAs (mCons (m2 (mVar 0) (mC (.int 0)) gIx) mNil) (ar 1 c_are_squares))) [some X, none] [] = some (!b1, []) := not_of (mT_of (call_of (cons_of (i0 _) nil_of) rfl e1))
  have g3 : mNot (mT (mIsi "tuple" (m2 (mVar 0) (mC (.int 1)) gIx))) [some X, none] [] = some (false, []) := not_of (mT_of (isi_ev (i1 _) (show gIsi "tuple" [.tup (C.map T)] [] = some (.bl true, []) from rfl)))
  cases hb : b1 with
  | false =>
    rw [hb] at g2
    refine ⟨false, ?_, fun z => (by cases z), fun ⟨J, _, h⟩ => ?_⟩
    · exact cV_of (nrs_cons hX2 rfl) (def_of (seq_ret (sIf_t (or_f g0 (or_f g1 (or_t g2))) (ret_of mC_of)))) rfl
    · have := hb1.mpr h.sq
      rw [hb] at this
      cases this
  | true =>
    rw [hb] at g2
    have hsq := hb1.mp hb
    have el : C1_is_piece [some X, none] [] = some (C.map fun c => D.bl (jtB P c), []) := by
      have := mLc_typed (fi := mIS (m2 (mVar 0) (mC (.int 1)) gIx)) (t := .nm 1) (own := [1]) (tt := tYesD) (te := E1_is_piece) (ls := [some X, none]) (hp := []) (gd := []) T C (fun _ => true) (fun c => D.bl (jtB P c)) (mIS_tup (i1 _)) (by rw [sizeLine_eq]; omega) rfl (fun c hc => by
        obtain ⟨x, y, rfl⟩ := hc2 c hc
        exact ⟨_, asg_nm, rfl, fun _ => call_of (cons_of (mVar_of rfl) (cons_of (i0 _) nil_of)) rfl (joint_told _ w h2 x y)⟩)
      rw [List.filter_eq_self.mpr fun _ _ => rfl] at this
      exact this
    have g4 : mNot (mT (mL C1_is_piece gAll)) [some X, none] [] = some (!(C.all (jtB P)), []) := not_of (mT_of ((mL_of el).trans (gAll_map _ _ _)))
    have er := rising_ok [] false C (by omega) (.inl rfl)
    have g5 : mNot (mT (mAs (mCons (m2 (mVar 0) (mC (.int 1)) gIx) mNil) (ar 1 c_are_rising))) [some X, none] [] = some (!(risB C), []) := not_of (mT_of (call_of (cons_of (i1 _) nil_of) rfl er))
    have hs1 : sIf (mOr (mNot (mT (mIsi "tuple" (mVar 0)))) (mOr (mT (m2 (mAs (mCons (mVar 0) mNil) gLen) (mC (.int 2)) gNe)) (mOr (mNot (mT (mAs (mCons (m2 (mVar 0) (mC (.int 0)) gIx) mNil) (ar 1 c_are_squares)))) (mNot (mT (mIsi "tuple" (m2 (mVar 0) (mC (.int 1)) gIx))))))) (sRet (mC (.bl false))) sNext [some X, none] [] = some (.nx, [some X, none], []) := sIf_f (or_f g0 (or_f g1 (or_f g2 g3))) rfl
    by_cases ca : C.all (jtB P) = true
    · rw [ca] at g4
      obtain ⟨J, rfl, hj⟩ := jt_pairs hc2 ca
      by_cases cr : risB (J.map pI) = true
      · rw [cr] at g5
        rw [List.length_map] at hlc
        obtain ⟨b, eb, hb3⟩ := one_told [] w h2 hsq.ne hj (by have := hsq.few; omega) hlc
        rw [show (fun p : Sd => T (pI p)) = T ∘ pI from rfl, ← List.map_map, hX] at eb
        refine ⟨b, ?_, ?_⟩
        · exact cV_of (nrs_cons hX2 rfl) (def_of (sSeq_of hs1 (sSeq_of (sIf_f (or_f g4 g5) rfl) (ret_of (call_of (cons_of (mVar_of rfl) nil_of) rfl eb))))) rfl
        · rw [hb3]
          have hp := (risB_iff _).mp cr
          rw [List.pairwise_map] at hp
          exact ⟨fun h => ⟨J, rfl, hsq, hj, hp, h⟩, fun ⟨J', e, h⟩ => by
            have : J = J' := pI_map_inj e
            rw [this]
            exact h.con⟩
      · have cr : risB (J.map pI) = false := by simpa using cr
        rw [cr] at g5
        refine ⟨false, ?_, fun z => (by cases z), fun ⟨J', e, h⟩ => ?_⟩
        · exact cV_of (nrs_cons hX2 rfl) (def_of (sSeq_of hs1 (seq_ret (sIf_t (or_f g4 g5) (ret_of mC_of))))) rfl
        · have : risB (J.map pI) = true := (risB_iff _).mpr (by rw [e, List.pairwise_map]; exact h.srt)
          rw [cr] at this
          cases this
    · have ca : C.all (jtB P) = false := by simpa using ca
      rw [ca] at g4
      refine ⟨false, ?_, fun z => (by cases z), fun ⟨J', e, h⟩ => ?_⟩
      · exact cV_of (nrs_cons hX2 rfl) (def_of (sSeq_of hs1 (seq_ret (sIf_t (or_t g4) (ret_of mC_of))))) rfl
      · have := jt_of h.ok
        rw [← e, ca] at this
        cases this
theorem piece_ok (hp : Hd) (w : Bool) {P : List (List Int)} {J : List Sd} (h : Pce P J) (hl : J.length ≤ 390) : c_is_piece [.tup [tw w (P.map T), .tup ((J.map pI).map T)]] hp = some (.bl true, hp) := by
  obtain ⟨b, e, hb⟩ := piece_told hp w (P := P) (C := J.map pI) h.sq.two (fun c hc => by
    obtain ⟨p, _, rfl⟩ := List.mem_map.mp hc
    exact ⟨_, _, rfl⟩) (by have := h.sq.few; omega) (by rw [List.length_map]; exact hl)
  rw [hb.mpr ⟨J, rfl, h⟩] at e
  exact e
end Lw
namespace Lw
open PySem PySem.Spec L2 Ve
theorem cells_nodup {α : Type} {f : Nat → Nat → List α} {key : α → Sd} (h1 : ∀ r c, (f r c).length ≤ 1) (hk : ∀ r c, ∀ a ∈ f r c, key a = (r, c)) (R C : Nat) : ((List.range R).flatMap fun r => (List.range C).flatMap (f r)).Nodup := by
  unfold List.Nodup
  refine List.pairwise_flatMap.mpr ⟨fun r _ => List.pairwise_flatMap.mpr ⟨fun c _ => ?_, ?_⟩, ?_⟩
  · have := h1 r c
    match f r c, this with
    | [], _ => exact List.Pairwise.nil
    | [a], _ => exact List.pairwise_singleton _ _
  · refine List.nodup_range.imp fun {a b} hab x hx y hy e => hab ?_
    have e1 := hk r a x hx
    have e2 := hk r b y hy
    rw [e, e2] at e1
    exact (congrArg Prod.snd e1).symm
  · refine List.nodup_range.imp fun {a b} hab x hx y hy e => hab ?_
    obtain ⟨c1, _, hx⟩ := List.mem_flatMap.mp hx
    obtain ⟨c2, _, hy⟩ := List.mem_flatMap.mp hy
    have e1 := hk a c1 x hx
    have e2 := hk b c2 y hy
    rw [e, e2] at e1
    exact (congrArg Prod.fst e1).symm
section
variable {P : List (List Int)} {J : List Sd}
theorem gch35 (g : Gd P J) {r c : Nat} (h : gch P J r c = 35) : ∃ q ∈ P, sqC P q = (r, c) := by
  unfold gch at h
  by_cases z : (r, c) ∈ P.map (sqC P)
  · obtain ⟨q, hq, e⟩ := List.mem_map.mp z
    exact ⟨q, hq, e⟩
  · rw [if_neg z] at h
    split at h
    · cases h
    · split at h <;> cases h
theorem gch45 (g : Gd P J) {r c : Nat} (h : gch P J r c = 45) : (r, c) ∈ (J.filter fun p => hor P p).map (jnC P) := by
  unfold gch at h
  split at h
  · cases h
  · split at h
    · assumption
    · split at h <;> cases h
theorem gch124 (g : Gd P J) {r c : Nat} (h : gch P J r c = 124) : (r, c) ∈ (J.filter fun p => !hor P p).map (jnC P) := by
  unfold gch at h
  split at h
  · cases h
  · split at h
    · cases h
    · split at h
      · assumption
      · cases h
theorem tCl_key (g : Gd P J) (r c : Nat) : ∀ a ∈ tCl P J r c, sqC P a = (r, c) ∧ a ∈ P := fun a ha => by
  unfold tCl at ha
  split at ha
  · rename_i h
    obtain ⟨q, hq, e⟩ := gch35 g h
    obtain ⟨x, y, rfl, hx, hy⟩ := g.co q hq
    injection e with e1 e2
    have e1 : 2 * (hgt P - y) = r := e1
    have e2 : 2 * x = c := e2
    rw [List.mem_singleton.mp ha, show c / 2 = x by omega, show (2 * hgt P - r) / 2 = y by omega]
    refine ⟨?_, hq⟩
    show (2 * (hgt P - y), 2 * x) = _
    rw [e1, e2]
  · cases ha
theorem tAl_srt (h : Pce P J) (g : Gd P J) : sortC (tAl P J (2 * hgt P + 1)) = P := by
  have nd : (tAl P J (2 * hgt P + 1)).Nodup := cells_nodup (f := tCl P J) (key := sqC P) (fun r c => by unfold tCl; split <;> simp) (fun r c a ha => (tCl_key g r c a ha).1) _ _
  have ndP : P.Nodup := nodup_of_lt h.sq.srt
  have hp : (tAl P J (2 * hgt P + 1)).Perm P := (List.perm_ext_iff_of_nodup nd ndP).mpr fun a => ⟨fun ha => by
    obtain ⟨r, _, ha⟩ := List.mem_flatMap.mp ha
    obtain ⟨c, _, ha⟩ := List.mem_flatMap.mp ha
    exact (tCl_key g r c a ha).2, fun ha => by
    obtain ⟨x, y, rfl, hx, hy⟩ := g.co a ha
    refine List.mem_flatMap.mpr ⟨2 * (hgt P - y), List.mem_range.mpr (by omega), List.mem_flatMap.mpr ⟨2 * x, List.mem_range.mpr (by omega), ?_⟩⟩
    unfold tCl
    rw [gch_ee g (by omega), show hgt P - (hgt P - y) = y by omega, if_pos ha, if_pos rfl, show 2 * x / 2 = x by omega, show (2 * hgt P - 2 * (hgt P - y)) / 2 = y by omega]
    exact List.mem_singleton.mpr rfl⟩
  exact ((sortC_perm _).trans hp).eq_of_pairwise (fun a b _ _ h1 h2 => List.le_antisymm h1 h2) (sortC_sorted _) (h.sq.srt.imp fun h => List.le_of_lt h)
def kJ (P : List (List Int)) (l : List (List Int)) : Sd :=
  if (l.getD 1 []).getD 1 0 = (l.getD 0 []).getD 1 0 then (2 * (hgt P - ((l.getD 0 []).getD 1 0).toNat), 2 * ((l.getD 0 []).getD 0 0).toNat + 1) else (2 * (hgt P - ((l.getD 0 []).getD 1 0).toNat) - 1, 2 * ((l.getD 0 []).getD 0 0).toNat)
theorem jCl_key (g : Gd P J) (r c : Nat) : ∀ a ∈ jCl P J r c, kJ P a = (r, c) ∧ a ∈ jp P J := fun l hl => by
  unfold jCl at hl
  split at hl
  · rename_i h
    obtain ⟨a, b, hm, hb, hr, hc⟩ := (mem_hor g).mp (gch45 g h)
    rw [List.mem_singleton.mp hl, show c / 2 = a by omega, show (2 * hgt P - r) / 2 = b by omega]
    refine ⟨?_, hm⟩
    show (if (b : Int) = (b : Int) then (2 * (hgt P - b), 2 * a + 1) else _) = _
    rw [if_pos rfl, hr, hc]
  · split at hl
    · rename_i h
      obtain ⟨a, b, hm, hb, hr, hc⟩ := (mem_ver g).mp (gch124 g h)
      rw [List.mem_singleton.mp hl, show c / 2 = a by omega, show (2 * hgt P - r) / 2 = b by omega]
      refine ⟨?_, hm⟩
      show (if (b : Int) + 1 = (b : Int) then _ else (2 * (hgt P - b) - 1, 2 * a)) = _
      rw [if_neg (by omega), hr, hc]
    · cases hl
theorem jAl_perm (h : Pce P J) (g : Gd P J) : (jAl P J (2 * hgt P + 1)).Perm (jp P J) := by
  have nd : (jAl P J (2 * hgt P + 1)).Nodup := cells_nodup (f := jCl P J) (key := kJ P) (fun r c => by
    unfold jCl
    split
    · simp
    · split <;> simp) (fun r c a ha => (jCl_key g r c a ha).1) _ _
  refine (List.perm_ext_iff_of_nodup nd (jp_nodup h)).mpr fun l => ⟨fun ha => ?_, fun hl => ?_⟩
  · obtain ⟨r, _, ha⟩ := List.mem_flatMap.mp ha
    obtain ⟨c, _, ha⟩ := List.mem_flatMap.mp ha
    exact (jCl_key g r c l ha).2
  · obtain ⟨p, hp, e⟩ := List.mem_map.mp hl
    obtain ⟨a, b, ea, ⟨hA, hB⟩, ⟨eb, hw⟩ | ⟨eb, hw⟩⟩ := g.jt p hp
    · rw [ea, eb] at e
      subst e
      refine List.mem_flatMap.mpr ⟨2 * (hgt P - b), List.mem_range.mpr (by omega), List.mem_flatMap.mpr ⟨2 * a + 1, List.mem_range.mpr (by omega), ?_⟩⟩
      unfold jCl
      rw [gch_eo g (by omega), show hgt P - (hgt P - b) = b by omega, if_pos hl, if_pos rfl, show (2 * a + 1) / 2 = a by omega, show (2 * hgt P - 2 * (hgt P - b)) / 2 = b by omega]
      exact List.mem_singleton.mpr rfl
    · rw [ea, eb] at e
      subst e
      refine List.mem_flatMap.mpr ⟨2 * (hgt P - b - 1) + 1, List.mem_range.mpr (by omega), List.mem_flatMap.mpr ⟨2 * a, List.mem_range.mpr (by omega), ?_⟩⟩
      unfold jCl
      have e3 := gch_oe g (d := hgt P - b - 1) (x := a) (by omega)
      rw [show hgt P - (hgt P - b - 1) = b + 1 by omega, show ((b + 1 : Nat) : Int) - 1 = (b : Int) by omega, show ((b + 1 : Nat) : Int) = (b : Int) + 1 by omega, if_pos hl] at e3
      rw [if_neg (by omega), if_pos e3, show (2 * a) / 2 = a by omega, show (2 * hgt P - (2 * (hgt P - b - 1) + 1)) / 2 = b by omega]
      exact List.mem_singleton.mpr rfl
end
def E1_piece_in : AE :=
    (mAndV (m2 (mVar 5) (mVar 1) gIn) (m2 (mVar 6) (mVar 1) gIn))
def C1_piece_in : AA :=
    (mLc (mIS (mVar 2)) (.tp ((.nm 5) :: ((.nm 6) :: []))) [5, 6] tYesD E1_piece_in)
def E2_piece_in : AE :=
    (mTup (mCons (mMet isL (mVar 1) (mCons (mVar 5) mNil) gLIdx) (mCons (mMet isL (mVar 1) (mCons (mVar 6) mNil) gLIdx) mNil)))
def C2_piece_in : AA :=
    (mLc (mIS (mVar 2)) (.tp ((.nm 5) :: ((.nm 6) :: []))) [5, 6] tYesD E2_piece_in)
@[simp] def b_piece_in_5 : AS :=
    (sRet (mVar 4))
@[simp] def b_piece_in_4 : AS :=
    sSeq (sIf (mOr (mNot (mT (mAs (mCons (mVar 4) mNil) (ar 1 c_is_piece)))) (mT (m2 (mAs (mCons (mVar 4) mNil) (ar 1 c_show_piece)) (mJoinO (mC (.str "\n")) (mVar 0)) gNeS))) (sRet (mC .non)) sNext)
    b_piece_in_5
@[simp] def b_piece_in_3 : AS :=
    sSeq (sSet 4 (mTup (mCons (mAs (mCons (mVar 1) mNil) gTupV) (mCons (mAs (mCons (mVar 3) mNil) gTupV) mNil))))
    b_piece_in_4
@[simp] def b_piece_in_2 : AS :=
    sSeq (sSet 3 (mNew (mSortedL C2_piece_in)))
    b_piece_in_3
@[simp] def b_piece_in_1 : AS :=
    sSeq (sIf (mNot (mT (mL C1_piece_in gAll))) (sRet (mC .non)) sNext)
    b_piece_in_2
def b_piece_in : AS :=
    sSeq (sAsg (.tp ((.nm 1) :: ((.nm 2) :: []))) (mAs (mCons (mVar 0) mNil) (ar 1 c_told_by)))
    b_piece_in_1
def m_piece_in : List D → Hd → Option (D × Hd) := mDef 7 b_piece_in
abbrev c_piece_in := m_piece_in
theorem piece_in_run {P : List (List Int)} {J : List Sd} (h : Pce P J) (hl : P.length ≤ 60) (hJ : J.length ≤ 390) {n : Nat} {H0 : Hd} (gn : H0[n]? = some (.lst ((gridR P J).map D.str))) :
    ∃ H', m_piece_in [.ref n] H0 = some (pcD false P J, H') := by
  have g := gd_of h hl
  have hn := hlt gn
  obtain ⟨H1, e1, k1⟩ := told_run g gn
  have tp := sortT_perm (jAl P J (2 * hgt P + 1))
  have sp := tp.trans (jAl_perm h g)
  rw [tAl_srt h g] at e1
  have g1 : (H1 ++ [O.lst (P.map T)] ++ [O.lst ((sortT (jAl P J (2 * hgt P + 1))).map TT)])[H1.length]? = some (.lst (P.map T)) := hget_old hget_new
  have g2 : (H1 ++ [O.lst (P.map T)] ++ [O.lst ((sortT (jAl P J (2 * hgt P + 1))).map TT)])[H1.length + 1]? = some (.lst ((sortT (jAl P J (2 * hgt P + 1))).map TT)) := by
    have := hget_new (hp := H1 ++ [O.lst (P.map T)]) (o := .lst ((sortT (jAl P J (2 * hgt P + 1))).map TT))
    rw [List.length_append, List.length_singleton] at this
    exact this
  have hn1 : n < H1.length := by
    have : H1[n]? = some (.lst ((gridR P J).map D.str)) := (k1 n hn).trans gn
    exact hlt this
  have g0 : (H1 ++ [O.lst (P.map T)] ++ [O.lst ((sortT (jAl P J (2 * hgt P + 1))).map TT)])[n]? = some (.lst ((gridR P J).map D.str)) := hget_old (hget_old ((k1 n hn).trans gn))
  generalize H1 ++ [O.lst (P.map T)] ++ [O.lst ((sortT (jAl P J (2 * hgt P + 1))).map TT)] = H2 at e1 g1 g2 g0
  generalize sortT (jAl P J (2 * hgt P + 1)) = S at *
  generalize H1.length = t at *
  have sl : S.length = J.length := by rw [sp.length_eq]; unfold jp; rw [List.length_map]
  have sm : ∀ l ∈ S, ∃ p ∈ J, l = [sqA P p.1, sqA P p.2] := fun l hl => by
    obtain ⟨p, hp, e⟩ := List.mem_map.mp (sp.mem_iff.mp hl)
    exact ⟨p, hp, e.symm⟩
  have a1 : sAsg (.tp ((.nm 1) :: ((.nm 2) :: []))) (mAs (mCons (mVar 0) mNil) (ar 1 c_told_by)) (stD 7 [.ref n]) H0 = some (.nx, [some (.ref n), some (.ref t), some (.ref (t + 1)), none, none, none, none], H2) := asg_of (call_of (cons_of (mVar_of rfl) nil_of) rfl e1) rfl
  have c1 := mLc_typed (fi := mIS (mVar 2)) (t := .tp ((.nm 5) :: ((.nm 6) :: []))) (own := [5, 6]) (tt := tYesD) (te := E1_piece_in) (ls := [some (.ref n), some (.ref t), some (.ref (t + 1)), none, none, none, none]) (hp := H2) TT S (fun _ => true) (fun _ => D.bl true) (mIS_ref (mVar_of rfl) g2) (by rw [sizeLine_eq]; omega) (gdOk1 g2) (fun l hl => by
    obtain ⟨p, hp, rfl⟩ := sm l hl
    obtain ⟨⟨h1, h2⟩, _⟩ := h.ok p hp
    have m1 := sqA_mem (show p.1 < P.length by omega)
    have m2' := sqA_mem h2
    refine ⟨_, rfl, rfl, fun _ => andV_t ((m2_ev (mVar_of rfl) (mVar_of rfl) (gIn_Tl g1 _)).trans (by rw [decide_eq_true m1])) ((m2_ev (mVar_of rfl) (mVar_of rfl) (gIn_Tl g1 _)).trans (by rw [decide_eq_true m2']))⟩)
  rw [List.filter_eq_self.mpr fun _ _ => rfl] at c1
  have ga : gAll (S.map fun _ => D.bl true) H2 = some (.bl true, H2) := (gAll_map (fun _ => true) _ H2).trans (by rw [List.all_eq_true.mpr (fun _ _ => rfl)])
  have a2 : sIf (mNot (mT (mL C1_piece_in gAll))) (sRet (mC .non)) sNext [some (.ref n), some (.ref t), some (.ref (t + 1)), none, none, none, none] H2 = some (.nx, [some (.ref n), some (.ref t), some (.ref (t + 1)), none, none, none, none], H2) := sIf_f (not_of (mT_of ((mL_of (show C1_piece_in _ _ = _ from c1)).trans ga))) rfl
  have nd : P.Nodup := nodup_of_lt h.sq.srt
  have c2 := mLc_typed (fi := mIS (mVar 2)) (t := .tp ((.nm 5) :: ((.nm 6) :: []))) (own := [5, 6]) (tt := tYesD) (te := E2_piece_in) (ls := [some (.ref n), some (.ref t), some (.ref (t + 1)), none, none, none, none]) (hp := H2) TT S (fun _ => true) (fun l => T (pI (P.idxOf (l.getD 0 []), P.idxOf (l.getD 1 [])))) (mIS_ref (mVar_of rfl) g2) (by rw [sizeLine_eq]; omega) (gdOk1 g2) (fun l hl => by
    obtain ⟨p, hp, rfl⟩ := sm l hl
    obtain ⟨⟨h1, h2⟩, _⟩ := h.ok p hp
    have m1 := sqA_mem (show p.1 < P.length by omega)
    have m2' := sqA_mem h2
    exact ⟨_, rfl, rfl, fun _ => tup_of (cons_of (met_of (mVar_of rfl) (isL_of g1) (cons_of (mVar_of rfl) nil_of) (gLIdx_ref g1 m1)) (cons_of (met_of (mVar_of rfl) (isL_of g1) (cons_of (mVar_of rfl) nil_of) (gLIdx_ref g1 m2')) nil_of)) (Nat.le_of_ble_eq_true rfl)⟩)
  rw [List.filter_eq_self.mpr fun _ _ => rfl] at c2
  have es : sortC (S.map fun l => pI (P.idxOf (l.getD 0 []), P.idxOf (l.getD 1 []))) = J.map pI := by
    have ep : (S.map fun l => pI (P.idxOf (l.getD 0 []), P.idxOf (l.getD 1 []))).Perm (J.map pI) := by
      refine (sp.map _).trans (List.Perm.of_eq ?_)
      unfold jp
      rw [List.map_map]
      refine List.map_congr_left fun p hp => ?_
      obtain ⟨⟨h1, h2⟩, _⟩ := h.ok p hp
      show pI (P.idxOf (sqA P p.1), P.idxOf (sqA P p.2)) = pI p
      rw [idxOf_eq nd (sqA_get (show p.1 < P.length by omega)), idxOf_eq nd (sqA_get h2)]
    refine ((sortC_perm _).trans ep).eq_of_pairwise (fun a b _ _ h1 h2 => List.le_antisymm h1 h2) (sortC_sorted _) ?_
    rw [List.pairwise_map]
    exact h.srt.imp fun h => List.le_of_lt h
  have a3 : sSet 3 (mNew (mSortedL C2_piece_in)) [some (.ref n), some (.ref t), some (.ref (t + 1)), none, none, none, none] H2 = some (.nx, [some (.ref n), some (.ref t), some (.ref (t + 1)), some (.ref H2.length), none, none, none], H2 ++ [.lst ((J.map pI).map T)]) := by
    refine sSet_of (mNew_of ?_)
    have c2' : C2_piece_in [some (.ref n), some (.ref t), some (.ref (t + 1)), none, none, none, none] H2 = some ((S.map fun l => pI (P.idxOf (l.getD 0 []), P.idxOf (l.getD 1 []))).map T, H2) := by
      refine Eq.trans c2 ?_
      rw [List.map_map]
      rfl
    rw [mSortedL_s, c2']
    dsimp only
    rw [gSrt_T (fun c hc => by
      obtain ⟨p, _, rfl⟩ := List.mem_map.mp hc
      unfold pI
      simp), es]
  have t1 : gTupV [.ref t] (H2 ++ [O.lst ((J.map pI).map T)]) = some (.tup (P.map T), H2 ++ [O.lst ((J.map pI).map T)]) := by
    unfold gTupV seqOfL lstOf
    dsimp only
    rw [hget_old g1]
  have t2 : gTupV [.ref H2.length] (H2 ++ [O.lst ((J.map pI).map T)]) = some (.tup ((J.map pI).map T), H2 ++ [O.lst ((J.map pI).map T)]) := by
    unfold gTupV seqOfL lstOf
    dsimp only
    rw [hget_new]
  have a4 : sSet 4 (mTup (mCons (mAs (mCons (mVar 1) mNil) gTupV) (mCons (mAs (mCons (mVar 3) mNil) gTupV) mNil))) [some (.ref n), some (.ref t), some (.ref (t + 1)), some (.ref H2.length), none, none, none] (H2 ++ [O.lst ((J.map pI).map T)]) = some (.nx, [some (.ref n), some (.ref t), some (.ref (t + 1)), some (.ref H2.length), some (pcD false P J), none, none], H2 ++ [O.lst ((J.map pI).map T)]) :=
    sSet_of (tup_of (cons_of (as_of (cons_of (mVar_of rfl) nil_of) t1) (cons_of (as_of (cons_of (mVar_of rfl) nil_of) t2) nil_of)) (Nat.le_of_ble_eq_true rfl))
  have b1 : mNot (mT (mAs (mCons (mVar 4) mNil) (ar 1 c_is_piece))) [some (.ref n), some (.ref t), some (.ref (t + 1)), some (.ref H2.length), some (pcD false P J), none, none] (H2 ++ [O.lst ((J.map pI).map T)]) = some (false, H2 ++ [O.lst ((J.map pI).map T)]) := not_of (mT_of (call_of (cons_of (mVar_of rfl) nil_of) rfl (piece_ok _ false h hJ)))
  have b2 : mT (m2 (mAs (mCons (mVar 4) mNil) (ar 1 c_show_piece)) (mJoinO (mC (.str "\n")) (mVar 0)) gNeS) [some (.ref n), some (.ref t), some (.ref (t + 1)), some (.ref H2.length), some (pcD false P J), none, none] (H2 ++ [O.lst ((J.map pI).map T)]) = some (false, H2 ++ [O.lst ((J.map pI).map T)]) :=
    mT_of (m2_ev (call_of (cons_of (mVar_of rfl) nil_of) rfl (show_ok _ h hl (by omega))) (mJoinO_of mC_of (mVar_of rfl) (hget_old g0) (grid_fit g)) (gNeS_self _ _))
  exact ⟨_, def_of (sSeq_of a1 (sSeq_of a2 (sSeq_of a3 (sSeq_of a4 (sSeq_of (sIf_f (or_f b1 b2) rfl) (ret_of (mVar_of rfl)))))))⟩
def B1_read_piece : AS :=
    (sIf (mNot (mT (mAs (mCons (mVar 3) (mCons (mVar 2) (mCons (mAs (mCons (m2 (mVar 1) (mC (.int 0)) gIx) mNil) gLen) mNil))) (ar 3 c_is_row)))) (fun _ _ => none) sNext)
def F1_read_piece : AS := (sForI (mEnum (mVar 1)) (.tp ((.nm 2) :: ((.nm 3) :: []))) B1_read_piece)
@[simp] def b_read_piece_5 : AS :=
    (sRet (mVar 4))
@[simp] def b_read_piece_4 : AS :=
    sSeq (sIf (mT (m2 (mVar 4) (mC .non) gIs)) (fun _ _ => none) sNext)
    b_read_piece_5
@[simp] def b_read_piece_3 : AS :=
    sSeq (sSet 4 (mAs (mCons (mVar 1) mNil) (ar 1 c_piece_in)))
    b_read_piece_4
@[simp] def b_read_piece_2 : AS :=
    sSeq F1_read_piece
    b_read_piece_3
@[simp] def b_read_piece_1 : AS :=
    sSeq (sSet 1 (mNew (mSplit (mVar 0) (mC (.str "\n")))))
    b_read_piece_2
def b_read_piece : AS :=
    sSeq (sIf (mNot (mT (mIsi "str" (mVar 0)))) (fun _ _ => none) sNext)
    b_read_piece_1
def m_read_piece : List D → Hd → Option (D × Hd) := mDef 5 b_read_piece
def c_read_piece := cV m_read_piece
theorem con_read_piece : Cl c_read_piece m_read_piece := cl_cV _
theorem grid_split {P : List (List Int)} {J : List Sd} (g : Gd P J) : Txt.split (pcT P J) "\n" = gridR P J := by
  refine TL.split_join (s := 10) (S := []) (by decide) (by decide +kernel) ?_ fun p hp => ?_
  · intro e
    have := congrArg List.length e
    unfold gridR at this
    rw [List.length_map, List.length_range] at this
    simp at this
  · obtain ⟨r, _, rfl⟩ := List.mem_map.mp hp
    rw [tl_rwN]
    intro hm
    obtain ⟨c, _, e⟩ := List.mem_map.mp hm
    have := gch_vals P J r c
    omega
theorem pcT_len {P : List (List Int)} {J : List Sd} (g : Gd P J) : (pcT P J).length ≤ 100000 := by
  have big := g.big
  have h1 := join_le (s := "\n") (b := 129) (ys := gridR P J) (fun y hy => by
    obtain ⟨r, _, rfl⟩ := List.mem_map.mp hy
    rw [rwN_len]; omega)
  have h2 : (gridR P J).length = 2 * hgt P + 1 := by unfold gridR; rw [List.length_map, List.length_range]
  rw [h2, show ("\n" : Str).length = 1 by decide] at h1
  have h3 : (2 * hgt P + 1) * (129 + 1) ≤ 129 * 130 := Nat.mul_le_mul (by omega) (by omega)
  unfold pcT
  omega
theorem read_ok (hp : Hd) {P : List (List Int)} {J : List Sd} (h : Pce P J) (hl : P.length ≤ 60) (hJ : J.length ≤ 390) : c_read_piece [.str (pcT P J)] hp = some (pcD false P J, hp) := by
  have g := gd_of h hl
  have big := g.big
  have a1 : sIf (mNot (mT (mIsi "str" (mVar 0)))) (fun _ _ => none) sNext (stD 5 [.str (pcT P J)]) [] = some (.nx, stD 5 [.str (pcT P J)], []) := sIf_f (not_of (mT_of (isi_ev (mVar_of rfl) (show gIsi "str" [.str (pcT P J)] [] = some (.bl true, []) from rfl)))) rfl
  have es := mSplit_of (fo := mVar 0) (fa := mC (.str "\n")) (ls := stD 5 [.str (pcT P J)]) (hp := []) (a := pcT P J) (b := "\n") (mVar_of rfl) mC_of (by decide) (by have := pcT_len g; rw [sizeLine_eq]; omega)
  rw [grid_split g] at es
  have a2 := sSet_of (i := 1) (mNew_of es)
  have ig : enumD ((gridR P J).map D.str) = (List.range (2 * hgt P + 1)).map fun r => D.tup [.int (r : Nat), .str (grR P J r)] := by
    rw [gridR_eq, List.map_map, enumD_range]
    rfl
  obtain ⟨ls', H', e3, v2, v3, rfl, rfl⟩ := sForI_pre (fi := mEnum (mVar 1)) (t := .tp ((.nm 2) :: ((.nm 3) :: []))) (b := B1_read_piece) (gd := [(0, (gridR P J).map D.str)]) (items := List.range (2 * hgt P + 1)) (ls := [some (.str (pcT P J)), some (.ref 0), none, none, none]) (hp := [.lst ((gridR P J).map D.str)]) (hp1 := [.lst ((gridR P J).map D.str)]) (fun r : Nat => D.tup [.int (r : Nat), .str (grR P J r)])
    (fun d ls G => ∃ v2 v3, ls = [some (.str (pcT P J)), some (.ref 0), v2, v3, none] ∧ G = [.lst ((gridR P J).map D.str)]) (by rw [← ig]; exact mEnum_ref (mVar_of rfl) rfl) (fun d ls G h => by
      obtain ⟨_, _, _, rfl⟩ := h
      exact gdOk1 rfl) ⟨_, _, rfl, rfl⟩ (by
      rintro d r q ls G ed ⟨v2, v3, rfl, rfl⟩
      obtain ⟨rfl, hr⟩ := range_at ed
      generalize d.length = r at *
      have gx : gIx (.ref 0) (.int 0) [O.lst ((gridR P J).map D.str)] = some (.str (grR P J 0), [O.lst ((gridR P J).map D.str)]) := gIx_lst0 rfl (by
        rw [gridR_eq, List.map_map, List.getElem?_map, List.getElem?_range (by omega)]
        rfl)
      have gl : gLen [.str (grR P J 0)] [O.lst ((gridR P J).map D.str)] = some (.int ((2 * wdt P + 1 : Nat) : Int), [O.lst ((gridR P J).map D.str)]) := by
        have hl : (grR P J 0).length = 2 * wdt P + 1 := rwN_len _ _
        show (if (grR P J 0).length ≤ sizeLine then some (D.int ((grR P J 0).length : Nat), _) else none) = _
        rw [hl, if_pos (by rw [sizeLine_eq]; omega)]
      refine ⟨_, _, _, rfl, .inl (sIf_f (not_of (mT_of (call_of (cons_of (mVar_of rfl) (cons_of (mVar_of rfl) (cons_of (as_of (cons_of (m2_ev (mVar_of rfl) mC_of gx) nil_of) gl) nil_of))) rfl (is_row_ok g r (by omega) _)))) rfl), _, _, rfl, rfl⟩)
  have e3' : F1_read_piece _ _ = _ := e3
  obtain ⟨H2, e4⟩ := piece_in_run h hl hJ (n := 0) (H0 := [.lst ((gridR P J).map D.str)]) rfl
  have a4 : sSet 4 (mAs (mCons (mVar 1) mNil) (ar 1 c_piece_in)) [some (.str (pcT P J)), some (.ref 0), v2, v3, none] [.lst ((gridR P J).map D.str)] = some (.nx, [some (.str (pcT P J)), some (.ref 0), v2, v3, some (pcD false P J)], H2) := sSet_of (call_of (cons_of (mVar_of rfl) nil_of) rfl e4)
  have b5 : mT (m2 (mVar 4) (mC .non) gIs) [some (.str (pcT P J)), some (.ref 0), v2, v3, some (pcD false P J)] H2 = some (false, H2) := mT_of (m2_ev (mVar_of rfl) mC_of rfl)
  exact cV_of rfl (def_of (sSeq_of a1 (sSeq_of a2 (sSeq_of e3' (sSeq_of a4 (sSeq_of (sIf_f b5 rfl) (ret_of (mVar_of rfl)))))))) (nr_pcD _ _ _)
end Lw
namespace Lw
open PySem PySem.Spec L2 Ve
@[simp] def b_L_same_3 (c_rec : List D → Hd → Option (D × Hd)) : AS :=
    (sRet (m2 (mVar 0) (mVar 1) gEq))
@[simp] def b_L_same_2 (c_rec : List D → Hd → Option (D × Hd)) : AS :=
    sSeq (sIf (mOr (mT (mIsi "bool" (mVar 0))) (mT (mIsi "int" (mVar 0)))) (sRet (mAndV (mIsi "int" (mVar 1)) (mAndV (m2 (mIsi "bool" (mVar 0)) (mIsi "bool" (mVar 1)) gEq) (m2 (mVar 0) (mVar 1) gEq)))) sNext)
    (b_L_same_3 c_rec)
@[simp] def b_L_same_1 (c_rec : List D → Hd → Option (D × Hd)) : AS :=
    sSeq (sIf (mT (mIsi "list" (mVar 0))) (sRet (mAndV (mIsi "list" (mVar 1)) (mAndV (m2 (mAs (mCons (mVar 0) mNil) gLen) (mAs (mCons (mVar 1) mNil) gLen) gEq) (mL (mLc (mZip (mVar 0) (mVar 1)) (.tp ((.nm 2) :: ((.nm 3) :: []))) [2, 3] tYesD (mAs (mCons (mVar 2) (mCons (mVar 3) mNil)) (ar 2 c_rec))) gAll)))) sNext)
    (b_L_same_2 c_rec)
def b_L_same (c_rec : List D → Hd → Option (D × Hd)) : AS :=
    sSeq (sIf (mT (mIsi "tuple" (mVar 0))) (sRet (mAndV (mIsi "tuple" (mVar 1)) (mAndV (m2 (mAs (mCons (mVar 0) mNil) gLen) (mAs (mCons (mVar 1) mNil) gLen) gEq) (mL (mLc (mZip (mVar 0) (mVar 1)) (.tp ((.nm 2) :: ((.nm 3) :: []))) [2, 3] tYesD (mAs (mCons (mVar 2) (mCons (mVar 3) mNil)) (ar 2 c_rec))) gAll)))) sNext)
    (b_L_same_1 c_rec)
def m_L_same : Nat → List D → Hd → Option (D × Hd)
  | 0 => fun _ _ => none
  | d + 1 => mDef 4 (b_L_same (m_L_same d))
abbrev c_L_same := m_L_same 8
inductive Flt : Nat → D → Prop where
  | int {d : Nat} {i : Int} : Flt (d + 1) (.int i)
  | bl {d : Nat} {b : Bool} : Flt (d + 1) (.bl b)
  | tup {d : Nat} {xs : List D} : xs.length ≤ 1000 → (∀ x ∈ xs, Flt d x) → Flt (d + 1) (.tup xs)
theorem zipD_self : ∀ xs : List D, zipD xs xs = xs.map fun x => D.tup [x, x]
  | [] => rfl
  | x :: xs => by
    show D.tup [x, x] :: zipD xs xs = _
    rw [zipD_self xs]
    rfl
theorem same_self (hp : Hd) : ∀ {d : Nat} {x : D}, Flt d x → m_L_same d [x, x] hp = some (.bl true, hp)
  | d + 1, _, .int (i := i) => by
    have e : m_L_same (d + 1) [.int i, .int i] hp = some (.bl (i == i), hp) := by kernel_rfl
    rw [e, beq_self_eq_true]
  | d + 1, _, .bl (b := b) => by
    cases b
    · kernel_rfl
    · kernel_rfl
  | d + 1, _, .tup (xs := xs) hl hx => by
    have e1 := mLc_typed (fi := mZip (mVar 0) (mVar 1)) (t := .tp ((.nm 2) :: ((.nm 3) :: []))) (own := [2, 3]) (tt := tYesD) (te := mAs (mCons (mVar 2) (mCons (mVar 3) mNil)) (ar 2 (m_L_same d))) (ls := [some (.tup xs), some (.tup xs), none, none]) (fun x : D => D.tup [x, x]) xs (fun _ => true) (fun _ => D.bl true)
      (gd := []) (hp := hp) (hp1 := hp) (by
        show some (zipD xs xs, _, hp) = _
        rw [zipD_self]) (by rw [sizeLine_eq]; omega) rfl (fun x h => ⟨[some (.tup xs), some (.tup xs), some x, some x], by rw [asg_tp]; rfl, rfl, fun _ => call_of (cons_of (mVar_of rfl) (cons_of (mVar_of rfl) nil_of)) rfl (same_self hp (hx x h))⟩)
    rw [List.filter_eq_self.mpr (fun _ _ => rfl)] at e1
    have e2 : gAll (xs.map fun _ => D.bl true) hp = some (.bl true, hp) := (gAll_map (fun _ => true) xs hp).trans (by rw [List.all_eq_true.mpr (fun _ _ => rfl)])
    have e3 : mAndV (mIsi "tuple" (mVar 1)) (mAndV (m2 (mAs (mCons (mVar 0) mNil) gLen) (mAs (mCons (mVar 1) mNil) gLen) gEq) (mL (mLc (mZip (mVar 0) (mVar 1)) (.tp ((.nm 2) :: ((.nm 3) :: []))) [2, 3] tYesD (mAs (mCons (mVar 2) (mCons (mVar 3) mNil)) (ar 2 (m_L_same d)))) gAll)) [some (.tup xs), some (.tup xs), none, none] hp = some (.bl true, hp) :=
      andV_t rfl (andV_t ((m2_ev (as_of (cons_of (mVar_of rfl) nil_of) rfl) (as_of (cons_of (mVar_of rfl) nil_of) rfl) gEq_int).trans (by rw [beq_self_eq_true])) ((mL_of e1).trans e2))
    exact def_of (seq_ret (if_ev (b := true) (hp1 := hp) rfl (ret_of e3)))
theorem flt_T (a : List Int) (h : a.length ≤ 1000) : Flt 2 (T a) := .tup (by rw [List.length_map]; exact h) fun x hx => by
  obtain ⟨i, _, rfl⟩ := List.mem_map.mp hx
  exact .int
theorem Flt.up {d : Nat} {x : D} (h : Flt d x) : ∀ k, Flt (d + k) x := by
  induction h with
  | int => intro k; rw [show ∀ d k, d + 1 + k = d + k + 1 by omega]; exact .int
  | bl => intro k; rw [show ∀ d k, d + 1 + k = d + k + 1 by omega]; exact .bl
  | tup hl _ ih => intro k; rw [show ∀ d k, d + 1 + k = d + k + 1 by omega]; exact .tup hl fun x hx => ih x hx k
theorem flt_pc (P : List (List Int)) (J : List Sd) (h : Pce P J) (hl : P.length ≤ 60) (hJ : J.length ≤ 390) : Flt 8 (pcD false P J) := by
  have f1 : Flt 6 (.tup (P.map T)) := .tup (by rw [List.length_map]; omega) fun x hx => by
    obtain ⟨c, hc, rfl⟩ := List.mem_map.mp hx
    obtain ⟨a, b, rfl⟩ := h.sq.two c hc
    exact (flt_T [a, b] (by simp)).up 3
  have f2 : Flt 6 (.tup ((J.map pI).map T)) := .tup (by rw [List.length_map, List.length_map]; omega) fun x hx => by
    obtain ⟨c, hc, rfl⟩ := List.mem_map.mp hx
    obtain ⟨p, _, rfl⟩ := List.mem_map.mp hc
    exact (flt_T (pI p) (by unfold pI; simp)).up 3
  exact (Flt.tup (d := 6) (xs := [.tup (P.map T), .tup ((J.map pI).map T)]) (by simp) fun x hx => by
    rcases List.mem_cons.mp hx with z | z
    · rw [z]; exact f1
    · rw [List.mem_singleton.mp z]; exact f2).up 1
def shI (i : Int) : Str := (PyData.int i).shown
theorem shI_len {i : Int} (h : i.natAbs < 10 ^ 91) : (shI i).length ≤ 92 := by
  have := int_text_length_le10 (a := i) (k := 91) (by decide) h
  unfold shI
  rw [PyData.shown, ofString_length]
  omega
theorem str_big {i : Int} (h : i.natAbs < 10 ^ 91) (hp : Hd) : gStr [.int i] hp = some (.str (shI i), hp) := by
  have hl : i.natAbs.log2 < 400 := by
    by_cases z : i.natAbs = 0
    · rw [z]; decide
    · exact (Nat.log2_lt z).mpr (Nat.lt_of_lt_of_le h (by decide +kernel))
  have hlen := shI_len h
  have ok : reprOk (.int i) = true := by
    unfold reprOk
    have h1 : (PyData.int i).showable = true := by
      show decide (i.natAbs.log2 < 1920) = true
      exact decide_eq_true (by omega)
    have h2 : (PyData.int i).hasDict = false := rfl
    have h3 : (PyData.int i).depth ≤ 40 := Nat.zero_le _
    rw [h1, h2, decide_eq_true h3, decide_eq_true (by unfold shI at hlen; rw [sizeLine_eq]; omega)]
    rfl
  unfold gStr
  dsimp only
  rw [show pyF hp 15 (.int i) = some (.int i) from rfl]
  dsimp only
  rw [if_pos (by rw [ok]; rfl)]
  rfl
theorem cols_fit {cs : List Int} (h : ∀ i ∈ cs, i.natAbs < 10 ^ 91) (hl : cs.length ≤ 100) : ((cs.map shI).map (·.length)).sum + (cs.map shI).length * (" " : Str).length ≤ 16777216 := by
  refine jn_fit (b := 92) (fun y hy => ?_) ?_
  · obtain ⟨i, hi, rfl⟩ := List.mem_map.mp hy
    exact shI_len (h i hi)
  · rw [List.length_map, show (" " : Str).length = 1 by decide]
    have : cs.length * (92 + 1) ≤ 100 * 93 := Nat.mul_le_mul hl (by decide)
    omega
def E1_show_colours : AE :=
    (mAs (mCons (mVar 1) mNil) gStr)
def C1_show_colours : AA :=
    (mLc (mIS (mVar 0)) (.nm 1) [1] tYesD E1_show_colours)
def b_show_colours : AS :=
    (sRet (mJoin (mC (.str " ")) C1_show_colours))
def m_show_colours : List D → Hd → Option (D × Hd) := mDef 2 b_show_colours
abbrev c_show_colours := m_show_colours
theorem colours_ok {cs : List Int} (h : ∀ i ∈ cs, i.natAbs < 10 ^ 91) (hl : cs.length ≤ 100) (hp : Hd) : m_show_colours [T cs] hp = some (.str (Txt.join " " (cs.map shI)), hp) := by
  have el := mLc_typed (fi := mIS (mVar 0)) (t := .nm 1) (own := [1]) (tt := tYesD) (te := E1_show_colours) (ls := [some (T cs), none]) (hp := hp) (gd := []) D.int cs (fun _ => true) (fun i => D.str (shI i)) (mIS_tup (mVar_of rfl)) (by rw [sizeLine_eq]; omega) rfl (fun i hi => ⟨_, asg_nm, rfl, fun _ => as_of (cons_of (mVar_of rfl) nil_of) (str_big (h i hi) hp)⟩)
  rw [List.filter_eq_self.mpr fun _ _ => rfl] at el
  have el' : C1_show_colours [some (T cs), none] hp = some ((cs.map shI).map D.str, hp) := by
    refine Eq.trans el ?_
    rw [List.map_map]
    rfl
  exact def_of (ret_of (mJoin_of mC_of el' (cols_fit h hl)))
end Lw
namespace Lw
open PySem PySem.Spec L2 Ve
def E1_law : AE :=
    (m2 (mVar 5) (mAs (mCons (mVar 2) (mCons (mC (.int 12)) mNil)) (ar 2 c_L_take)) gAdd)
def C1_law : AA :=
    (mLc (mR1 (mCons (mAs (mCons (mVar 2) (mCons (mC (.int 9)) mNil)) (ar 2 c_L_take)) mNil)) (.nm 7) [7] tYesD E1_law)
def E2_law : AE :=
    (mAs (mCons (mVar 8) mNil) gStr)
def C2_law : AA :=
    (mLc (mIS (mVar 6)) (.nm 8) [8] tYesD E2_law)
@[simp] def B1_law_7 : AS :=
    (sIf (mT (m2 (mAs (mCons (mVar 6) mNil) (ar 1 c_show_colours)) (mJoin (mC (.str " ")) C2_law) gNeS)) (sRet (mC (.bl false))) sNext)
@[simp] def B1_law_6 : AS :=
    sSeq (sSet 6 (mL C1_law gTup))
    B1_law_7
@[simp] def B1_law_5 : AS :=
    sSeq (sSet 5 (m2 (mNew (mLst (mCons (mC (.int 0)) (mCons (m2 (m2 (mC (.int 10)) (mC (.int 60)) gPow) (m2 (mC (.int 10)) (mC (.int 29)) gPow) gMul) mNil)))) (mAs (mCons (m2 (mAs (mCons (mVar 2) (mCons (mC (.int 8)) mNil)) (ar 2 c_L_take)) (mC (.int 0)) gEq) mNil) gInt) gIx))
    B1_law_6
@[simp] def B1_law_4 : AS :=
    sSeq (sIf (mNot (mT (mAs (mCons (mAs (mCons (mAs (mCons (mVar 3) mNil) (ar 1 c_show_piece)) mNil) (ar 1 c_read_piece)) (mCons (mVar 3) mNil)) (ar 2 c_L_same)))) (sRet (mC (.bl false))) sNext)
    B1_law_5
@[simp] def B1_law_3 : AS :=
    sSeq (sIf (mOr (mT (m2 (mAs (mCons (mVar 3) mNil) (ar 1 c_show_piece)) (mVar 4) gNeS)) (mNot (mT (mAs (mCons (mAs (mCons (mVar 4) mNil) (ar 1 c_read_piece)) (mCons (mVar 3) mNil)) (ar 2 c_L_same))))) (sRet (mC (.bl false))) sNext)
    B1_law_4
@[simp] def B1_law_2 : AS :=
    sSeq (sSet 4 (mAs (mCons (mVar 3) mNil) (ar 1 c_L_text)))
    B1_law_3
@[simp] def B1_law_1 : AS :=
    sSeq (sSet 3 (mAs (mCons (mVar 2) mNil) (ar 1 c_L_piece)))
    B1_law_2
def B1_law : AS :=
    sSeq (sSet 2 (mAs (mCons (mVar 0) (mCons (mVar 1) mNil)) (ar 2 c_L_hand)))
    B1_law_1
def F1_law : AS := (sForI (mR1 (mCons (mAs (mCons (mC (.int 1)) (mCons (mAs (mCons (mAs (mCons (mVar 0) mNil) gLen) (mCons (mC (.int 8)) mNil)) gMin2) mNil)) gMax2) mNil)) (.nm 1) B1_law)
@[simp] def b_law_1 : AS :=
    (sRet (mC (.bl true)))
def b_law : AS :=
    sSeq F1_law
    b_law_1
def m_law : List D → Hd → Option (D × Hd) := mDef 9 b_law
theorem row_ok (ns : List Int) (k : Nat) (hk : k < 100) (v2 v3 v4 v5 v6 v7 v8 : Option D) (H : Hd) : ∃ w2 w3 w4 w5 w6 w7 w8 H', B1_law [some (.scr ns), some (.int (k : Nat)), v2, v3, v4, v5, v6, v7, v8] H = some (.nx, [some (.scr ns), some (.int (k : Nat)), w2, w3, w4, w5, w6, w7, w8], H') := by
  obtain ⟨o, e0, ho⟩ := hand_ok ns k hk H
  have s2 := sSet_of (i := 2) (call_of (fr := mCons (mVar 0) (mCons (mVar 1) mNil)) (k := 2) (g := c_L_hand) (ls := [some (.scr ns), some (.int (k : Nat)), v2, v3, v4, v5, v6, v7, v8]) (hp := H) (cons_of (mVar_of rfl) (cons_of (mVar_of rfl) nil_of)) rfl e0)
  obtain ⟨P, J, o1, e1, pc, hP, hJ, ho1⟩ := piece_drawn 0 (by decide) o ho
  have gn : (H ++ [o])[H.length]? = some o := hget_new
  have e1 := e1 _ _ gn
  have gn1 : ((H ++ [o]).set H.length o1)[H.length]? = some o1 := hset_same gn
  generalize (H ++ [o]).set H.length o1 = H1 at e1 gn1
  generalize H.length = n at *
  have hJ2 : J.length ≤ 390 := by have := joints_few pc; omega
  have s3 := sSet_of (i := 3) (call_of (fr := mCons (mVar 2) mNil) (k := 1) (g := c_L_piece) (ls := [some (.scr ns), some (.int (k : Nat)), some (.ref n), v3, v4, v5, v6, v7, v8]) (cons_of (mVar_of rfl) nil_of) rfl e1)
  have s4 := sSet_of (i := 4) (call_of (fr := mCons (mVar 3) mNil) (k := 1) (g := c_L_text) (ls := [some (.scr ns), some (.int (k : Nat)), some (.ref n), some (pcD false P J), v4, v5, v6, v7, v8]) (cons_of (mVar_of rfl) nil_of) rfl (text_ok H1 pc (by omega) (by omega)))
  have sh := show_ok H1 pc (show P.length ≤ 60 by omega) (show J.length ≤ 1000 by omega)
  have rd := read_ok H1 pc (show P.length ≤ 60 by omega) hJ2
  have sm : c_L_same [pcD false P J, pcD false P J] H1 = some (.bl true, H1) := same_self H1 (flt_pc P J pc (by omega) hJ2)
  have s5 : sIf (mOr (mT (m2 (mAs (mCons (mVar 3) mNil) (ar 1 c_show_piece)) (mVar 4) gNeS)) (mNot (mT (mAs (mCons (mAs (mCons (mVar 4) mNil) (ar 1 c_read_piece)) (mCons (mVar 3) mNil)) (ar 2 c_L_same))))) (sRet (mC (.bl false))) sNext [some (.scr ns), some (.int (k : Nat)), some (.ref n), some (pcD false P J), some (.str (pcT P J)), v5, v6, v7, v8] H1 = some (.nx, [some (.scr ns), some (.int (k : Nat)), some (.ref n), some (pcD false P J), some (.str (pcT P J)), v5, v6, v7, v8], H1) :=
    sIf_f (or_f (mT_of (m2_ev (call_of (cons_of (mVar_of rfl) nil_of) rfl sh) (mVar_of rfl) (gNeS_self _ _))) (not_of (mT_of (call_of (cons_of (call_of (cons_of (mVar_of rfl) nil_of) rfl rd) (cons_of (mVar_of rfl) nil_of)) rfl sm)))) rfl
  have s6 : sIf (mNot (mT (mAs (mCons (mAs (mCons (mAs (mCons (mVar 3) mNil) (ar 1 c_show_piece)) mNil) (ar 1 c_read_piece)) (mCons (mVar 3) mNil)) (ar 2 c_L_same)))) (sRet (mC (.bl false))) sNext [some (.scr ns), some (.int (k : Nat)), some (.ref n), some (pcD false P J), some (.str (pcT P J)), v5, v6, v7, v8] H1 = some (.nx, [some (.scr ns), some (.int (k : Nat)), some (.ref n), some (pcD false P J), some (.str (pcT P J)), v5, v6, v7, v8], H1) :=
    sIf_f (not_of (mT_of (call_of (cons_of (call_of (cons_of (call_of (cons_of (mVar_of rfl) nil_of) rfl sh) nil_of) rfl rd) (cons_of (mVar_of rfl) nil_of)) rfl sm))) rfl
  have ef : ∀ G : Hd, mLst (mCons (mC (.int 0)) (mCons (m2 (m2 (mC (.int 10)) (mC (.int 60)) gPow) (m2 (mC (.int 10)) (mC (.int 29)) gPow) gMul) mNil)) [some (.scr ns), some (.int (k : Nat)), some (.ref n), some (pcD false P J), some (.str (pcT P J)), v5, v6, v7, v8] G = some ([.int 0, .int (10 ^ 60 * 10 ^ 29)], G) := fun G =>
    lst_of (cons_of mC_of (cons_of (m2_ev (m2_ev mC_of mC_of (show gPow (.int 10) (.int 60) G = some (.int (10 ^ 60), G) from rfl)) (m2_ev mC_of mC_of (show gPow (.int 10) (.int 29) G = some (.int (10 ^ 29), G) from rfl)) (gMul_int (by decide +kernel))) nil_of)) (Nat.le_of_ble_eq_true rfl)
  have gnL : (H1 ++ [O.lst [.int 0, .int (10 ^ 60 * 10 ^ 29)]])[n]? = some o1 := hget_old gn1
  obtain ⟨r, o2, e2, r1, r2, ho2⟩ := take_ok 200 (by decide) (H1 ++ [O.lst [.int 0, .int (10 ^ 60 * 10 ^ 29)]]) n o1 gnL ho1 8 (by decide) (by decide)
  have gx : ∃ f : Int, (f = 0 ∨ f = 10 ^ 60 * 10 ^ 29) ∧ ∀ G : Hd, G[H1.length]? = some (O.lst [.int 0, .int (10 ^ 60 * 10 ^ 29)]) → gIx (.ref H1.length) (.int (if (r == 0) = true then 1 else 0)) G = some (.int f, G) := by
    by_cases z : (r == 0) = true
    · exact ⟨_, .inr rfl, fun G hG => by rw [if_pos z]; exact gIx_refN (j := 1) hG rfl⟩
    · exact ⟨_, .inl rfl, fun G hG => by rw [if_neg z]; exact gIx_refN (j := 0) hG rfl⟩
  obtain ⟨f, hf, gx⟩ := gx
  have hne : n ≠ H1.length := by have := hlt gn1; omega
  have gi : ∀ G, gInt [.bl (r == 0)] G = some (.int (if (r == 0) = true then 1 else 0), G) := fun G => by
    cases (r == 0) <;> rfl
  have s7 : sSet 5 (m2 (mNew (mLst (mCons (mC (.int 0)) (mCons (m2 (m2 (mC (.int 10)) (mC (.int 60)) gPow) (m2 (mC (.int 10)) (mC (.int 29)) gPow) gMul) mNil)))) (mAs (mCons (m2 (mAs (mCons (mVar 2) (mCons (mC (.int 8)) mNil)) (ar 2 c_L_take)) (mC (.int 0)) gEq) mNil) gInt) gIx) [some (.scr ns), some (.int (k : Nat)), some (.ref n), some (pcD false P J), some (.str (pcT P J)), v5, v6, v7, v8] H1 = some (.nx, [some (.scr ns), some (.int (k : Nat)), some (.ref n), some (pcD false P J), some (.str (pcT P J)), some (.int f), v6, v7, v8], (H1 ++ [O.lst [.int 0, .int (10 ^ 60 * 10 ^ 29)]]).set n o2) :=
    sSet_of (m2_ev (mNew_of (ef H1)) (as_of (cons_of (m2_ev (call_of (cons_of (mVar_of rfl) (cons_of mC_of nil_of)) rfl e2) mC_of gEq_int) nil_of) (gi _)) (gx _ (hset_ne hne hget_new)))
  have gn2 : ((H1 ++ [O.lst [.int 0, .int (10 ^ 60 * 10 ^ 29)]]).set n o2)[n]? = some o2 := hset_same gnL
  generalize (H1 ++ [O.lst [.int 0, .int (10 ^ 60 * 10 ^ 29)]]).set n o2 = H2 at s7 gn2
  obtain ⟨m, o3, e3, m1, m2', ho3⟩ := take_ok 201 (by decide) H2 n o2 gn2 ho2 9 (by decide) (by decide)
  obtain ⟨m, rfl⟩ := Int.eq_ofNat_of_zero_le m1
  have gn3 : (H2.set n o3)[n]? = some o3 := hset_same gn2
  obtain ⟨out, H4, e4, cs, rfl, hcs, lcs, o4, gn4, ho4⟩ := mLc_pre (fi := mR1 (mCons (mAs (mCons (mVar 2) (mCons (mC (.int 9)) mNil)) (ar 2 c_L_take)) mNil)) (t := .nm 7) (own := [7]) (te := E1_law) (gd := []) (items := List.range m) (ls := [some (.scr ns), some (.int (k : Nat)), some (.ref n), some (pcD false P J), some (.str (pcT P J)), some (.int f), v6, v7, v8]) (hp := H2) (hp1 := H2.set n o3) (fun i : Nat => D.int (i : Nat))
    (fun d o G => ∃ cs : List Int, o = cs.map D.int ∧ (∀ i ∈ cs, i.natAbs < 10 ^ 91) ∧ cs.length = d.length ∧ ∃ oh, G[n]? = some oh ∧ Hand (202 + d.length) oh) (mR1_nat (j := m) (cons_of (call_of (cons_of (mVar_of rfl) (cons_of mC_of nil_of)) rfl e3) nil_of) (by omega)) (by rw [List.length_range, sizeLine_eq]; omega) (fun _ _ _ _ => rfl) ⟨[], rfl, fun i hi => (by cases hi), rfl, o3, gn3, ho3⟩ (by
      rintro d x q o G ed ⟨cs, rfl, hcs, lcs, oh, gh, hh⟩
      obtain ⟨rfl, hd⟩ := range_at ed
      obtain ⟨r, o', e, r1, r2, h'⟩ := take_ok (202 + d.length) (by omega) G n oh gh hh 12 (by decide) (by decide)
      refine ⟨_, _, _, asg_nm, m2_ev (mVar_of rfl) (call_of (cons_of (mVar_of rfl) (cons_of mC_of nil_of)) rfl e) gAdd_int, cs ++ [f + r], by rw [List.map_append]; rfl, fun i hi => ?_, by rw [List.length_append, List.length_append, lcs]; rfl, o', hset_same gh, by rw [List.length_append, List.length_singleton]; exact h'⟩
      rcases List.mem_append.mp hi with z | z
      · exact hcs i z
      · rw [List.mem_singleton.mp z]
        have hb : (10 : Int) ^ 60 * 10 ^ 29 + 20 < 10 ^ 91 := by decide +kernel
        have h0 : (0 : Int) ≤ f ∧ f ≤ 10 ^ 60 * 10 ^ 29 := by
          rcases hf with rfl | rfl
          · exact ⟨Int.le_refl _, by decide +kernel⟩
          · exact ⟨by decide +kernel, Int.le_refl _⟩
        have hc : (((10 : Nat) ^ 91 : Nat) : Int) = (10 : Int) ^ 91 := by decide +kernel
        generalize (10 : Int) ^ 60 * 10 ^ 29 = w at *
        generalize (10 : Int) ^ 91 = y at *
        generalize (10 : Nat) ^ 91 = y' at *
        omega)
  rw [List.length_range] at lcs
  have s8 : sSet 6 (mL C1_law gTup) [some (.scr ns), some (.int (k : Nat)), some (.ref n), some (pcD false P J), some (.str (pcT P J)), some (.int f), v6, v7, v8] H2 = some (.nx, [some (.scr ns), some (.int (k : Nat)), some (.ref n), some (pcD false P J), some (.str (pcT P J)), some (.int f), some (T cs), v7, v8], H4) := sSet_of ((mL_of (show C1_law _ _ = _ from e4)).trans rfl)
  have el := mLc_typed (fi := mIS (mVar 6)) (t := .nm 8) (own := [8]) (tt := tYesD) (te := E2_law) (ls := [some (.scr ns), some (.int (k : Nat)), some (.ref n), some (pcD false P J), some (.str (pcT P J)), some (.int f), some (T cs), v7, v8]) (hp := H4) (gd := []) D.int cs (fun _ => true) (fun i => D.str (shI i)) (mIS_tup (mVar_of rfl)) (by rw [sizeLine_eq]; omega) rfl (fun i hi => ⟨_, asg_nm, rfl, fun _ => as_of (cons_of (mVar_of rfl) nil_of) (str_big (hcs i hi) H4)⟩)
  rw [List.filter_eq_self.mpr fun _ _ => rfl] at el
  have el' : C2_law [some (.scr ns), some (.int (k : Nat)), some (.ref n), some (pcD false P J), some (.str (pcT P J)), some (.int f), some (T cs), v7, v8] H4 = some ((cs.map shI).map D.str, H4) := by
    refine Eq.trans el ?_
    rw [List.map_map]
    rfl
  have s9 : sIf (mT (m2 (mAs (mCons (mVar 6) mNil) (ar 1 c_show_colours)) (mJoin (mC (.str " ")) C2_law) gNeS)) (sRet (mC (.bl false))) sNext [some (.scr ns), some (.int (k : Nat)), some (.ref n), some (pcD false P J), some (.str (pcT P J)), some (.int f), some (T cs), v7, v8] H4 = some (.nx, [some (.scr ns), some (.int (k : Nat)), some (.ref n), some (pcD false P J), some (.str (pcT P J)), some (.int f), some (T cs), v7, v8], H4) :=
    sIf_f (mT_of (m2_ev (call_of (cons_of (mVar_of rfl) nil_of) rfl (colours_ok hcs (by omega) H4)) (mJoin_of mC_of el' (cols_fit hcs (by omega))) (gNeS_self _ _))) rfl
  exact ⟨_, _, _, _, _, _, _, _, sSeq_of s2 (sSeq_of s3 (sSeq_of s4 (sSeq_of s5 (sSeq_of s6 (sSeq_of s7 (sSeq_of s8 s9))))))⟩
theorem law_pure (ns : List Int) (h : ns.length ≤ 63) : ∃ hp', m_law [.scr ns] [] = some (.bl true, hp') := by
  obtain ⟨N, hN, er⟩ : ∃ N : Int, N ≤ 8 ∧ mR1 (mCons (mAs (mCons (mC (.int 1)) (mCons (mAs (mCons (mAs (mCons (mVar 0) mNil) gLen) (mCons (mC (.int 8)) mNil)) gMin2) mNil)) gMax2) mNil) (stD 9 [.scr ns]) [] = some ((List.range N.toNat).map fun i => D.int (i : Nat), [], []) := by
    have h1 : ∃ a : Int, a ≤ 8 ∧ 0 ≤ a ∧ gMin2 [.int (ns.length : Nat), .int 8] [] = some (.int a, []) := by
      by_cases c : (8 : Int) < (ns.length : Int)
      · refine ⟨8, by omega, by omega, ?_⟩
        show some (D.int (if (8 : Int) < (ns.length : Int) then 8 else (ns.length : Int)), []) = _
        rw [if_pos c]
      · refine ⟨(ns.length : Int), by omega, by omega, ?_⟩
        show some (D.int (if (8 : Int) < (ns.length : Int) then 8 else (ns.length : Int)), []) = _
        rw [if_neg c]
    obtain ⟨a, a1, a2, ea⟩ := h1
    have h2 : ∃ b : Int, b ≤ 8 ∧ 0 ≤ b ∧ gMax2 [.int 1, .int a] [] = some (.int b, []) := by
      by_cases c : (1 : Int) < a
      · refine ⟨a, by omega, by omega, ?_⟩
        show some (D.int (if (1 : Int) < a then a else 1), []) = _
        rw [if_pos c]
      · refine ⟨1, by omega, by omega, ?_⟩
        show some (D.int (if (1 : Int) < a then a else 1), []) = _
        rw [if_neg c]
    obtain ⟨b, b1, b2, eb⟩ := h2
    exact ⟨b, b1, mR1_of (j := b) (cons_of (as_of (cons_of mC_of (cons_of (as_of (cons_of (as_of (cons_of (mVar_of rfl) nil_of) rfl) (cons_of mC_of nil_of)) ea) nil_of)) eb) nil_of) (by omega)⟩
  obtain ⟨ls', hp', e, w1, w2, w3, w4, w5, w6, w7, w8, rfl⟩ := sForI_pre (t := .nm 1) (b := B1_law) (gd := []) (items := List.range N.toNat) (hp := []) (ls := stD 9 [.scr ns]) (fun i : Nat => D.int (i : Nat))
    (fun _ ls _ => ∃ w1 w2 w3 w4 w5 w6 w7 w8, ls = [some (.scr ns), w1, w2, w3, w4, w5, w6, w7, w8]) er (fun _ _ _ _ => rfl) ⟨_, _, _, _, _, _, _, _, rfl⟩ (by
      rintro d i r ls H ed ⟨w1, w2, w3, w4, w5, w6, w7, w8, rfl⟩
      obtain ⟨rfl, hi⟩ := range_at ed
      obtain ⟨v2, v3, v4, v5, v6, v7, v8, hp', e⟩ := row_ok ns d.length (by omega) w2 w3 w4 w5 w6 w7 w8 H
      exact ⟨_, _, _, asg_nm, .inl e, _, _, _, _, _, _, _, _, rfl⟩)
  exact ⟨_, def_of (sSeq_of (show F1_law _ _ = _ from e) (ret_of mC_of))⟩
end Lw
namespace Lw
open PySem PySem.Spec L2 Ve
def topS (i : Nat) : Stmt := PySem.Challenge.pw_flatbody_k85_pieces_shown_and_read.main.body.getD i (.Pass ⟨0, 0, 0, 0⟩)
abbrev s_is_whole : Stmt := topS 6
abbrev N_is_whole : List Str := ["thing"]
theorem sc_is_whole : FnScope N_is_whole ["thing"] (defScope s_is_whole) := ⟨rfl, rfl, rfl, by decide +kernel, rfl, by decide +kernel, by decide +kernel⟩
abbrev s_is_pair : Stmt := topS 7
abbrev N_is_pair : List Str := ["thing", "one"]
theorem sc_is_pair : FnScope N_is_pair ["thing"] (defScope s_is_pair) := ⟨rfl, rfl, rfl, by decide +kernel, rfl, by decide +kernel, by decide +kernel⟩
abbrev s_are_rising : Stmt := topS 8
abbrev N_are_rising : List Str := ["things", "one", "other"]
theorem sc_are_rising : FnScope N_are_rising ["things"] (defScope s_are_rising) := ⟨rfl, rfl, rfl, by decide +kernel, rfl, by decide +kernel, by decide +kernel⟩
abbrev s_towards : Stmt := topS 9
abbrev N_towards : List Str := ["one", "other", "step"]
theorem sc_towards : FnScope N_towards ["one", "other"] (defScope s_towards) := ⟨rfl, rfl, rfl, by decide +kernel, rfl, by decide +kernel, by decide +kernel⟩
abbrev s_neighbours : Stmt := topS 10
abbrev N_neighbours : List Str := ["piece", "places", "joints", "found", "a", "b", "k", "square"]
theorem sc_neighbours : FnScope N_neighbours ["piece"] (defScope s_neighbours) := ⟨rfl, rfl, rfl, by decide +kernel, rfl, by decide +kernel, by decide +kernel⟩
abbrev s_is_one : Stmt := topS 11
abbrev N_is_one : List Str := ["piece", "beside", "met", "waiting", "place", "k"]
theorem sc_is_one : FnScope N_is_one ["piece"] (defScope s_is_one) := ⟨rfl, rfl, rfl, by decide +kernel, rfl, by decide +kernel, by decide +kernel⟩
abbrev s_are_squares : Stmt := topS 12
abbrev N_are_squares : List Str := ["thing", "one", "x", "y"]
theorem sc_are_squares : FnScope N_are_squares ["thing"] (defScope s_are_squares) := ⟨rfl, rfl, rfl, by decide +kernel, rfl, by decide +kernel, by decide +kernel⟩
abbrev s_is_joint : Stmt := topS 13
abbrev N_is_joint : List Str := ["thing", "places"]
theorem sc_is_joint : FnScope N_is_joint ["thing", "places"] (defScope s_is_joint) := ⟨rfl, rfl, rfl, by decide +kernel, rfl, by decide +kernel, by decide +kernel⟩
abbrev s_is_piece : Stmt := topS 14
abbrev N_is_piece : List Str := ["thing", "one"]
theorem sc_is_piece : FnScope N_is_piece ["thing"] (defScope s_is_piece) := ⟨rfl, rfl, rfl, by decide +kernel, rfl, by decide +kernel, by decide +kernel⟩
abbrev s_joined_pairs : Stmt := topS 17
abbrev N_joined_pairs : List Str := ["piece", "there", "joints", "a", "b"]
theorem sc_joined_pairs : FnScope N_joined_pairs ["piece"] (defScope s_joined_pairs) := ⟨rfl, rfl, rfl, by decide +kernel, rfl, by decide +kernel, by decide +kernel⟩
abbrev s_square_row : Stmt := topS 18
abbrev N_square_row : List Str := ["there", "joined", "wide", "y", "signs", "x"]
theorem sc_square_row : FnScope N_square_row ["there", "joined", "wide", "y"] (defScope s_square_row) := ⟨rfl, rfl, rfl, by decide +kernel, rfl, by decide +kernel, by decide +kernel⟩
abbrev s_joint_row : Stmt := topS 19
abbrev N_joint_row : List Str := ["joined", "wide", "y", "signs", "x"]
theorem sc_joint_row : FnScope N_joint_row ["joined", "wide", "y"] (defScope s_joint_row) := ⟨rfl, rfl, rfl, by decide +kernel, rfl, by decide +kernel, by decide +kernel⟩
abbrev s_show_piece : Stmt := topS 20
abbrev N_show_piece : List Str := ["piece", "there", "joined", "wide", "rows", "y", "x"]
theorem sc_show_piece : FnScope N_show_piece ["piece"] (defScope s_show_piece) := ⟨rfl, rfl, rfl, by decide +kernel, rfl, by decide +kernel, by decide +kernel⟩
abbrev s_is_row : Stmt := topS 21
abbrev N_is_row : List Str := ["row", "number", "long", "at", "sign"]
theorem sc_is_row : FnScope N_is_row ["row", "number", "long"] (defScope s_is_row) := ⟨rfl, rfl, rfl, by decide +kernel, rfl, by decide +kernel, by decide +kernel⟩
abbrev s_told_by : Stmt := topS 22
abbrev N_told_by : List Str := ["rows", "there", "joined", "number", "row", "y", "at", "sign", "x"]
theorem sc_told_by : FnScope N_told_by ["rows"] (defScope s_told_by) := ⟨rfl, rfl, rfl, by decide +kernel, rfl, by decide +kernel, by decide +kernel⟩
abbrev s_piece_in : Stmt := topS 23
abbrev N_piece_in : List Str := ["rows", "there", "joined", "joints", "piece", "one", "other"]
theorem sc_piece_in : FnScope N_piece_in ["rows"] (defScope s_piece_in) := ⟨rfl, rfl, rfl, by decide +kernel, rfl, by decide +kernel, by decide +kernel⟩
abbrev s_read_piece : Stmt := topS 24
abbrev N_read_piece : List Str := ["text", "rows", "number", "row", "piece"]
theorem sc_read_piece : FnScope N_read_piece ["text"] (defScope s_read_piece) := ⟨rfl, rfl, rfl, by decide +kernel, rfl, by decide +kernel, by decide +kernel⟩
abbrev s_show_colours : Stmt := topS 25
abbrev N_show_colours : List Str := ["colours", "colour"]
theorem sc_show_colours : FnScope N_show_colours ["colours"] (defScope s_show_colours) := ⟨rfl, rfl, rfl, by decide +kernel, rfl, by decide +kernel, by decide +kernel⟩
abbrev s_L_hand : Stmt := topS 27
abbrev N_L_hand : List Str := ["_law_script", "_law_k", "_law_cell"]
theorem sc_L_hand : FnScope N_L_hand ["_law_script", "_law_k"] (defScope s_L_hand) := ⟨rfl, rfl, rfl, by decide +kernel, rfl, by decide +kernel, by decide +kernel⟩
abbrev s_L_take : Stmt := topS 28
abbrev N_L_take : List Str := ["_law_hand_here", "_law_many", "_law_digit", "_law_turn", "_law_mixed", "_law_odd"]
theorem sc_L_take : FnScope N_L_take ["_law_hand_here", "_law_many"] (defScope s_L_take) := ⟨rfl, rfl, rfl, by decide +kernel, rfl, by decide +kernel, by decide +kernel⟩
abbrev s_L_pick : Stmt := topS 29
abbrev N_L_pick : List Str := ["_law_hand_here", "_law_some"]
theorem sc_L_pick : FnScope N_L_pick ["_law_hand_here", "_law_some"] (defScope s_L_pick) := ⟨rfl, rfl, rfl, by decide +kernel, rfl, by decide +kernel, by decide +kernel⟩
abbrev s_L_piece : Stmt := topS 30
abbrev N_L_piece : List Str := ["_law_hand_here", "_law_some", "_law_pairs", "_law_k", "_law_x", "_law_y", "_law_side", "_law_far", "_law_left", "_law_low", "_law_there", "_law_joints", "_law_one"]
theorem sc_L_piece : FnScope N_L_piece ["_law_hand_here"] (defScope s_L_piece) := ⟨rfl, rfl, rfl, by decide +kernel, rfl, by decide +kernel, by decide +kernel⟩
abbrev s_L_text : Stmt := topS 31
abbrev N_L_text : List Str := ["_law_piece_here", "_law_there", "_law_joints", "_law_wide", "_law_high", "_law_rows", "_law_x", "_law_y", "_law_a", "_law_b", "_law_k", "_law_row"]
theorem sc_L_text : FnScope N_L_text ["_law_piece_here"] (defScope s_L_text) := ⟨rfl, rfl, rfl, by decide +kernel, rfl, by decide +kernel, by decide +kernel⟩
abbrev s_L_same : Stmt := topS 32
abbrev N_L_same : List Str := ["_law_one", "_law_two", "_law_a", "_law_b"]
theorem sc_L_same : FnScope N_L_same ["_law_one", "_law_two"] (defScope s_L_same) := ⟨rfl, rfl, rfl, by decide +kernel, rfl, by decide +kernel, by decide +kernel⟩
abbrev s_law : Stmt := topS 33
abbrev N_law : List Str := ["_law_script", "_law_k", "_law_hand_here", "_law_piece_here", "_law_text_here", "_law_far", "_law_colours", "_law_turn", "_law_colour"]
theorem sc_law : FnScope N_law ["_law_script"] (defScope s_law) := ⟨rfl, rfl, rfl, by decide +kernel, rfl, by decide +kernel, by decide +kernel⟩
structure Bi (mg : Str → Option Value) : Prop where
  z_isinstance : mg "isinstance" = none
  z_int : mg "int" = none
  z_bool : mg "bool" = none
  z_tuple : mg "tuple" = none
  z_len : mg "len" = none
  z_all : mg "all" = none
  z_zip : mg "zip" = none
  z_min : mg "min" = none
  z_dict : mg "dict" = none
  z_range : mg "range" = none
  z_max : mg "max" = none
  z_enumerate : mg "enumerate" = none
  z_sorted : mg "sorted" = none
  z_str : mg "str" = none
  z_list : mg "list" = none
structure Ks (K : PySem.W.Frag) (mg : Str → Option Value) : Prop where
  g_MOST_SQUARES' : ∃ u v, mg "MOST_SQUARES" = some u ∧ RelV v u ∧ ∀ H μ, Rp K H μ k_MOST_SQUARES v
  g_STEPS' : ∃ u v, mg "STEPS" = some u ∧ RelV v u ∧ ∀ H μ, Rp K H μ k_STEPS v
  g_SIGNS' : ∃ u v, mg "SIGNS" = some u ∧ RelV v u ∧ ∀ H μ, Rp K H μ k_SIGNS v
section
variable {K : PySem.W.Frag} {mg : Str → Option Value}
theorem Ks.g_MOST_SQUARES (C : Ks K mg) : mg "MOST_SQUARES" = some C.g_MOST_SQUARES'.choose := C.g_MOST_SQUARES'.choose_spec.choose_spec.1
theorem Ks.r_MOST_SQUARES (C : Ks K mg) : RelV C.g_MOST_SQUARES'.choose_spec.choose C.g_MOST_SQUARES'.choose := C.g_MOST_SQUARES'.choose_spec.choose_spec.2.1
theorem Ks.p_MOST_SQUARES (C : Ks K mg) : ∀ H μ, Rp K H μ k_MOST_SQUARES C.g_MOST_SQUARES'.choose_spec.choose := C.g_MOST_SQUARES'.choose_spec.choose_spec.2.2
theorem Ks.g_STEPS (C : Ks K mg) : mg "STEPS" = some C.g_STEPS'.choose := C.g_STEPS'.choose_spec.choose_spec.1
theorem Ks.r_STEPS (C : Ks K mg) : RelV C.g_STEPS'.choose_spec.choose C.g_STEPS'.choose := C.g_STEPS'.choose_spec.choose_spec.2.1
theorem Ks.p_STEPS (C : Ks K mg) : ∀ H μ, Rp K H μ k_STEPS C.g_STEPS'.choose_spec.choose := C.g_STEPS'.choose_spec.choose_spec.2.2
theorem Ks.g_SIGNS (C : Ks K mg) : mg "SIGNS" = some C.g_SIGNS'.choose := C.g_SIGNS'.choose_spec.choose_spec.1
theorem Ks.r_SIGNS (C : Ks K mg) : RelV C.g_SIGNS'.choose_spec.choose C.g_SIGNS'.choose := C.g_SIGNS'.choose_spec.choose_spec.2.1
theorem Ks.p_SIGNS (C : Ks K mg) : ∀ H μ, Rp K H μ k_SIGNS C.g_SIGNS'.choose_spec.choose := C.g_SIGNS'.choose_spec.choose_spec.2.2
end
section
variable {P : Program} {w : World} {K : PySem.W.Frag} {mg : Str → Option Value} {base : Heap}
set_option maxHeartbeats 0 in
theorem ok_is_whole (B : Bi mg) (C : Ks K mg) {f : Addr} {fd : FuncData} (F : Fun K "is_whole" "is_whole" s_is_whole f fd) (gm : mg "is_whole" = some (.ref f)) (hb : Binds K fd ["thing"] []) : Fn P w K mg base 1 "is_whole" 1 m_is_whole := by
  refine fn_mk (N := N_is_whole) (fb := b_is_whole) F sc_is_whole gm hb fun cdv A outer s H E hr => ?_
  have hu := hu_ofG hr
  exact (dss_one (ds_ret (de_and (de_isi (T := "int") (by rfl) B.z_isinstance bb_isinstance (de_var 0) (by rfl) B.z_int bb_int) (de_one (de_not (de_isi (T := "bool") (by rfl) B.z_isinstance bb_isinstance (de_var 0) (by rfl) B.z_bool bb_bool))))))
set_option maxHeartbeats 0 in
theorem ok_is_pair (B : Bi mg) (C : Ks K mg) {f : Addr} {fd : FuncData} (F : Fun K "is_pair" "is_pair" s_is_pair f fd) (gm : mg "is_pair" = some (.ref f)) (hb : Binds K fd ["thing"] []) (F_is_whole : Fn P w K mg base 1 "is_whole" 1 c_is_whole) : Fn P w K mg base 2 "is_pair" 1 m_is_pair := by
  refine fn_mk (N := N_is_pair) (fb := b_is_pair) F sc_is_pair gm hb fun cdv A outer s H E hr => ?_
  have hu := hu_ofG hr
  exact (dss_one (ds_ret (de_and (de_isi (T := "tuple") (by rfl) B.z_isinstance bb_isinstance (de_var 0) (by rfl) B.z_tuple bb_tuple) (de_and (de_cmp (o_eq hr.units) (de_callB c_len (by rfl) B.z_len bb_len (da_cons (de_var 0) da_nil)) de_int (nomark _)) (de_one (de_callBL (n_all rfl) (by rfl) B.z_all bb_all (le_lc (own := [("one", 1)]) rfl sc_is_pair.nd (di_seq (de_var 0)) (blkOk_by (N := N_is_pair) (sc := defScope s_is_pair) (by decide +kernel)) (fun _ _ _ _ _ => (dg_name (i := 1) sc_is_pair.nd rfl (by first | exact Or.inl rfl | exact Or.inr rfl))) (fun _ _ _ _ _ => dts_nil) (fun _ _ _ _ _ => (de_callF (F_is_whole.mono (by decide)) hr (by rfl) (da_cons (de_var 1) da_nil))))))))))
set_option maxHeartbeats 0 in
theorem ok_are_rising (B : Bi mg) (C : Ks K mg) {f : Addr} {fd : FuncData} (F : Fun K "are_rising" "are_rising" s_are_rising f fd) (gm : mg "are_rising" = some (.ref f)) (hb : Binds K fd ["things"] []) : Fn P w K mg base 1 "are_rising" 1 m_are_rising := by
  refine fn_mk (N := N_are_rising) (fb := b_are_rising) F sc_are_rising gm hb fun cdv A outer s H E hr => ?_
  have hu := hu_ofG hr
  exact (dss_one (ds_ret (de_callBL (n_all rfl) (by rfl) B.z_all bb_all (le_lc (own := [("one", 1), ("other", 2)]) rfl sc_are_rising.nd (di_zip (by rfl) B.z_zip (de_var 0) (de_slice (de_var 0) (dpo_some de_int) dpo_none)) (blkOk_by (N := N_are_rising) (sc := defScope s_are_rising) (by decide +kernel)) (fun _ _ _ _ _ => (dg_tup rfl (dgs_cons (dg_name (i := 1) sc_are_rising.nd rfl (by first | exact Or.inl rfl | exact Or.inr rfl)) (dgs_cons (dg_name (i := 2) sc_are_rising.nd rfl (by first | exact Or.inl rfl | exact Or.inr rfl)) dgs_nil)))) (fun _ _ _ _ _ => dts_nil) (fun _ _ _ _ _ => (de_cmp (o_lt hr.units0) (de_var 1) (de_var 2) (nomark _)))))))
set_option maxHeartbeats 0 in
theorem ok_towards (B : Bi mg) (C : Ks K mg) {f : Addr} {fd : FuncData} (F : Fun K "towards" "towards" s_towards f fd) (gm : mg "towards" = some (.ref f)) (hb : Binds K fd ["one", "other"] []) : Fn P w K mg base 1 "towards" 2 m_towards := by
  refine fn_mk (N := N_towards) (fb := b_towards) F sc_towards gm hb fun cdv A outer s H E hr => ?_
  have hu := hu_ofG hr
  exact (dss_cons (ds_set (i := 2) sc_towards.nd rfl (by first | exact Or.inl rfl | exact Or.inr rfl) (de_tup (da_cons (de_op o_sub (de_ix hu (de_var 1) de_int) (de_ix hu (de_var 0) de_int)) (da_cons (de_op o_sub (de_ix hu (de_var 1) de_int) (de_ix hu (de_var 0) de_int)) da_nil))))
    (dss_cons (ds_if (dt_cmp (o_notIn hr.units65) (de_var 2) (de_glob (by rfl) C.g_STEPS C.r_STEPS C.p_STEPS) rfl) (dss_one (ds_ret de_non)) dss_nil)
    (dss_one (ds_ret (de_wm PySem.F.slot_tuple_index PySem.F.type_tuple_index (t_tindex hr.units65) (de_glob (by rfl) C.g_STEPS C.r_STEPS C.p_STEPS) (da_cons (de_var 2) da_nil))))))
set_option maxHeartbeats 0 in
theorem ok_neighbours (B : Bi mg) (C : Ks K mg) {f : Addr} {fd : FuncData} (F : Fun K "neighbours" "neighbours" s_neighbours f fd) (gm : mg "neighbours" = some (.ref f)) (hb : Binds K fd ["piece"] []) (F_towards : Fn P w K mg base 1 "towards" 2 c_towards) : Fn P w K mg base 2 "neighbours" 1 m_neighbours := by
  refine fn_mk (N := N_neighbours) (fb := b_neighbours) F sc_neighbours gm hb fun cdv A outer s H E hr => ?_
  have hu := hu_ofG hr
  exact (dss_cons (ds_asg (de_var 0) (dg_tup rfl (dgs_cons (dg_name (i := 1) sc_neighbours.nd rfl (by first | exact Or.inl rfl | exact Or.inr rfl)) (dgs_cons (dg_name (i := 2) sc_neighbours.nd rfl (by first | exact Or.inl rfl | exact Or.inr rfl)) dgs_nil))))
    (dss_cons (ds_setLc (i := 3) (own := [("square", 7)]) rfl sc_neighbours.nd rfl rfl (sw_true rfl rfl rfl (by decide +kernel)) (di_seq (de_var 1)) (blkOk_by (N := N_neighbours) (sc := defScope s_neighbours) (by decide +kernel)) (fun _ _ _ _ _ => (dg_name (i := 7) sc_neighbours.nd rfl (by first | exact Or.inl rfl | exact Or.inr rfl))) (fun _ _ _ _ _ => dts_nil) (fun _ _ _ _ _ => (de_new (le_lst da_nil))))
    (dss_cons (ds_for PassesOwn.never rfl (di_seq (de_var 2)) (dg_tup rfl (dgs_cons (dg_name (i := 4) sc_neighbours.nd rfl (by first | exact Or.inl rfl | exact Or.inr rfl)) (dgs_cons (dg_name (i := 5) sc_neighbours.nd rfl (by first | exact Or.inl rfl | exact Or.inr rfl)) dgs_nil))) (dss_cons (ds_set (i := 6) sc_neighbours.nd rfl (by first | exact Or.inl rfl | exact Or.inr rfl) (de_callF (F_towards.mono (by decide)) hr (by rfl) (da_cons (de_ix hu (de_var 1) (de_var 4)) (da_cons (de_ix hu (de_var 1) (de_var 5)) da_nil))))
    (dss_cons (ds_expr (de_lm PySem.F.slot_list_append PySem.F.type_list_append t_append (de_ix hu (de_var 3) (de_var 4)) (da_cons (de_tup (da_cons (de_var 5) (da_cons (de_var 6) da_nil))) da_nil)))
    (dss_one (ds_expr (de_lm PySem.F.slot_list_append PySem.F.type_list_append t_append (de_ix hu (de_var 3) (de_var 5)) (da_cons (de_tup (da_cons (de_var 4) (da_cons (de_op o_mod (de_op o_add (de_var 6) de_int) de_int) da_nil))) da_nil)))))))
    (dss_one (ds_ret (de_var 3))))))
set_option maxHeartbeats 0 in
theorem ok_is_one (B : Bi mg) (C : Ks K mg) {f : Addr} {fd : FuncData} (F : Fun K "is_one" "is_one" s_is_one f fd) (gm : mg "is_one" = some (.ref f)) (hb : Binds K fd ["piece"] []) (F_neighbours : Fn P w K mg base 2 "neighbours" 1 c_neighbours) : Fn P w K mg base 3 "is_one" 1 m_is_one := by
  refine fn_mk (N := N_is_one) (fb := b_is_one) F sc_is_one gm hb fun cdv A outer s H E hr => ?_
  have hu := hu_ofG hr
  exact (dss_cons (ds_set (i := 1) sc_is_one.nd rfl (by first | exact Or.inl rfl | exact Or.inr rfl) (de_callF (F_neighbours.mono (by decide)) hr (by rfl) (da_cons (de_var 0) da_nil)))
    (dss_cons (ds_set (i := 2) sc_is_one.nd rfl (by first | exact Or.inl rfl | exact Or.inr rfl) (de_dict hr.units (dp_cons de_int de_bl dp_nil)))
    (dss_cons (ds_set (i := 3) sc_is_one.nd rfl (by first | exact Or.inl rfl | exact Or.inr rfl) (de_new (le_lst (da_cons de_int da_nil))))
    (dss_cons (ds_while 1000000 PassesOwn.never (dt_cmp o_gt (de_callB c_len (by rfl) B.z_len bb_len (da_cons (de_var 3) da_nil)) de_int (nomark _)) (dss_one (ds_for PassesOwn.never rfl (di_seq (de_ix hu (de_var 1) (de_lm0 PySem.F.slot_list_pop PySem.F.type_list_pop t_pop (de_var 3)))) (dg_tup rfl (dgs_cons (dg_name (i := 4) sc_is_one.nd rfl (by first | exact Or.inl rfl | exact Or.inr rfl)) (dgs_cons (dg_name (i := 5) sc_is_one.nd rfl (by first | exact Or.inl rfl | exact Or.inr rfl)) dgs_nil))) (dss_one (ds_if (dt_cmp (o_notIn hr.units65) (de_var 4) (de_var 2) rfl) (dss_cons (ds_store hu de_bl (de_var 2) (de_var 4))
    (dss_one (ds_expr (de_lm PySem.F.slot_list_append PySem.F.type_list_append t_append (de_var 3) (da_cons (de_var 4) da_nil))))) dss_nil)))))
    (dss_one (ds_ret (de_cmp (o_eq hr.units) (de_callB c_len (by rfl) B.z_len bb_len (da_cons (de_var 2) da_nil)) (de_callB c_len (by rfl) B.z_len bb_len (da_cons (de_var 1) da_nil)) (nomark _))))))))
set_option maxHeartbeats 0 in
theorem ok_are_squares (B : Bi mg) (C : Ks K mg) {f : Addr} {fd : FuncData} (F : Fun K "are_squares" "are_squares" s_are_squares f fd) (gm : mg "are_squares" = some (.ref f)) (hb : Binds K fd ["thing"] []) (F_are_rising : Fn P w K mg base 1 "are_rising" 1 c_are_rising) (F_is_pair : Fn P w K mg base 2 "is_pair" 1 c_is_pair) : Fn P w K mg base 3 "are_squares" 1 m_are_squares := by
  refine fn_mk (N := N_are_squares) (fb := b_are_squares) F sc_are_squares gm hb fun cdv A outer s H E hr => ?_
  have hu := hu_ofG hr
  exact (dss_cons (ds_if (dt_w (dw_or (dt_not (dt_val (de_isi (T := "tuple") (by rfl) B.z_isinstance bb_isinstance (de_var 0) (by rfl) B.z_tuple bb_tuple))) (dw_or (dt_not (dt_chain o_le o_le de_int (de_callB c_len (by rfl) B.z_len bb_len (da_cons (de_var 0) da_nil)) (de_glob (by rfl) C.g_MOST_SQUARES C.r_MOST_SQUARES C.p_MOST_SQUARES))) (dw_or1 (dt_not (dt_val (de_callBL (n_all rfl) (by rfl) B.z_all bb_all (le_lc (own := [("one", 1)]) rfl sc_are_squares.nd (di_seq (de_var 0)) (blkOk_by (N := N_are_squares) (sc := defScope s_are_squares) (by decide +kernel)) (fun _ _ _ _ _ => (dg_name (i := 1) sc_are_squares.nd rfl (by first | exact Or.inl rfl | exact Or.inr rfl))) (fun _ _ _ _ _ => dts_nil) (fun _ _ _ _ _ => (de_callF (F_is_pair.mono (by decide)) hr (by rfl) (da_cons (de_var 1) da_nil))))))))))) (dss_one (ds_ret de_bl)) dss_nil)
    (dss_one (ds_ret (de_and (de_callF (F_are_rising.mono (by decide)) hr (by rfl) (da_cons (de_var 0) da_nil)) (de_and (de_cmp (o_eq hr.units) (de_callBL (n_min rfl) (by rfl) B.z_min bb_min (le_lc (own := [("x", 2), ("y", 3)]) rfl sc_are_squares.nd (di_seq (de_var 0)) (blkOk_by (N := N_are_squares) (sc := defScope s_are_squares) (by decide +kernel)) (fun _ _ _ _ _ => (dg_tup rfl (dgs_cons (dg_name (i := 2) sc_are_squares.nd rfl (by first | exact Or.inl rfl | exact Or.inr rfl)) (dgs_cons (dg_name (i := 3) sc_are_squares.nd rfl (by first | exact Or.inl rfl | exact Or.inr rfl)) dgs_nil)))) (fun _ _ _ _ _ => dts_nil) (fun _ _ _ _ _ => (de_var 2)))) de_int (nomark _)) (de_one (de_cmp (o_eq hr.units) (de_callBL (n_min rfl) (by rfl) B.z_min bb_min (le_lc (own := [("x", 2), ("y", 3)]) rfl sc_are_squares.nd (di_seq (de_var 0)) (blkOk_by (N := N_are_squares) (sc := defScope s_are_squares) (by decide +kernel)) (fun _ _ _ _ _ => (dg_tup rfl (dgs_cons (dg_name (i := 2) sc_are_squares.nd rfl (by first | exact Or.inl rfl | exact Or.inr rfl)) (dgs_cons (dg_name (i := 3) sc_are_squares.nd rfl (by first | exact Or.inl rfl | exact Or.inr rfl)) dgs_nil)))) (fun _ _ _ _ _ => dts_nil) (fun _ _ _ _ _ => (de_var 3)))) de_int (nomark _))))))))
set_option maxHeartbeats 0 in
theorem ok_is_joint (B : Bi mg) (C : Ks K mg) {f : Addr} {fd : FuncData} (F : Fun K "is_joint" "is_joint" s_is_joint f fd) (gm : mg "is_joint" = some (.ref f)) (hb : Binds K fd ["thing", "places"] []) (F_is_pair : Fn P w K mg base 2 "is_pair" 1 c_is_pair) (F_towards : Fn P w K mg base 1 "towards" 2 c_towards) : Fn P w K mg base 3 "is_joint" 2 m_is_joint := by
  refine fn_mk (N := N_is_joint) (fb := b_is_joint) F sc_is_joint gm hb fun cdv A outer s H E hr => ?_
  have hu := hu_ofG hr
  exact (dss_cons (ds_if (dt_w (dw_or (dt_not (dt_val (de_callF (F_is_pair.mono (by decide)) hr (by rfl) (da_cons (de_var 0) da_nil)))) (dw_or1 (dt_not (dt_chain3 o_le (o_lt hr.units0) (o_lt hr.units0) de_int (de_ix hu (de_var 0) de_int) (de_ix hu (de_var 0) de_int) (de_callB c_len (by rfl) B.z_len bb_len (da_cons (de_var 1) da_nil))))))) (dss_one (ds_ret de_bl)) dss_nil)
    (dss_one (ds_ret (de_cmp o_isNot (de_callF (F_towards.mono (by decide)) hr (by rfl) (da_cons (de_ix hu (de_var 1) (de_ix hu (de_var 0) de_int)) (da_cons (de_ix hu (de_var 1) (de_ix hu (de_var 0) de_int)) da_nil))) de_non (nomark _)))))
set_option maxHeartbeats 0 in
theorem ok_is_piece (B : Bi mg) (C : Ks K mg) {f : Addr} {fd : FuncData} (F : Fun K "is_piece" "is_piece" s_is_piece f fd) (gm : mg "is_piece" = some (.ref f)) (hb : Binds K fd ["thing"] []) (F_are_rising : Fn P w K mg base 1 "are_rising" 1 c_are_rising) (F_are_squares : Fn P w K mg base 3 "are_squares" 1 c_are_squares) (F_is_joint : Fn P w K mg base 3 "is_joint" 2 c_is_joint) (F_is_one : Fn P w K mg base 3 "is_one" 1 c_is_one) : Fn P w K mg base 4 "is_piece" 1 m_is_piece := by
  refine fn_mk (N := N_is_piece) (fb := b_is_piece) F sc_is_piece gm hb fun cdv A outer s H E hr => ?_
  have hu := hu_ofG hr
  exact (dss_cons (ds_if (dt_w (dw_or (dt_not (dt_val (de_isi (T := "tuple") (by rfl) B.z_isinstance bb_isinstance (de_var 0) (by rfl) B.z_tuple bb_tuple))) (dw_or (dt_cmp (o_ne hr.units) (de_callB c_len (by rfl) B.z_len bb_len (da_cons (de_var 0) da_nil)) de_int (nomark _)) (dw_or (dt_not (dt_val (de_callF (F_are_squares.mono (by decide)) hr (by rfl) (da_cons (de_ix hu (de_var 0) de_int) da_nil)))) (dw_or1 (dt_not (dt_val (de_isi (T := "tuple") (by rfl) B.z_isinstance bb_isinstance (de_ix hu (de_var 0) de_int) (by rfl) B.z_tuple bb_tuple)))))))) (dss_one (ds_ret de_bl)) dss_nil)
    (dss_cons (ds_if (dt_w (dw_or (dt_not (dt_val (de_callBL (n_all rfl) (by rfl) B.z_all bb_all (le_lc (own := [("one", 1)]) rfl sc_is_piece.nd (di_seq (de_ix hu (de_var 0) de_int)) (blkOk_by (N := N_is_piece) (sc := defScope s_is_piece) (by decide +kernel)) (fun _ _ _ _ _ => (dg_name (i := 1) sc_is_piece.nd rfl (by first | exact Or.inl rfl | exact Or.inr rfl))) (fun _ _ _ _ _ => dts_nil) (fun _ _ _ _ _ => (de_callF (F_is_joint.mono (by decide)) hr (by rfl) (da_cons (de_var 1) (da_cons (de_ix hu (de_var 0) de_int) da_nil)))))))) (dw_or1 (dt_not (dt_val (de_callF (F_are_rising.mono (by decide)) hr (by rfl) (da_cons (de_ix hu (de_var 0) de_int) da_nil))))))) (dss_one (ds_ret de_bl)) dss_nil)
    (dss_one (ds_ret (de_callF (F_is_one.mono (by decide)) hr (by rfl) (da_cons (de_var 0) da_nil))))))
set_option maxHeartbeats 0 in
theorem ok_joined_pairs (B : Bi mg) (C : Ks K mg) {f : Addr} {fd : FuncData} (F : Fun K "joined_pairs" "joined_pairs" s_joined_pairs f fd) (gm : mg "joined_pairs" = some (.ref f)) (hb : Binds K fd ["piece"] []) : Fn P w K mg base 1 "joined_pairs" 1 m_joined_pairs := by
  refine fn_mk (N := N_joined_pairs) (fb := b_joined_pairs) F sc_joined_pairs gm hb fun cdv A outer s H E hr => ?_
  have hu := hu_ofG hr
  exact (dss_cons (ds_asg (de_var 0) (dg_tup rfl (dgs_cons (dg_name (i := 1) sc_joined_pairs.nd rfl (by first | exact Or.inl rfl | exact Or.inr rfl)) (dgs_cons (dg_name (i := 2) sc_joined_pairs.nd rfl (by first | exact Or.inl rfl | exact Or.inr rfl)) dgs_nil))))
    (dss_one (ds_ret (de_callTyL (n_dictN hr.units65 rfl) (by rfl) B.z_dict bb_dict (le_lc (own := [("a", 3), ("b", 4)]) rfl sc_joined_pairs.nd (di_seq (de_var 2)) (blkOk_by (N := N_joined_pairs) (sc := defScope s_joined_pairs) (by decide +kernel)) (fun _ _ _ _ _ => (dg_tup rfl (dgs_cons (dg_name (i := 3) sc_joined_pairs.nd rfl (by first | exact Or.inl rfl | exact Or.inr rfl)) (dgs_cons (dg_name (i := 4) sc_joined_pairs.nd rfl (by first | exact Or.inl rfl | exact Or.inr rfl)) dgs_nil)))) (fun _ _ _ _ _ => dts_nil) (fun _ _ _ _ _ => (de_tup (da_cons (de_tup (da_cons (de_ix hu (de_var 1) (de_var 3)) (da_cons (de_ix hu (de_var 1) (de_var 4)) da_nil))) (da_cons de_bl da_nil)))))))))
set_option maxHeartbeats 0 in
theorem ok_square_row (B : Bi mg) (C : Ks K mg) {f : Addr} {fd : FuncData} (F : Fun K "square_row" "square_row" s_square_row f fd) (gm : mg "square_row" = some (.ref f)) (hb : Binds K fd ["there", "joined", "wide", "y"] []) : Fn P w K mg base 1 "square_row" 4 m_square_row := by
  refine fn_mk (N := N_square_row) (fb := b_square_row) F sc_square_row gm hb fun cdv A outer s H E hr => ?_
  have hu := hu_ofG hr
  exact (dss_cons (ds_set (i := 4) sc_square_row.nd rfl (by first | exact Or.inl rfl | exact Or.inr rfl) (de_new (le_lst da_nil)))
    (dss_cons (ds_for (fi := (mR1 (mCons (mVar 2) mNil))) (t := (.nm 5)) (f := B1_square_row) PassesOwn.never rfl (di_range1 (by rfl) B.z_range (da_cons (de_var 2) da_nil)) (dg_name (i := 5) sc_square_row.nd rfl (by first | exact Or.inl rfl | exact Or.inr rfl)) (dss_cons (ds_if (dt_cmp o_gt (de_var 5) de_int (nomark _)) (dss_one (ds_expr (de_lm PySem.F.slot_list_append PySem.F.type_list_append t_append (de_var 4) (da_cons (de_ifExp (dt_cmp (o_inN hr.units65) (de_tup (da_cons (de_tup (da_cons (de_op o_sub (de_var 5) de_int) (da_cons (de_var 3) da_nil))) (da_cons (de_tup (da_cons (de_var 5) (da_cons (de_var 3) da_nil))) da_nil))) (de_var 1) rfl) de_str de_str) da_nil)))) dss_nil)
    (dss_one (ds_expr (de_lm PySem.F.slot_list_append PySem.F.type_list_append t_append (de_var 4) (da_cons (de_ifExp (dt_cmp (o_in hr.units65) (de_tup (da_cons (de_var 5) (da_cons (de_var 3) da_nil))) (de_var 0) rfl) de_str de_str) da_nil))))))
    (dss_one (ds_ret (de_joinO de_str (de_var 4))))))
set_option maxHeartbeats 0 in
theorem ok_joint_row (B : Bi mg) (C : Ks K mg) {f : Addr} {fd : FuncData} (F : Fun K "joint_row" "joint_row" s_joint_row f fd) (gm : mg "joint_row" = some (.ref f)) (hb : Binds K fd ["joined", "wide", "y"] []) : Fn P w K mg base 1 "joint_row" 3 m_joint_row := by
  refine fn_mk (N := N_joint_row) (fb := b_joint_row) F sc_joint_row gm hb fun cdv A outer s H E hr => ?_
  have hu := hu_ofG hr
  exact (dss_cons (ds_setLc (i := 3) (own := [("x", 4)]) rfl sc_joint_row.nd rfl rfl (sw_true rfl rfl rfl (by decide +kernel)) (di_range1 (by rfl) B.z_range (da_cons (de_var 1) da_nil)) (blkOk_by (N := N_joint_row) (sc := defScope s_joint_row) (by decide +kernel)) (fun _ _ _ _ _ => (dg_name (i := 4) sc_joint_row.nd rfl (by first | exact Or.inl rfl | exact Or.inr rfl))) (fun _ _ _ _ _ => dts_nil) (fun _ _ _ _ _ => (de_ifExp (dt_cmp (o_inN hr.units65) (de_tup (da_cons (de_tup (da_cons (de_var 4) (da_cons (de_op o_sub (de_var 2) de_int) da_nil))) (da_cons (de_tup (da_cons (de_var 4) (da_cons (de_var 2) da_nil))) da_nil))) (de_var 0) rfl) de_str de_str)))
    (dss_one (ds_ret (de_joinO de_str (de_var 3)))))
set_option maxHeartbeats 0 in
theorem ok_show_piece (B : Bi mg) (C : Ks K mg) {f : Addr} {fd : FuncData} (F : Fun K "show_piece" "show_piece" s_show_piece f fd) (gm : mg "show_piece" = some (.ref f)) (hb : Binds K fd ["piece"] []) (F_joined_pairs : Fn P w K mg base 1 "joined_pairs" 1 c_joined_pairs) (F_joint_row : Fn P w K mg base 1 "joint_row" 3 c_joint_row) (F_square_row : Fn P w K mg base 1 "square_row" 4 c_square_row) : Fn P w K mg base 2 "show_piece" 1 m_show_piece := by
  refine fn_mk (N := N_show_piece) (fb := b_show_piece) F sc_show_piece gm hb fun cdv A outer s H E hr => ?_
  have hu := hu_ofG hr
  exact (dss_cons (ds_set (i := 1) sc_show_piece.nd rfl (by first | exact Or.inl rfl | exact Or.inr rfl) (de_ix hu (de_var 0) de_int))
    (dss_cons (ds_set (i := 2) sc_show_piece.nd rfl (by first | exact Or.inl rfl | exact Or.inr rfl) (de_callF (F_joined_pairs.mono (by decide)) hr (by rfl) (da_cons (de_var 0) da_nil)))
    (dss_cons (ds_set (i := 3) sc_show_piece.nd rfl (by first | exact Or.inl rfl | exact Or.inr rfl) (de_op o_add de_int (de_callBL (n_max rfl) (by rfl) B.z_max bb_max (le_lc (own := [("x", 6), ("y", 5)]) rfl sc_show_piece.nd (di_seq (de_var 1)) (blkOk_by (N := N_show_piece) (sc := defScope s_show_piece) (by decide +kernel)) (fun _ _ _ _ _ => (dg_tup rfl (dgs_cons (dg_name (i := 6) sc_show_piece.nd rfl (by first | exact Or.inl rfl | exact Or.inr rfl)) (dgs_cons (dg_name (i := 5) sc_show_piece.nd rfl (by first | exact Or.inl rfl | exact Or.inr rfl)) dgs_nil)))) (fun _ _ _ _ _ => dts_nil) (fun _ _ _ _ _ => (de_var 6))))))
    (dss_cons (ds_set (i := 4) sc_show_piece.nd rfl (by first | exact Or.inl rfl | exact Or.inr rfl) (de_new (le_lst da_nil)))
    (dss_cons (ds_for (fi := (mR3 (mCons (mL C2_show_piece gMaxL) (mCons (m1 (mC (.int 1)) gNeg) (mCons (m1 (mC (.int 1)) gNeg) mNil))))) (t := (.nm 5)) (f := B1_show_piece) PassesOwn.never rfl (di_range3 (by rfl) B.z_range (da_cons (de_callBL (n_max rfl) (by rfl) B.z_max bb_max (le_lc (own := [("x", 6), ("y", 5)]) rfl sc_show_piece.nd (di_seq (de_var 1)) (blkOk_by (N := N_show_piece) (sc := defScope s_show_piece) (by decide +kernel)) (fun _ _ _ _ _ => (dg_tup rfl (dgs_cons (dg_name (i := 6) sc_show_piece.nd rfl (by first | exact Or.inl rfl | exact Or.inr rfl)) (dgs_cons (dg_name (i := 5) sc_show_piece.nd rfl (by first | exact Or.inl rfl | exact Or.inr rfl)) dgs_nil)))) (fun _ _ _ _ _ => dts_nil) (fun _ _ _ _ _ => (de_var 5)))) (da_cons (de_un u_neg de_int) (da_cons (de_un u_neg de_int) da_nil)))) (dg_name (i := 5) sc_show_piece.nd rfl (by first | exact Or.inl rfl | exact Or.inr rfl)) (dss_cons (ds_expr (de_lm PySem.F.slot_list_append PySem.F.type_list_append t_append (de_var 4) (da_cons (de_callF (F_square_row.mono (by decide)) hr (by rfl) (da_cons (de_var 1) (da_cons (de_var 2) (da_cons (de_var 3) (da_cons (de_var 5) da_nil))))) da_nil)))
    (dss_one (ds_if (dt_cmp o_gt (de_var 5) de_int (nomark _)) (dss_one (ds_expr (de_lm PySem.F.slot_list_append PySem.F.type_list_append t_append (de_var 4) (da_cons (de_callF (F_joint_row.mono (by decide)) hr (by rfl) (da_cons (de_var 2) (da_cons (de_var 3) (da_cons (de_var 5) da_nil)))) da_nil)))) dss_nil))))
    (dss_one (ds_ret (de_joinO de_str (de_var 4)))))))))
set_option maxHeartbeats 0 in
theorem ok_is_row (B : Bi mg) (C : Ks K mg) {f : Addr} {fd : FuncData} (F : Fun K "is_row" "is_row" s_is_row f fd) (gm : mg "is_row" = some (.ref f)) (hb : Binds K fd ["row", "number", "long"] []) : Fn P w K mg base 1 "is_row" 3 m_is_row := by
  refine fn_mk (N := N_is_row) (fb := b_is_row) F sc_is_row gm hb fun cdv A outer s H E hr => ?_
  have hu := hu_ofG hr
  exact (dss_cons (ds_if (dt_w (dw_or (dt_cmp (o_eq hr.units) (de_callB c_len (by rfl) B.z_len bb_len (da_cons (de_var 0) da_nil)) de_int (nomark _)) (dw_or1 (dt_cmp (o_ne hr.units) (de_callB c_len (by rfl) B.z_len bb_len (da_cons (de_var 0) da_nil)) (de_var 2) (nomark _))))) (dss_one (ds_ret de_bl)) dss_nil)
    (dss_one (ds_ret (de_callBL (n_all rfl) (by rfl) B.z_all bb_all (le_lc (own := [("at", 3), ("sign", 4)]) rfl sc_is_row.nd (di_enumS (by rfl) B.z_enumerate (de_var 0)) (blkOk_by (N := N_is_row) (sc := defScope s_is_row) (by decide +kernel)) (fun _ _ _ _ _ => (dg_tup rfl (dgs_cons (dg_name (i := 3) sc_is_row.nd rfl (by first | exact Or.inl rfl | exact Or.inr rfl)) (dgs_cons (dg_name (i := 4) sc_is_row.nd rfl (by first | exact Or.inl rfl | exact Or.inr rfl)) dgs_nil)))) (fun _ _ _ _ _ => dts_nil) (fun _ _ _ _ _ => (de_cmp (o_in hr.units65) (de_var 4) (de_ix hu (de_ix hu (de_glob (by rfl) C.g_SIGNS C.r_SIGNS C.p_SIGNS) (de_op o_mod (de_var 1) de_int)) (de_op o_mod (de_var 3) de_int)) rfl)))))))
set_option maxHeartbeats 0 in
theorem ok_told_by (B : Bi mg) (C : Ks K mg) {f : Addr} {fd : FuncData} (F : Fun K "told_by" "told_by" s_told_by f fd) (gm : mg "told_by" = some (.ref f)) (hb : Binds K fd ["rows"] []) : Fn P w K mg base 1 "told_by" 1 m_told_by := by
  refine fn_mk (N := N_told_by) (fb := b_told_by) F sc_told_by gm hb fun cdv A outer s H E hr => ?_
  have hu := hu_ofG hr
  exact (dss_cons (ds_par (i := 1) (j := 2) rfl sc_told_by.nd rfl rfl (by decide) rfl rfl (da_cons (de_new (le_lst da_nil)) (da_cons (de_new (le_lst da_nil)) da_nil)) (by rfl))
    (dss_cons (ds_for (fi := (mEnum (mVar 0))) (t := (.tp ((.nm 3) :: ((.nm 4) :: [])))) (f := B2_told_by) PassesOwn.never rfl (di_enum (by rfl) B.z_enumerate (de_var 0)) (dg_tup rfl (dgs_cons (dg_name (i := 3) sc_told_by.nd rfl (by first | exact Or.inl rfl | exact Or.inr rfl)) (dgs_cons (dg_name (i := 4) sc_told_by.nd rfl (by first | exact Or.inl rfl | exact Or.inr rfl)) dgs_nil))) (dss_cons (ds_set (i := 5) sc_told_by.nd rfl (by first | exact Or.inl rfl | exact Or.inr rfl) (de_op o_div (de_op o_sub (de_op o_sub (de_callB c_len (by rfl) B.z_len bb_len (da_cons (de_var 0) da_nil)) de_int) (de_var 3)) de_int))
    (dss_one (ds_for (fi := (mEnumS (mVar 4))) (t := (.tp ((.nm 6) :: ((.nm 7) :: [])))) (f := B1_told_by) PassesOwn.never rfl (di_enumS (by rfl) B.z_enumerate (de_var 4)) (dg_tup rfl (dgs_cons (dg_name (i := 6) sc_told_by.nd rfl (by first | exact Or.inl rfl | exact Or.inr rfl)) (dgs_cons (dg_name (i := 7) sc_told_by.nd rfl (by first | exact Or.inl rfl | exact Or.inr rfl)) dgs_nil))) (dss_cons (ds_set (i := 8) sc_told_by.nd rfl (by first | exact Or.inl rfl | exact Or.inr rfl) (de_op o_div (de_var 6) de_int))
    (dss_one (ds_if (dt_cmp o_eqS (de_var 7) de_str (nomark _)) (dss_one (ds_expr (de_lm PySem.F.slot_list_append PySem.F.type_list_append t_append (de_var 1) (da_cons (de_tup (da_cons (de_var 8) (da_cons (de_var 5) da_nil))) da_nil)))) (dss_one (ds_if (dt_cmp o_eqS (de_var 7) de_str (nomark _)) (dss_one (ds_expr (de_lm PySem.F.slot_list_append PySem.F.type_list_append t_append (de_var 2) (da_cons (de_tup (da_cons (de_tup (da_cons (de_var 8) (da_cons (de_var 5) da_nil))) (da_cons (de_tup (da_cons (de_op o_add (de_var 8) de_int) (da_cons (de_var 5) da_nil))) da_nil))) da_nil)))) (dss_one (ds_if (dt_cmp o_eqS (de_var 7) de_str (nomark _)) (dss_one (ds_expr (de_lm PySem.F.slot_list_append PySem.F.type_list_append t_append (de_var 2) (da_cons (de_tup (da_cons (de_tup (da_cons (de_var 8) (da_cons (de_var 5) da_nil))) (da_cons (de_tup (da_cons (de_var 8) (da_cons (de_op o_add (de_var 5) de_int) da_nil))) da_nil))) da_nil)))) dss_nil)))))))))))
    (dss_one (ds_ret (de_tup (da_cons (de_new (le_sorted rfl hr.units (by rfl) B.z_sorted bb_sorted (de_var 1))) (da_cons (de_new (le_sorted rfl hr.units (by rfl) B.z_sorted bb_sorted (de_var 2))) da_nil)))))))
set_option maxHeartbeats 0 in
theorem ok_piece_in (B : Bi mg) (C : Ks K mg) {f : Addr} {fd : FuncData} (F : Fun K "piece_in" "piece_in" s_piece_in f fd) (gm : mg "piece_in" = some (.ref f)) (hb : Binds K fd ["rows"] []) (F_is_piece : Fn P w K mg base 4 "is_piece" 1 c_is_piece) (F_show_piece : Fn P w K mg base 2 "show_piece" 1 c_show_piece) (F_told_by : Fn P w K mg base 1 "told_by" 1 c_told_by) : Fn P w K mg base 5 "piece_in" 1 m_piece_in := by
  refine fn_mk (N := N_piece_in) (fb := b_piece_in) F sc_piece_in gm hb fun cdv A outer s H E hr => ?_
  have hu := hu_ofG hr
  exact (dss_cons (ds_asg (de_callF (F_told_by.mono (by decide)) hr (by rfl) (da_cons (de_var 0) da_nil)) (dg_tup rfl (dgs_cons (dg_name (i := 1) sc_piece_in.nd rfl (by first | exact Or.inl rfl | exact Or.inr rfl)) (dgs_cons (dg_name (i := 2) sc_piece_in.nd rfl (by first | exact Or.inl rfl | exact Or.inr rfl)) dgs_nil))))
    (dss_cons (ds_if (dt_not (dt_val (de_callBL (n_all rfl) (by rfl) B.z_all bb_all (le_lc (own := [("one", 5), ("other", 6)]) rfl sc_piece_in.nd (di_seq (de_var 2)) (blkOk_by (N := N_piece_in) (sc := defScope s_piece_in) (by decide +kernel)) (fun _ _ _ _ _ => (dg_tup rfl (dgs_cons (dg_name (i := 5) sc_piece_in.nd rfl (by first | exact Or.inl rfl | exact Or.inr rfl)) (dgs_cons (dg_name (i := 6) sc_piece_in.nd rfl (by first | exact Or.inl rfl | exact Or.inr rfl)) dgs_nil)))) (fun _ _ _ _ _ => dts_nil) (fun _ _ _ _ _ => (de_and (de_cmp (o_in hr.units65) (de_var 5) (de_var 1) rfl) (de_one (de_cmp (o_in hr.units65) (de_var 6) (de_var 1) rfl)))))))) (dss_one (ds_ret de_non)) dss_nil)
    (dss_cons (ds_set (i := 3) sc_piece_in.nd rfl (by first | exact Or.inl rfl | exact Or.inr rfl) (de_new (le_sortedL hr.units (by rfl) B.z_sorted bb_sorted (le_lc (own := [("one", 5), ("other", 6)]) rfl sc_piece_in.nd (di_seq (de_var 2)) (blkOk_by (N := N_piece_in) (sc := defScope s_piece_in) (by decide +kernel)) (fun _ _ _ _ _ => (dg_tup rfl (dgs_cons (dg_name (i := 5) sc_piece_in.nd rfl (by first | exact Or.inl rfl | exact Or.inr rfl)) (dgs_cons (dg_name (i := 6) sc_piece_in.nd rfl (by first | exact Or.inl rfl | exact Or.inr rfl)) dgs_nil)))) (fun _ _ _ _ _ => dts_nil) (fun _ _ _ _ _ => (de_tup (da_cons (de_lm PySem.F.slot_list_index PySem.F.type_list_index (t_lindex hr.units65) (de_var 1) (da_cons (de_var 5) da_nil)) (da_cons (de_lm PySem.F.slot_list_index PySem.F.type_list_index (t_lindex hr.units65) (de_var 1) (da_cons (de_var 6) da_nil)) da_nil))))))))
    (dss_cons (ds_set (i := 4) sc_piece_in.nd rfl (by first | exact Or.inl rfl | exact Or.inr rfl) (de_tup (da_cons (de_callTy c_tuple (by rfl) B.z_tuple bb_tuple (da_cons (de_var 1) da_nil)) (da_cons (de_callTy c_tuple (by rfl) B.z_tuple bb_tuple (da_cons (de_var 3) da_nil)) da_nil))))
    (dss_cons (ds_if (dt_w (dw_or (dt_not (dt_val (de_callF (F_is_piece.mono (by decide)) hr (by rfl) (da_cons (de_var 4) da_nil)))) (dw_or1 (dt_cmp o_neS (de_callF (F_show_piece.mono (by decide)) hr (by rfl) (da_cons (de_var 4) da_nil)) (de_joinO de_str (de_var 0)) (nomark _))))) (dss_one (ds_ret de_non)) dss_nil)
    (dss_one (ds_ret (de_var 4))))))))
set_option maxHeartbeats 0 in
theorem ok_read_piece (B : Bi mg) (C : Ks K mg) {f : Addr} {fd : FuncData} (F : Fun K "read_piece" "read_piece" s_read_piece f fd) (gm : mg "read_piece" = some (.ref f)) (hb : Binds K fd ["text"] []) (F_is_row : Fn P w K mg base 1 "is_row" 3 c_is_row) (F_piece_in : Fn P w K mg base 5 "piece_in" 1 c_piece_in) : Fn P w K mg base 6 "read_piece" 1 m_read_piece := by
  refine fn_mk (N := N_read_piece) (fb := b_read_piece) F sc_read_piece gm hb fun cdv A outer s H E hr => ?_
  have hu := hu_ofG hr
  exact (dss_cons (ds_if (dt_not (dt_val (de_isi (T := "str") (by rfl) B.z_isinstance bb_isinstance (de_var 0) (by rfl) B.z_str bb_str))) (dss_one ds_no) dss_nil)
    (dss_cons (ds_set (i := 1) sc_read_piece.nd rfl (by first | exact Or.inl rfl | exact Or.inr rfl) (de_new (le_split (de_var 0) de_str)))
    (dss_cons (ds_for (fi := (mEnum (mVar 1))) (t := (.tp ((.nm 2) :: ((.nm 3) :: [])))) (f := B1_read_piece) PassesOwn.never rfl (di_enum (by rfl) B.z_enumerate (de_var 1)) (dg_tup rfl (dgs_cons (dg_name (i := 2) sc_read_piece.nd rfl (by first | exact Or.inl rfl | exact Or.inr rfl)) (dgs_cons (dg_name (i := 3) sc_read_piece.nd rfl (by first | exact Or.inl rfl | exact Or.inr rfl)) dgs_nil))) (dss_one (ds_if (dt_not (dt_val (de_callF (F_is_row.mono (by decide)) hr (by rfl) (da_cons (de_var 3) (da_cons (de_var 2) (da_cons (de_callB c_len (by rfl) B.z_len bb_len (da_cons (de_ix hu (de_var 1) de_int) da_nil)) da_nil)))))) (dss_one ds_no) dss_nil)))
    (dss_cons (ds_set (i := 4) sc_read_piece.nd rfl (by first | exact Or.inl rfl | exact Or.inr rfl) (de_callF (F_piece_in.mono (by decide)) hr (by rfl) (da_cons (de_var 1) da_nil)))
    (dss_cons (ds_if (dt_cmp o_is (de_var 4) de_non (nomark _)) (dss_one ds_no) dss_nil)
    (dss_one (ds_ret (de_var 4))))))))
set_option maxHeartbeats 0 in
theorem ok_show_colours (B : Bi mg) (C : Ks K mg) {f : Addr} {fd : FuncData} (F : Fun K "show_colours" "show_colours" s_show_colours f fd) (gm : mg "show_colours" = some (.ref f)) (hb : Binds K fd ["colours"] []) : Fn P w K mg base 1 "show_colours" 1 m_show_colours := by
  refine fn_mk (N := N_show_colours) (fb := b_show_colours) F sc_show_colours gm hb fun cdv A outer s H E hr => ?_
  have hu := hu_ofG hr
  exact (dss_one (ds_ret (de_join de_str (le_lc (own := [("colour", 1)]) rfl sc_show_colours.nd (di_seq (de_var 0)) (blkOk_by (N := N_show_colours) (sc := defScope s_show_colours) (by decide +kernel)) (fun _ _ _ _ _ => (dg_name (i := 1) sc_show_colours.nd rfl (by first | exact Or.inl rfl | exact Or.inr rfl))) (fun _ _ _ _ _ => dts_nil) (fun _ _ _ _ _ => (de_callTy (c_str hr.gd hr.units65) (by rfl) B.z_str bb_str (da_cons (de_var 1) da_nil)))))))
set_option maxHeartbeats 0 in
theorem ok_L_hand (B : Bi mg) (C : Ks K mg) {f : Addr} {fd : FuncData} (F : Fun K "_law_hand" "_law_hand" s_L_hand f fd) (gm : mg "_law_hand" = some (.ref f)) (hb : Binds K fd ["_law_script", "_law_k"] []) : Fn P w K mg base 1 "_law_hand" 2 m_L_hand := by
  refine fn_mk (N := N_L_hand) (fb := b_L_hand) F sc_L_hand gm hb fun cdv A outer s H E hr => ?_
  have hu := hu_ofG hr
  exact (dss_cons (ds_set (i := 2) sc_L_hand.nd rfl (by first | exact Or.inl rfl | exact Or.inr rfl) de_int)
    (dss_cons (ds_if (dt_cmp (o_lt hr.units0) (de_var 1) (de_callB c_len (by rfl) B.z_len bb_len (da_cons (de_var 0) da_nil)) (nomark _)) (dss_one (ds_set (i := 2) sc_L_hand.nd rfl (by first | exact Or.inl rfl | exact Or.inr rfl) (de_ix hu (de_var 0) (de_var 1)))) dss_nil)
    (dss_one (ds_ret (de_new (le_lst (da_cons (de_op o_mul (de_var 2) (de_callTy c_int (by rfl) B.z_int bb_int (da_cons (de_cmp o_ge (de_var 2) (de_op o_pow de_int de_int) (nomark _)) da_nil))) (da_cons (de_op o_add (de_op o_add (de_op o_mod (de_var 2) de_int) (de_op o_mul de_int (de_var 1))) de_int) (da_cons de_int da_nil)))))))))
set_option maxHeartbeats 0 in
theorem ok_L_take (B : Bi mg) (C : Ks K mg) {f : Addr} {fd : FuncData} (F : Fun K "_law_take" "_law_take" s_L_take f fd) (gm : mg "_law_take" = some (.ref f)) (hb : Binds K fd ["_law_hand_here", "_law_many"] []) : Fn P w K mg base 1 "_law_take" 2 m_L_take := by
  refine fn_mk (N := N_L_take) (fb := b_L_take) F sc_L_take gm hb fun cdv A outer s H E hr => ?_
  have hu := hu_ofG hr
  exact (dss_cons (ds_if (dt_cmp o_gt (de_ix hu (de_var 0) de_int) de_int (nomark _)) (dss_cons (ds_asgM (de_tup (da_cons (de_op o_div (de_ix hu (de_var 0) de_int) (de_var 1)) (da_cons (de_op o_mod (de_ix hu (de_var 0) de_int) (de_var 1)) da_nil))) (dm_tup rfl (dms_cons (dm_sub hu (de_var 0) de_int) (dms_cons (dm_name (i := 2) sc_L_take.nd rfl (by first | exact Or.inl rfl | exact Or.inr rfl)) dms_nil))))
    (dss_one (ds_ret (de_var 2)))) dss_nil)
    (dss_cons (ds_store hu (de_op o_add (de_ix hu (de_var 0) de_int) de_int) (de_var 0) de_int)
    (dss_cons (ds_set (i := 3) sc_L_take.nd rfl (by first | exact Or.inl rfl | exact Or.inr rfl) (de_ix hu (de_var 0) de_int))
    (dss_cons (ds_set (i := 4) sc_L_take.nd rfl (by first | exact Or.inl rfl | exact Or.inr rfl) (de_op o_mod (de_op o_mul (de_ix hu (de_var 0) de_int) (de_op o_add (de_op o_add de_int (de_op o_mul (de_op o_mul de_int (de_var 3)) (de_var 3))) (de_op o_mul de_int (de_var 3)))) de_int))
    (dss_cons (ds_set (i := 5) sc_L_take.nd rfl (by first | exact Or.inl rfl | exact Or.inr rfl) (de_op o_add (de_op o_add (de_op o_mod (de_var 4) de_int) (de_op o_mul (de_var 3) de_int)) de_int))
    (dss_cons (ds_set (i := 4) sc_L_take.nd rfl (by first | exact Or.inl rfl | exact Or.inr rfl) (de_op o_mod (de_op o_mul (de_var 4) (de_var 5)) de_int))
    (dss_one (ds_ret (de_op o_mod (de_op o_add (de_op o_div (de_var 4) de_int) (de_op o_div (de_var 4) de_int)) (de_var 1))))))))))
set_option maxHeartbeats 0 in
theorem ok_L_pick (B : Bi mg) (C : Ks K mg) {f : Addr} {fd : FuncData} (F : Fun K "_law_pick" "_law_pick" s_L_pick f fd) (gm : mg "_law_pick" = some (.ref f)) (hb : Binds K fd ["_law_hand_here", "_law_some"] []) (F_L_take : Fn P w K mg base 1 "_law_take" 2 c_L_take) : Fn P w K mg base 2 "_law_pick" 2 m_L_pick := by
  refine fn_mk (N := N_L_pick) (fb := b_L_pick) F sc_L_pick gm hb fun cdv A outer s H E hr => ?_
  have hu := hu_ofG hr
  exact (dss_one (ds_ret (de_ix hu (de_var 1) (de_callF (F_L_take.mono (by decide)) hr (by rfl) (da_cons (de_var 0) (da_cons (de_callB c_len (by rfl) B.z_len bb_len (da_cons (de_var 1) da_nil)) da_nil))))))
set_option maxHeartbeats 0 in
theorem ok_L_piece (B : Bi mg) (C : Ks K mg) {f : Addr} {fd : FuncData} (F : Fun K "_law_piece" "_law_piece" s_L_piece f fd) (gm : mg "_law_piece" = some (.ref f)) (hb : Binds K fd ["_law_hand_here"] []) (F_L_pick : Fn P w K mg base 2 "_law_pick" 2 c_L_pick) (F_L_take : Fn P w K mg base 1 "_law_take" 2 c_L_take) : Fn P w K mg base 3 "_law_piece" 1 m_L_piece := by
  refine fn_mk (N := N_L_piece) (fb := b_L_piece) F sc_L_piece gm hb fun cdv A outer s H E hr => ?_
  have hu := hu_ofG hr
  exact (dss_cons (ds_par (i := 1) (j := 2) rfl sc_L_piece.nd rfl rfl (by decide) rfl rfl (da_cons (de_dict hr.units (dp_cons (de_tup (da_cons de_int (da_cons de_int da_nil))) de_bl dp_nil)) (da_cons de_dict0N da_nil)) (by rfl))
    (dss_cons (ds_for (fi := (mR1 (mCons (mAs (mCons (mVar 0) (mCons (mNew (mLst (mCons (mC (.int 0)) (mCons (mC (.int 1)) (mCons (mC (.int 2)) (mCons (mC (.int 3)) (mCons (mC (.int 4)) (mCons (mC (.int 5)) (mCons (mC (.int 8)) (mCons (m2 (mC (.int 9)) (mAs (mCons (mVar 0) (mCons (mC (.int 11)) mNil)) (ar 2 c_L_take)) gAdd) mNil)))))))))) mNil)) (ar 2 c_L_pick)) mNil))) (t := (.nm 3)) (f := B1_L_piece) PassesOwn.never rfl (di_range1 (by rfl) B.z_range (da_cons (de_callF (F_L_pick.mono (by decide)) hr (by rfl) (da_cons (de_var 0) (da_cons (de_new (le_lst (da_cons de_int (da_cons de_int (da_cons de_int (da_cons de_int (da_cons de_int (da_cons de_int (da_cons de_int (da_cons (de_op o_add de_int (de_callF (F_L_take.mono (by decide)) hr (by rfl) (da_cons (de_var 0) (da_cons de_int da_nil)))) da_nil)))))))))) da_nil))) da_nil)) (dg_name (i := 3) sc_L_piece.nd rfl (by first | exact Or.inl rfl | exact Or.inr rfl)) (dss_cons (ds_asg (de_callF (F_L_pick.mono (by decide)) hr (by rfl) (da_cons (de_var 0) (da_cons (de_new (le_sorted rfl hr.units (by rfl) B.z_sorted bb_sorted (de_var 1))) da_nil))) (dg_tup rfl (dgs_cons (dg_name (i := 4) sc_L_piece.nd rfl (by first | exact Or.inl rfl | exact Or.inr rfl)) (dgs_cons (dg_name (i := 5) sc_L_piece.nd rfl (by first | exact Or.inl rfl | exact Or.inr rfl)) dgs_nil))))
    (dss_cons (ds_set (i := 6) sc_L_piece.nd rfl (by first | exact Or.inl rfl | exact Or.inr rfl) (de_callF (F_L_take.mono (by decide)) hr (by rfl) (da_cons (de_var 0) (da_cons de_int da_nil))))
    (dss_cons (ds_set (i := 7) sc_L_piece.nd rfl (by first | exact Or.inl rfl | exact Or.inr rfl) (de_tup (da_cons (de_op o_add (de_var 4) (de_ix hu (de_new (le_lst (da_cons de_int (da_cons de_int (da_cons (de_un u_neg de_int) (da_cons de_int da_nil)))))) (de_var 6))) (da_cons (de_op o_add (de_var 5) (de_ix hu (de_new (le_lst (da_cons de_int (da_cons de_int (da_cons de_int (da_cons (de_un u_neg de_int) da_nil)))))) (de_var 6))) da_nil))))
    (dss_cons (ds_if (dt_cmp (o_notIn hr.units65) (de_var 7) (de_var 1) rfl) (dss_one (ds_storeN hr.units65 de_bl (de_var 2) (de_callTyL n_tuple (by rfl) B.z_tuple bb_tuple (le_sortedL hr.units (by rfl) B.z_sorted bb_sorted (le_lst (da_cons (de_tup (da_cons (de_var 4) (da_cons (de_var 5) da_nil))) (da_cons (de_var 7) da_nil))))))) dss_nil)
    (dss_one (ds_store hu de_bl (de_var 1) (de_var 7))))))))
    (dss_cons (ds_for (fi := (mIL (mSorted (mVar 1)))) (t := (.tp ((.nm 4) :: ((.nm 5) :: [])))) (f := B3_L_piece) PassesOwn.never rfl (di_le (le_sorted rfl hr.units (by rfl) B.z_sorted bb_sorted (de_var 1))) (dg_tup rfl (dgs_cons (dg_name (i := 4) sc_L_piece.nd rfl (by first | exact Or.inl rfl | exact Or.inr rfl)) (dgs_cons (dg_name (i := 5) sc_L_piece.nd rfl (by first | exact Or.inl rfl | exact Or.inr rfl)) dgs_nil))) (dss_one (ds_for PassesOwn.never rfl (di_seq (de_tup (da_cons (de_tup (da_cons (de_op o_add (de_var 4) de_int) (da_cons (de_var 5) da_nil))) (da_cons (de_tup (da_cons (de_var 4) (da_cons (de_op o_add (de_var 5) de_int) da_nil))) da_nil)))) (dg_name (i := 7) sc_L_piece.nd rfl (by first | exact Or.inl rfl | exact Or.inr rfl)) (dss_one (ds_if (dt_w (dw_and (dt_cmp (o_in hr.units65) (de_var 7) (de_var 1) rfl) (dw_and1 (dt_cmp (o_eq hr.units) (de_callF (F_L_take.mono (by decide)) hr (by rfl) (da_cons (de_var 0) (da_cons de_int da_nil))) de_int (nomark _))))) (dss_one (ds_storeN hr.units65 de_bl (de_var 2) (de_tup (da_cons (de_tup (da_cons (de_var 4) (da_cons (de_var 5) da_nil))) (da_cons (de_var 7) da_nil))))) dss_nil)))))
    (dss_cons (ds_asg (de_tup (da_cons (de_callBL (n_best false rfl hr.units) (by rfl) B.z_min bb_min (le_lock (fd := (mVar 1)) (le_lc (own := [("_law_x", 4), ("_law_y", 5)]) rfl sc_L_piece.nd (di_keys (de_var 1)) (blkOk_by (N := N_L_piece) (sc := defScope s_L_piece) (by decide +kernel)) (fun _ _ _ _ _ => (dg_tup rfl (dgs_cons (dg_name (i := 4) sc_L_piece.nd rfl (by first | exact Or.inl rfl | exact Or.inr rfl)) (dgs_cons (dg_name (i := 5) sc_L_piece.nd rfl (by first | exact Or.inl rfl | exact Or.inr rfl)) dgs_nil)))) (fun _ _ _ _ _ => dts_nil) (fun _ _ _ _ _ => (de_var 4))))) (da_cons (de_callBL (n_best false rfl hr.units) (by rfl) B.z_min bb_min (le_lock (fd := (mVar 1)) (le_lc (own := [("_law_x", 4), ("_law_y", 5)]) rfl sc_L_piece.nd (di_keys (de_var 1)) (blkOk_by (N := N_L_piece) (sc := defScope s_L_piece) (by decide +kernel)) (fun _ _ _ _ _ => (dg_tup rfl (dgs_cons (dg_name (i := 4) sc_L_piece.nd rfl (by first | exact Or.inl rfl | exact Or.inr rfl)) (dgs_cons (dg_name (i := 5) sc_L_piece.nd rfl (by first | exact Or.inl rfl | exact Or.inr rfl)) dgs_nil)))) (fun _ _ _ _ _ => dts_nil) (fun _ _ _ _ _ => (de_var 5))))) da_nil))) (dg_tup rfl (dgs_cons (dg_name (i := 8) sc_L_piece.nd rfl (by first | exact Or.inl rfl | exact Or.inr rfl)) (dgs_cons (dg_name (i := 9) sc_L_piece.nd rfl (by first | exact Or.inl rfl | exact Or.inr rfl)) dgs_nil))))
    (dss_cons (ds_set (i := 10) sc_L_piece.nd rfl (by first | exact Or.inl rfl | exact Or.inr rfl) (de_new (le_sorted rfl hr.units (by rfl) B.z_sorted bb_sorted (de_var 1))))
    (dss_cons (ds_set (i := 11) sc_L_piece.nd rfl (by first | exact Or.inl rfl | exact Or.inr rfl) (de_new (le_sortedL hr.units (by rfl) B.z_sorted bb_sorted (le_lc (own := [("_law_one", 12), ("_law_far", 7)]) rfl sc_L_piece.nd (di_keysN (de_var 2)) (blkOk_by (N := N_L_piece) (sc := defScope s_L_piece) (by decide +kernel)) (fun _ _ _ _ _ => (dg_tup rfl (dgs_cons (dg_name (i := 12) sc_L_piece.nd rfl (by first | exact Or.inl rfl | exact Or.inr rfl)) (dgs_cons (dg_name (i := 7) sc_L_piece.nd rfl (by first | exact Or.inl rfl | exact Or.inr rfl)) dgs_nil)))) (fun _ _ _ _ _ => dts_nil) (fun _ _ _ _ _ => (de_tup (da_cons (de_lm PySem.F.slot_list_index PySem.F.type_list_index (t_lindex hr.units65) (de_var 10) (da_cons (de_var 12) da_nil)) (da_cons (de_lm PySem.F.slot_list_index PySem.F.type_list_index (t_lindex hr.units65) (de_var 10) (da_cons (de_var 7) da_nil)) da_nil))))))))
    (dss_one (ds_ret (de_tup (da_cons (de_callTyL n_tuple (by rfl) B.z_tuple bb_tuple (le_lc (own := [("_law_x", 4), ("_law_y", 5)]) rfl sc_L_piece.nd (di_seq (de_var 10)) (blkOk_by (N := N_L_piece) (sc := defScope s_L_piece) (by decide +kernel)) (fun _ _ _ _ _ => (dg_tup rfl (dgs_cons (dg_name (i := 4) sc_L_piece.nd rfl (by first | exact Or.inl rfl | exact Or.inr rfl)) (dgs_cons (dg_name (i := 5) sc_L_piece.nd rfl (by first | exact Or.inl rfl | exact Or.inr rfl)) dgs_nil)))) (fun _ _ _ _ _ => dts_nil) (fun _ _ _ _ _ => (de_tup (da_cons (de_op o_sub (de_var 4) (de_var 8)) (da_cons (de_op o_sub (de_var 5) (de_var 9)) da_nil)))))) (da_cons (de_callTy c_tuple (by rfl) B.z_tuple bb_tuple (da_cons (de_var 11) da_nil)) da_nil)))))))))))
set_option maxHeartbeats 0 in
theorem ok_L_text (B : Bi mg) (C : Ks K mg) {f : Addr} {fd : FuncData} (F : Fun K "_law_text" "_law_text" s_L_text f fd) (gm : mg "_law_text" = some (.ref f)) (hb : Binds K fd ["_law_piece_here"] []) : Fn P w K mg base 1 "_law_text" 1 m_L_text := by
  refine fn_mk (N := N_L_text) (fb := b_L_text) F sc_L_text gm hb fun cdv A outer s H E hr => ?_
  have hu := hu_ofG hr
  exact (dss_cons (ds_asg (de_var 0) (dg_tup rfl (dgs_cons (dg_name (i := 1) sc_L_text.nd rfl (by first | exact Or.inl rfl | exact Or.inr rfl)) (dgs_cons (dg_name (i := 2) sc_L_text.nd rfl (by first | exact Or.inl rfl | exact Or.inr rfl)) dgs_nil))))
    (dss_cons (ds_asg (de_tup (da_cons (de_callBL (n_max rfl) (by rfl) B.z_max bb_max (le_lc (own := [("_law_x", 6), ("_law_y", 7)]) rfl sc_L_text.nd (di_seq (de_var 1)) (blkOk_by (N := N_L_text) (sc := defScope s_L_text) (by decide +kernel)) (fun _ _ _ _ _ => (dg_tup rfl (dgs_cons (dg_name (i := 6) sc_L_text.nd rfl (by first | exact Or.inl rfl | exact Or.inr rfl)) (dgs_cons (dg_name (i := 7) sc_L_text.nd rfl (by first | exact Or.inl rfl | exact Or.inr rfl)) dgs_nil)))) (fun _ _ _ _ _ => dts_nil) (fun _ _ _ _ _ => (de_var 6)))) (da_cons (de_callBL (n_max rfl) (by rfl) B.z_max bb_max (le_lc (own := [("_law_x", 6), ("_law_y", 7)]) rfl sc_L_text.nd (di_seq (de_var 1)) (blkOk_by (N := N_L_text) (sc := defScope s_L_text) (by decide +kernel)) (fun _ _ _ _ _ => (dg_tup rfl (dgs_cons (dg_name (i := 6) sc_L_text.nd rfl (by first | exact Or.inl rfl | exact Or.inr rfl)) (dgs_cons (dg_name (i := 7) sc_L_text.nd rfl (by first | exact Or.inl rfl | exact Or.inr rfl)) dgs_nil)))) (fun _ _ _ _ _ => dts_nil) (fun _ _ _ _ _ => (de_var 7)))) da_nil))) (dg_tup rfl (dgs_cons (dg_name (i := 3) sc_L_text.nd rfl (by first | exact Or.inl rfl | exact Or.inr rfl)) (dgs_cons (dg_name (i := 4) sc_L_text.nd rfl (by first | exact Or.inl rfl | exact Or.inr rfl)) dgs_nil))))
    (dss_cons (ds_setLc (i := 5) (own := [("_law_k", 10)]) rfl sc_L_text.nd rfl rfl (sw_true rfl rfl rfl (by decide +kernel)) (di_range1 (by rfl) B.z_range (da_cons (de_op o_add (de_op o_mul de_int (de_var 4)) de_int) da_nil)) (blkOk_by (N := N_L_text) (sc := defScope s_L_text) (by decide +kernel)) (fun _ _ _ _ _ => (dg_name (i := 10) sc_L_text.nd rfl (by first | exact Or.inl rfl | exact Or.inr rfl))) (fun _ _ _ _ _ => dts_nil) (fun _ _ _ _ _ => (de_new (le_rep (le_lst (da_cons de_str da_nil)) (de_op o_add (de_op o_mul de_int (de_var 3)) de_int)))))
    (dss_cons (ds_for PassesOwn.never rfl (di_seq (de_var 1)) (dg_tup rfl (dgs_cons (dg_name (i := 6) sc_L_text.nd rfl (by first | exact Or.inl rfl | exact Or.inr rfl)) (dgs_cons (dg_name (i := 7) sc_L_text.nd rfl (by first | exact Or.inl rfl | exact Or.inr rfl)) dgs_nil))) (dss_one (ds_store hu de_str (de_ix hu (de_var 5) (de_op o_mul de_int (de_op o_sub (de_var 4) (de_var 7)))) (de_op o_mul de_int (de_var 6)))))
    (dss_cons (ds_for PassesOwn.never rfl (di_seq (de_var 2)) (dg_tup rfl (dgs_cons (dg_name (i := 8) sc_L_text.nd rfl (by first | exact Or.inl rfl | exact Or.inr rfl)) (dgs_cons (dg_name (i := 9) sc_L_text.nd rfl (by first | exact Or.inl rfl | exact Or.inr rfl)) dgs_nil))) (dss_cons (ds_asg (de_ix hu (de_var 1) (de_var 8)) (dg_tup rfl (dgs_cons (dg_name (i := 6) sc_L_text.nd rfl (by first | exact Or.inl rfl | exact Or.inr rfl)) (dgs_cons (dg_name (i := 7) sc_L_text.nd rfl (by first | exact Or.inl rfl | exact Or.inr rfl)) dgs_nil))))
    (dss_one (ds_if (dt_cmp (o_eq hr.units) (de_ix hu (de_ix hu (de_var 1) (de_var 9)) de_int) (de_var 7) (nomark _)) (dss_one (ds_store hu de_str (de_ix hu (de_var 5) (de_op o_mul de_int (de_op o_sub (de_var 4) (de_var 7)))) (de_op o_add (de_op o_mul de_int (de_var 6)) de_int))) (dss_one (ds_store hu de_str (de_ix hu (de_var 5) (de_op o_sub (de_op o_mul de_int (de_op o_sub (de_var 4) (de_var 7))) de_int)) (de_op o_mul de_int (de_var 6))))))))
    (dss_one (ds_ret (de_join de_str (le_lc (own := [("_law_row", 11)]) rfl sc_L_text.nd (di_seq (de_var 5)) (blkOk_by (N := N_L_text) (sc := defScope s_L_text) (by decide +kernel)) (fun _ _ _ _ _ => (dg_name (i := 11) sc_L_text.nd rfl (by first | exact Or.inl rfl | exact Or.inr rfl))) (fun _ _ _ _ _ => dts_nil) (fun _ _ _ _ _ => (de_joinO de_str (de_var 11))))))))))))
set_option maxHeartbeats 0 in
theorem ok1_L_same (d : Nat) (B : Bi mg) (C : Ks K mg) {f : Addr} {fd : FuncData} (F : Fun K "_law_same" "_law_same" s_L_same f fd) (gm : mg "_law_same" = some (.ref f)) (hb : Binds K fd ["_law_one", "_law_two"] []) (F_rec : Fn P w K mg base (0 + d) "_law_same" 2 (m_L_same d)) : Fn P w K mg base (0 + d + 1) "_law_same" 2 (m_L_same (d + 1)) := by
  refine fn_mk (N := N_L_same) (fb := b_L_same (m_L_same d)) F sc_L_same gm hb fun cdv A outer s H E hr => ?_
  have hu := hu_ofG hr
  exact (dss_cons (ds_if (dt_val (de_isi (T := "tuple") (by rfl) B.z_isinstance bb_isinstance (de_var 0) (by rfl) B.z_tuple bb_tuple)) (dss_one (ds_ret (de_and (de_isi (T := "tuple") (by rfl) B.z_isinstance bb_isinstance (de_var 1) (by rfl) B.z_tuple bb_tuple) (de_and (de_cmp (o_eq hr.units) (de_callB c_len (by rfl) B.z_len bb_len (da_cons (de_var 0) da_nil)) (de_callB c_len (by rfl) B.z_len bb_len (da_cons (de_var 1) da_nil)) (nomark _)) (de_one (de_callBL (n_all rfl) (by rfl) B.z_all bb_all (le_lc (own := [("_law_a", 2), ("_law_b", 3)]) rfl sc_L_same.nd (di_zip (by rfl) B.z_zip (de_var 0) (de_var 1)) (blkOk_by (N := N_L_same) (sc := defScope s_L_same) (by decide +kernel)) (fun _ _ _ _ _ => (dg_tup rfl (dgs_cons (dg_name (i := 2) sc_L_same.nd rfl (by first | exact Or.inl rfl | exact Or.inr rfl)) (dgs_cons (dg_name (i := 3) sc_L_same.nd rfl (by first | exact Or.inl rfl | exact Or.inr rfl)) dgs_nil)))) (fun _ _ _ _ _ => dts_nil) (fun _ _ _ _ _ => (de_callF (F_rec.mono (by omega)) hr (by rfl) (da_cons (de_var 2) (da_cons (de_var 3) da_nil))))))))))) dss_nil)
    (dss_cons (ds_if (dt_val (de_isi (T := "list") (by rfl) B.z_isinstance bb_isinstance (de_var 0) (by rfl) B.z_list bb_list)) (dss_one (ds_ret (de_and (de_isi (T := "list") (by rfl) B.z_isinstance bb_isinstance (de_var 1) (by rfl) B.z_list bb_list) (de_and (de_cmp (o_eq hr.units) (de_callB c_len (by rfl) B.z_len bb_len (da_cons (de_var 0) da_nil)) (de_callB c_len (by rfl) B.z_len bb_len (da_cons (de_var 1) da_nil)) (nomark _)) (de_one (de_callBL (n_all rfl) (by rfl) B.z_all bb_all (le_lc (own := [("_law_a", 2), ("_law_b", 3)]) rfl sc_L_same.nd (di_zip (by rfl) B.z_zip (de_var 0) (de_var 1)) (blkOk_by (N := N_L_same) (sc := defScope s_L_same) (by decide +kernel)) (fun _ _ _ _ _ => (dg_tup rfl (dgs_cons (dg_name (i := 2) sc_L_same.nd rfl (by first | exact Or.inl rfl | exact Or.inr rfl)) (dgs_cons (dg_name (i := 3) sc_L_same.nd rfl (by first | exact Or.inl rfl | exact Or.inr rfl)) dgs_nil)))) (fun _ _ _ _ _ => dts_nil) (fun _ _ _ _ _ => (de_callF (F_rec.mono (by omega)) hr (by rfl) (da_cons (de_var 2) (da_cons (de_var 3) da_nil))))))))))) dss_nil)
    (dss_cons (ds_if (dt_w (dw_or (dt_val (de_isi (T := "bool") (by rfl) B.z_isinstance bb_isinstance (de_var 0) (by rfl) B.z_bool bb_bool)) (dw_or1 (dt_val (de_isi (T := "int") (by rfl) B.z_isinstance bb_isinstance (de_var 0) (by rfl) B.z_int bb_int))))) (dss_one (ds_ret (de_and (de_isi (T := "int") (by rfl) B.z_isinstance bb_isinstance (de_var 1) (by rfl) B.z_int bb_int) (de_and (de_cmp (o_eq hr.units) (de_isi (T := "bool") (by rfl) B.z_isinstance bb_isinstance (de_var 0) (by rfl) B.z_bool bb_bool) (de_isi (T := "bool") (by rfl) B.z_isinstance bb_isinstance (de_var 1) (by rfl) B.z_bool bb_bool) (nomark _)) (de_one (de_cmp (o_eq hr.units) (de_var 0) (de_var 1) (nomark _))))))) dss_nil)
    (dss_one (ds_ret (de_cmp (o_eq hr.units) (de_var 0) (de_var 1) (nomark _)))))))
theorem ok_L_same (B : Bi mg) (C : Ks K mg) {f : Addr} {fd : FuncData} (F : Fun K "_law_same" "_law_same" s_L_same f fd) (gm : mg "_law_same" = some (.ref f)) (hb : Binds K fd ["_law_one", "_law_two"] []) : Fn P w K mg base 8 "_law_same" 2 (m_L_same 8) := by
  have go : ∀ d, Fn P w K mg base (0 + d) "_law_same" 2 (m_L_same d) := by
    intro d
    induction d with
    | zero => exact fn_none gm F.kp hb
    | succ d ih => exact ok1_L_same d B C F gm hb ih
  exact go 8
end
set_option maxHeartbeats 0 in
theorem body_law {P : Program} {w : World} {K : PySem.W.Frag} {mg : Str → Option Value} {base : Heap} (B : Bi mg) (C : Ks K mg)  (F_L_hand : Fn P w K mg base 1 "_law_hand" 2 c_L_hand) (F_L_piece : Fn P w K mg base 3 "_law_piece" 1 c_L_piece) (F_L_same : Fn P w K mg base 8 "_law_same" 2 c_L_same) (F_L_take : Fn P w K mg base 1 "_law_take" 2 c_L_take) (F_L_text : Fn P w K mg base 1 "_law_text" 1 c_L_text) (F_read_piece : Fn P w K mg base 6 "read_piece" 1 c_read_piece) (F_show_colours : Fn P w K mg base 1 "show_colours" 1 c_show_colours) (F_show_piece : Fn P w K mg base 2 "show_piece" 1 c_show_piece) {f : Addr} {cdv : Value} {A : Around} {outer : List Env} {s : Shared} {H : Hp} {E : XK}
    (hr : RoomG 8 (A.deeper (PyProof.Rows.envOfC "law" (defScope s_law) s.heap.objs.size f cdv))) : DSs (cxOf CX0 P w K mg base N_law "law" (defScope s_law) f cdv A outer s H E).nox (defBody s_law) b_law := by
  have hu := hu_ofG hr
  exact (dss_cons (ds_for (fi := (mR1 (mCons (mAs (mCons (mC (.int 1)) (mCons (mAs (mCons (mAs (mCons (mVar 0) mNil) gLen) (mCons (mC (.int 8)) mNil)) gMin2) mNil)) gMax2) mNil))) (t := (.nm 1)) (f := B1_law) PassesOwn.never rfl (di_range1 (by rfl) B.z_range (da_cons (de_callB (c_max2 rfl) (by rfl) B.z_max bb_max (da_cons de_int (da_cons (de_callB (c_min2 rfl) (by rfl) B.z_min bb_min (da_cons (de_callB c_len (by rfl) B.z_len bb_len (da_cons (de_var 0) da_nil)) (da_cons de_int da_nil))) da_nil))) da_nil)) (dg_name (i := 1) sc_law.nd rfl (by first | exact Or.inl rfl | exact Or.inr rfl)) (dss_cons (ds_set (i := 2) sc_law.nd rfl (by first | exact Or.inl rfl | exact Or.inr rfl) (de_callF (F_L_hand.mono (by decide)) hr (by rfl) (da_cons (de_var 0) (da_cons (de_var 1) da_nil))))
    (dss_cons (ds_set (i := 3) sc_law.nd rfl (by first | exact Or.inl rfl | exact Or.inr rfl) (de_callF (F_L_piece.mono (by decide)) hr (by rfl) (da_cons (de_var 2) da_nil)))
    (dss_cons (ds_set (i := 4) sc_law.nd rfl (by first | exact Or.inl rfl | exact Or.inr rfl) (de_callF (F_L_text.mono (by decide)) hr (by rfl) (da_cons (de_var 3) da_nil)))
    (dss_cons (ds_if (dt_w (dw_or (dt_cmp o_neS (de_callF (F_show_piece.mono (by decide)) hr (by rfl) (da_cons (de_var 3) da_nil)) (de_var 4) (nomark _)) (dw_or1 (dt_not (dt_val (de_callF (F_L_same.mono (by decide)) hr (by rfl) (da_cons (de_callF (F_read_piece.mono (by decide)) hr (by rfl) (da_cons (de_var 4) da_nil)) (da_cons (de_var 3) da_nil)))))))) (dss_one (ds_ret de_bl)) dss_nil)
    (dss_cons (ds_if (dt_not (dt_val (de_callF (F_L_same.mono (by decide)) hr (by rfl) (da_cons (de_callF (F_read_piece.mono (by decide)) hr (by rfl) (da_cons (de_callF (F_show_piece.mono (by decide)) hr (by rfl) (da_cons (de_var 3) da_nil)) da_nil)) (da_cons (de_var 3) da_nil))))) (dss_one (ds_ret de_bl)) dss_nil)
    (dss_cons (ds_set (i := 5) sc_law.nd rfl (by first | exact Or.inl rfl | exact Or.inr rfl) (de_ix hu (de_new (le_lst (da_cons de_int (da_cons (de_op o_mul (de_op o_pow de_int de_int) (de_op o_pow de_int de_int)) da_nil)))) (de_callTy c_int (by rfl) B.z_int bb_int (da_cons (de_cmp (o_eq hr.units) (de_callF (F_L_take.mono (by decide)) hr (by rfl) (da_cons (de_var 2) (da_cons de_int da_nil))) de_int (nomark _)) da_nil))))
    (dss_cons (ds_set (i := 6) sc_law.nd rfl (by first | exact Or.inl rfl | exact Or.inr rfl) (de_callTyL n_tuple (by rfl) B.z_tuple bb_tuple (le_lc (own := [("_law_turn", 7)]) rfl sc_law.nd (di_range1 (by rfl) B.z_range (da_cons (de_callF (F_L_take.mono (by decide)) hr (by rfl) (da_cons (de_var 2) (da_cons de_int da_nil))) da_nil)) (blkOk_by (N := N_law) (sc := defScope s_law) (by decide +kernel)) (fun _ _ _ _ _ => (dg_name (i := 7) sc_law.nd rfl (by first | exact Or.inl rfl | exact Or.inr rfl))) (fun _ _ _ _ _ => dts_nil) (fun _ _ _ _ _ => (de_op o_add (de_var 5) (de_callF (F_L_take.mono (by decide)) hr (by rfl) (da_cons (de_var 2) (da_cons de_int da_nil))))))))
    (dss_one (ds_if (dt_cmp o_neS (de_callF (F_show_colours.mono (by decide)) hr (by rfl) (da_cons (de_var 6) da_nil)) (de_join de_str (le_lc (own := [("_law_colour", 8)]) rfl sc_law.nd (di_seq (de_var 6)) (blkOk_by (N := N_law) (sc := defScope s_law) (by decide +kernel)) (fun _ _ _ _ _ => (dg_name (i := 8) sc_law.nd rfl (by first | exact Or.inl rfl | exact Or.inr rfl))) (fun _ _ _ _ _ => dts_nil) (fun _ _ _ _ _ => (de_callTy (c_str hr.gd hr.units65) (by rfl) B.z_str bb_str (da_cons (de_var 8) da_nil))))) (nomark _)) (dss_one (ds_ret de_bl)) dss_nil))))))))))
    (dss_one (ds_ret de_bl)))
def spLaw (K : PySem.W.Frag) : Sp := fun vs H Q _ => ∃ (a : Addr) (ns : List Int), vs = [.ref a] ∧ ScAt K H a (ns.map V.int) ∧ ns.length ≤ 63 ∧ ∀ H', Q (.bl true) H'
theorem law_sp {P : Program} {w : World} {K : PySem.W.Frag} {mg : Str → Option Value} {base : Heap} {k : Nat} {f : Addr} {fd : FuncData} {ps : List Str} (F : FnG P w K mg base CX0 k f fd ps (spD K 1 m_law)) : FnG P w K mg base CX0 k f fd ps (spLaw K) := by
  refine F.imp fun vs H Q E ⟨a, ns, e, hS, hl, q⟩ => ?_
  subst e
  obtain ⟨hp', eq⟩ := law_pure ns hl
  exact ⟨[], [], [.scr ns], .bl true, hp', rfl, ⟨rfl, List.nodup_nil, fun n o a h _ => by simp at h, fun n x a h _ => by simp at h⟩, by rw [Rps]; exact ⟨_, _, rfl, by rw [Rp]; exact ⟨a, rfl, hS⟩, Rps.nil⟩, eq, fun v H' μ' _ _ r => by rw [r.blE]; exact q H'⟩
set_option maxHeartbeats 0 in
theorem all_mk {l : PySem.W.OpenLaw} {w : World} {K : PySem.W.Frag} {h : Heap} {mg : Str → Option Value} {fa : Addr} (X : K.In h) (G : h.Ns mainGlobals mg) (hfa : mg "law" = some (.ref fa))
    {f0 : Addr} {od0 an0 : Option Addr} {sl0 : Array (Option Value)} {oc0 kV0 dc0 pm0 cd0 ct0 : Value}
    (a0 : PySem.W.nsIn K mainGlobals "is_whole" = some (some (.ref f0))) (l0 : K.lookup f0 = some ⟨oc0, od0, .func (PySem.W.fnOf "is_whole" "is_whole" (defArgs s_is_whole) (defBody s_is_whole) (defScope s_is_whole) .none kV0 dc0 pm0 an0 cd0 ct0), sl0⟩) (c0 : PySem.W.codeIn K cd0 "is_whole" = true) (k0 : PySem.W.keepIn K (.ref f0) = true)
    {f1 : Addr} {od1 an1 : Option Addr} {sl1 : Array (Option Value)} {oc1 kV1 dc1 pm1 cd1 ct1 : Value}
    (a1 : PySem.W.nsIn K mainGlobals "is_pair" = some (some (.ref f1))) (l1 : K.lookup f1 = some ⟨oc1, od1, .func (PySem.W.fnOf "is_pair" "is_pair" (defArgs s_is_pair) (defBody s_is_pair) (defScope s_is_pair) .none kV1 dc1 pm1 an1 cd1 ct1), sl1⟩) (c1 : PySem.W.codeIn K cd1 "is_pair" = true) (k1 : PySem.W.keepIn K (.ref f1) = true)
    {f2 : Addr} {od2 an2 : Option Addr} {sl2 : Array (Option Value)} {oc2 kV2 dc2 pm2 cd2 ct2 : Value}
    (a2 : PySem.W.nsIn K mainGlobals "are_rising" = some (some (.ref f2))) (l2 : K.lookup f2 = some ⟨oc2, od2, .func (PySem.W.fnOf "are_rising" "are_rising" (defArgs s_are_rising) (defBody s_are_rising) (defScope s_are_rising) .none kV2 dc2 pm2 an2 cd2 ct2), sl2⟩) (c2 : PySem.W.codeIn K cd2 "are_rising" = true) (k2 : PySem.W.keepIn K (.ref f2) = true)
    {f3 : Addr} {od3 an3 : Option Addr} {sl3 : Array (Option Value)} {oc3 kV3 dc3 pm3 cd3 ct3 : Value}
    (a3 : PySem.W.nsIn K mainGlobals "towards" = some (some (.ref f3))) (l3 : K.lookup f3 = some ⟨oc3, od3, .func (PySem.W.fnOf "towards" "towards" (defArgs s_towards) (defBody s_towards) (defScope s_towards) .none kV3 dc3 pm3 an3 cd3 ct3), sl3⟩) (c3 : PySem.W.codeIn K cd3 "towards" = true) (k3 : PySem.W.keepIn K (.ref f3) = true)
    {f4 : Addr} {od4 an4 : Option Addr} {sl4 : Array (Option Value)} {oc4 kV4 dc4 pm4 cd4 ct4 : Value}
    (a4 : PySem.W.nsIn K mainGlobals "neighbours" = some (some (.ref f4))) (l4 : K.lookup f4 = some ⟨oc4, od4, .func (PySem.W.fnOf "neighbours" "neighbours" (defArgs s_neighbours) (defBody s_neighbours) (defScope s_neighbours) .none kV4 dc4 pm4 an4 cd4 ct4), sl4⟩) (c4 : PySem.W.codeIn K cd4 "neighbours" = true) (k4 : PySem.W.keepIn K (.ref f4) = true)
    {f5 : Addr} {od5 an5 : Option Addr} {sl5 : Array (Option Value)} {oc5 kV5 dc5 pm5 cd5 ct5 : Value}
    (a5 : PySem.W.nsIn K mainGlobals "is_one" = some (some (.ref f5))) (l5 : K.lookup f5 = some ⟨oc5, od5, .func (PySem.W.fnOf "is_one" "is_one" (defArgs s_is_one) (defBody s_is_one) (defScope s_is_one) .none kV5 dc5 pm5 an5 cd5 ct5), sl5⟩) (c5 : PySem.W.codeIn K cd5 "is_one" = true) (k5 : PySem.W.keepIn K (.ref f5) = true)
    {f6 : Addr} {od6 an6 : Option Addr} {sl6 : Array (Option Value)} {oc6 kV6 dc6 pm6 cd6 ct6 : Value}
    (a6 : PySem.W.nsIn K mainGlobals "are_squares" = some (some (.ref f6))) (l6 : K.lookup f6 = some ⟨oc6, od6, .func (PySem.W.fnOf "are_squares" "are_squares" (defArgs s_are_squares) (defBody s_are_squares) (defScope s_are_squares) .none kV6 dc6 pm6 an6 cd6 ct6), sl6⟩) (c6 : PySem.W.codeIn K cd6 "are_squares" = true) (k6 : PySem.W.keepIn K (.ref f6) = true)
    {f7 : Addr} {od7 an7 : Option Addr} {sl7 : Array (Option Value)} {oc7 kV7 dc7 pm7 cd7 ct7 : Value}
    (a7 : PySem.W.nsIn K mainGlobals "is_joint" = some (some (.ref f7))) (l7 : K.lookup f7 = some ⟨oc7, od7, .func (PySem.W.fnOf "is_joint" "is_joint" (defArgs s_is_joint) (defBody s_is_joint) (defScope s_is_joint) .none kV7 dc7 pm7 an7 cd7 ct7), sl7⟩) (c7 : PySem.W.codeIn K cd7 "is_joint" = true) (k7 : PySem.W.keepIn K (.ref f7) = true)
    {f8 : Addr} {od8 an8 : Option Addr} {sl8 : Array (Option Value)} {oc8 kV8 dc8 pm8 cd8 ct8 : Value}
    (a8 : PySem.W.nsIn K mainGlobals "is_piece" = some (some (.ref f8))) (l8 : K.lookup f8 = some ⟨oc8, od8, .func (PySem.W.fnOf "is_piece" "is_piece" (defArgs s_is_piece) (defBody s_is_piece) (defScope s_is_piece) .none kV8 dc8 pm8 an8 cd8 ct8), sl8⟩) (c8 : PySem.W.codeIn K cd8 "is_piece" = true) (k8 : PySem.W.keepIn K (.ref f8) = true)
    {f9 : Addr} {od9 an9 : Option Addr} {sl9 : Array (Option Value)} {oc9 kV9 dc9 pm9 cd9 ct9 : Value}
    (a9 : PySem.W.nsIn K mainGlobals "joined_pairs" = some (some (.ref f9))) (l9 : K.lookup f9 = some ⟨oc9, od9, .func (PySem.W.fnOf "joined_pairs" "joined_pairs" (defArgs s_joined_pairs) (defBody s_joined_pairs) (defScope s_joined_pairs) .none kV9 dc9 pm9 an9 cd9 ct9), sl9⟩) (c9 : PySem.W.codeIn K cd9 "joined_pairs" = true) (k9 : PySem.W.keepIn K (.ref f9) = true)
    {f10 : Addr} {od10 an10 : Option Addr} {sl10 : Array (Option Value)} {oc10 kV10 dc10 pm10 cd10 ct10 : Value}
    (a10 : PySem.W.nsIn K mainGlobals "square_row" = some (some (.ref f10))) (l10 : K.lookup f10 = some ⟨oc10, od10, .func (PySem.W.fnOf "square_row" "square_row" (defArgs s_square_row) (defBody s_square_row) (defScope s_square_row) .none kV10 dc10 pm10 an10 cd10 ct10), sl10⟩) (c10 : PySem.W.codeIn K cd10 "square_row" = true) (k10 : PySem.W.keepIn K (.ref f10) = true)
    {f11 : Addr} {od11 an11 : Option Addr} {sl11 : Array (Option Value)} {oc11 kV11 dc11 pm11 cd11 ct11 : Value}
    (a11 : PySem.W.nsIn K mainGlobals "joint_row" = some (some (.ref f11))) (l11 : K.lookup f11 = some ⟨oc11, od11, .func (PySem.W.fnOf "joint_row" "joint_row" (defArgs s_joint_row) (defBody s_joint_row) (defScope s_joint_row) .none kV11 dc11 pm11 an11 cd11 ct11), sl11⟩) (c11 : PySem.W.codeIn K cd11 "joint_row" = true) (k11 : PySem.W.keepIn K (.ref f11) = true)
    {f12 : Addr} {od12 an12 : Option Addr} {sl12 : Array (Option Value)} {oc12 kV12 dc12 pm12 cd12 ct12 : Value}
    (a12 : PySem.W.nsIn K mainGlobals "show_piece" = some (some (.ref f12))) (l12 : K.lookup f12 = some ⟨oc12, od12, .func (PySem.W.fnOf "show_piece" "show_piece" (defArgs s_show_piece) (defBody s_show_piece) (defScope s_show_piece) .none kV12 dc12 pm12 an12 cd12 ct12), sl12⟩) (c12 : PySem.W.codeIn K cd12 "show_piece" = true) (k12 : PySem.W.keepIn K (.ref f12) = true)
    {f13 : Addr} {od13 an13 : Option Addr} {sl13 : Array (Option Value)} {oc13 kV13 dc13 pm13 cd13 ct13 : Value}
    (a13 : PySem.W.nsIn K mainGlobals "is_row" = some (some (.ref f13))) (l13 : K.lookup f13 = some ⟨oc13, od13, .func (PySem.W.fnOf "is_row" "is_row" (defArgs s_is_row) (defBody s_is_row) (defScope s_is_row) .none kV13 dc13 pm13 an13 cd13 ct13), sl13⟩) (c13 : PySem.W.codeIn K cd13 "is_row" = true) (k13 : PySem.W.keepIn K (.ref f13) = true)
    {f14 : Addr} {od14 an14 : Option Addr} {sl14 : Array (Option Value)} {oc14 kV14 dc14 pm14 cd14 ct14 : Value}
    (a14 : PySem.W.nsIn K mainGlobals "told_by" = some (some (.ref f14))) (l14 : K.lookup f14 = some ⟨oc14, od14, .func (PySem.W.fnOf "told_by" "told_by" (defArgs s_told_by) (defBody s_told_by) (defScope s_told_by) .none kV14 dc14 pm14 an14 cd14 ct14), sl14⟩) (c14 : PySem.W.codeIn K cd14 "told_by" = true) (k14 : PySem.W.keepIn K (.ref f14) = true)
    {f15 : Addr} {od15 an15 : Option Addr} {sl15 : Array (Option Value)} {oc15 kV15 dc15 pm15 cd15 ct15 : Value}
    (a15 : PySem.W.nsIn K mainGlobals "piece_in" = some (some (.ref f15))) (l15 : K.lookup f15 = some ⟨oc15, od15, .func (PySem.W.fnOf "piece_in" "piece_in" (defArgs s_piece_in) (defBody s_piece_in) (defScope s_piece_in) .none kV15 dc15 pm15 an15 cd15 ct15), sl15⟩) (c15 : PySem.W.codeIn K cd15 "piece_in" = true) (k15 : PySem.W.keepIn K (.ref f15) = true)
    {f16 : Addr} {od16 an16 : Option Addr} {sl16 : Array (Option Value)} {oc16 kV16 dc16 pm16 cd16 ct16 : Value}
    (a16 : PySem.W.nsIn K mainGlobals "read_piece" = some (some (.ref f16))) (l16 : K.lookup f16 = some ⟨oc16, od16, .func (PySem.W.fnOf "read_piece" "read_piece" (defArgs s_read_piece) (defBody s_read_piece) (defScope s_read_piece) .none kV16 dc16 pm16 an16 cd16 ct16), sl16⟩) (c16 : PySem.W.codeIn K cd16 "read_piece" = true) (k16 : PySem.W.keepIn K (.ref f16) = true)
    {f17 : Addr} {od17 an17 : Option Addr} {sl17 : Array (Option Value)} {oc17 kV17 dc17 pm17 cd17 ct17 : Value}
    (a17 : PySem.W.nsIn K mainGlobals "show_colours" = some (some (.ref f17))) (l17 : K.lookup f17 = some ⟨oc17, od17, .func (PySem.W.fnOf "show_colours" "show_colours" (defArgs s_show_colours) (defBody s_show_colours) (defScope s_show_colours) .none kV17 dc17 pm17 an17 cd17 ct17), sl17⟩) (c17 : PySem.W.codeIn K cd17 "show_colours" = true) (k17 : PySem.W.keepIn K (.ref f17) = true)
    {f18 : Addr} {od18 an18 : Option Addr} {sl18 : Array (Option Value)} {oc18 kV18 dc18 pm18 cd18 ct18 : Value}
    (a18 : PySem.W.nsIn K mainGlobals "_law_hand" = some (some (.ref f18))) (l18 : K.lookup f18 = some ⟨oc18, od18, .func (PySem.W.fnOf "_law_hand" "_law_hand" (defArgs s_L_hand) (defBody s_L_hand) (defScope s_L_hand) .none kV18 dc18 pm18 an18 cd18 ct18), sl18⟩) (c18 : PySem.W.codeIn K cd18 "_law_hand" = true) (k18 : PySem.W.keepIn K (.ref f18) = true)
    {f19 : Addr} {od19 an19 : Option Addr} {sl19 : Array (Option Value)} {oc19 kV19 dc19 pm19 cd19 ct19 : Value}
    (a19 : PySem.W.nsIn K mainGlobals "_law_take" = some (some (.ref f19))) (l19 : K.lookup f19 = some ⟨oc19, od19, .func (PySem.W.fnOf "_law_take" "_law_take" (defArgs s_L_take) (defBody s_L_take) (defScope s_L_take) .none kV19 dc19 pm19 an19 cd19 ct19), sl19⟩) (c19 : PySem.W.codeIn K cd19 "_law_take" = true) (k19 : PySem.W.keepIn K (.ref f19) = true)
    {f20 : Addr} {od20 an20 : Option Addr} {sl20 : Array (Option Value)} {oc20 kV20 dc20 pm20 cd20 ct20 : Value}
    (a20 : PySem.W.nsIn K mainGlobals "_law_pick" = some (some (.ref f20))) (l20 : K.lookup f20 = some ⟨oc20, od20, .func (PySem.W.fnOf "_law_pick" "_law_pick" (defArgs s_L_pick) (defBody s_L_pick) (defScope s_L_pick) .none kV20 dc20 pm20 an20 cd20 ct20), sl20⟩) (c20 : PySem.W.codeIn K cd20 "_law_pick" = true) (k20 : PySem.W.keepIn K (.ref f20) = true)
    {f21 : Addr} {od21 an21 : Option Addr} {sl21 : Array (Option Value)} {oc21 kV21 dc21 pm21 cd21 ct21 : Value}
    (a21 : PySem.W.nsIn K mainGlobals "_law_piece" = some (some (.ref f21))) (l21 : K.lookup f21 = some ⟨oc21, od21, .func (PySem.W.fnOf "_law_piece" "_law_piece" (defArgs s_L_piece) (defBody s_L_piece) (defScope s_L_piece) .none kV21 dc21 pm21 an21 cd21 ct21), sl21⟩) (c21 : PySem.W.codeIn K cd21 "_law_piece" = true) (k21 : PySem.W.keepIn K (.ref f21) = true)
    {f22 : Addr} {od22 an22 : Option Addr} {sl22 : Array (Option Value)} {oc22 kV22 dc22 pm22 cd22 ct22 : Value}
    (a22 : PySem.W.nsIn K mainGlobals "_law_text" = some (some (.ref f22))) (l22 : K.lookup f22 = some ⟨oc22, od22, .func (PySem.W.fnOf "_law_text" "_law_text" (defArgs s_L_text) (defBody s_L_text) (defScope s_L_text) .none kV22 dc22 pm22 an22 cd22 ct22), sl22⟩) (c22 : PySem.W.codeIn K cd22 "_law_text" = true) (k22 : PySem.W.keepIn K (.ref f22) = true)
    {f23 : Addr} {od23 an23 : Option Addr} {sl23 : Array (Option Value)} {oc23 kV23 dc23 pm23 cd23 ct23 : Value}
    (a23 : PySem.W.nsIn K mainGlobals "_law_same" = some (some (.ref f23))) (l23 : K.lookup f23 = some ⟨oc23, od23, .func (PySem.W.fnOf "_law_same" "_law_same" (defArgs s_L_same) (defBody s_L_same) (defScope s_L_same) .none kV23 dc23 pm23 an23 cd23 ct23), sl23⟩) (c23 : PySem.W.codeIn K cd23 "_law_same" = true) (k23 : PySem.W.keepIn K (.ref f23) = true)
    {f24 : Addr} {od24 an24 : Option Addr} {sl24 : Array (Option Value)} {oc24 kV24 dc24 pm24 cd24 ct24 : Value}
    (a24 : PySem.W.nsIn K mainGlobals "law" = some (some (.ref f24))) (l24 : K.lookup f24 = some ⟨oc24, od24, .func (PySem.W.fnOf "law" "law" (defArgs s_law) (defBody s_law) (defScope s_law) .none kV24 dc24 pm24 an24 cd24 ct24), sl24⟩) (c24 : PySem.W.codeIn K cd24 "law" = true) (k24 : PySem.W.keepIn K (.ref f24) = true)
    (z_isinstance : PySem.W.nsIn K mainGlobals "isinstance" = some none)
    (z_int : PySem.W.nsIn K mainGlobals "int" = some none)
    (z_bool : PySem.W.nsIn K mainGlobals "bool" = some none)
    (z_tuple : PySem.W.nsIn K mainGlobals "tuple" = some none)
    (z_len : PySem.W.nsIn K mainGlobals "len" = some none)
    (z_all : PySem.W.nsIn K mainGlobals "all" = some none)
    (z_zip : PySem.W.nsIn K mainGlobals "zip" = some none)
    (z_min : PySem.W.nsIn K mainGlobals "min" = some none)
    (z_dict : PySem.W.nsIn K mainGlobals "dict" = some none)
    (z_range : PySem.W.nsIn K mainGlobals "range" = some none)
    (z_max : PySem.W.nsIn K mainGlobals "max" = some none)
    (z_enumerate : PySem.W.nsIn K mainGlobals "enumerate" = some none)
    (z_sorted : PySem.W.nsIn K mainGlobals "sorted" = some none)
    (z_str : PySem.W.nsIn K mainGlobals "str" = some none)
    (z_list : PySem.W.nsIn K mainGlobals "list" = some none)
    {t_MOST_SQUARES : Tok} (g_MOST_SQUARES : PySem.W.nsIn K mainGlobals "MOST_SQUARES" = some (some (.int 130 t_MOST_SQUARES)))
    {q0_STEPS : Addr} {nn0_STEPS : Nat} {ss0_STEPS : Array (Option Value)}
    {q1_STEPS : Addr} {nn1_STEPS : Nat} {ss1_STEPS : Array (Option Value)}
    {t1_0_STEPS : Tok}
    {t1_1_STEPS : Tok}
    (h1_STEPS : K.lookup q1_STEPS = some ⟨.type "tuple", none, .seq #[.int (1) t1_0_STEPS, .int (0) t1_1_STEPS] nn1_STEPS, ss1_STEPS⟩)
    {q2_STEPS : Addr} {nn2_STEPS : Nat} {ss2_STEPS : Array (Option Value)}
    {t2_0_STEPS : Tok}
    {t2_1_STEPS : Tok}
    (h2_STEPS : K.lookup q2_STEPS = some ⟨.type "tuple", none, .seq #[.int (0) t2_0_STEPS, .int (1) t2_1_STEPS] nn2_STEPS, ss2_STEPS⟩)
    {q3_STEPS : Addr} {nn3_STEPS : Nat} {ss3_STEPS : Array (Option Value)}
    {t3_0_STEPS : Tok}
    {t3_1_STEPS : Tok}
    (h3_STEPS : K.lookup q3_STEPS = some ⟨.type "tuple", none, .seq #[.int (-1) t3_0_STEPS, .int (0) t3_1_STEPS] nn3_STEPS, ss3_STEPS⟩)
    {q4_STEPS : Addr} {nn4_STEPS : Nat} {ss4_STEPS : Array (Option Value)}
    {t4_0_STEPS : Tok}
    {t4_1_STEPS : Tok}
    (h4_STEPS : K.lookup q4_STEPS = some ⟨.type "tuple", none, .seq #[.int (0) t4_0_STEPS, .int (-1) t4_1_STEPS] nn4_STEPS, ss4_STEPS⟩)
    (h0_STEPS : K.lookup q0_STEPS = some ⟨.type "tuple", none, .seq #[.ref q1_STEPS, .ref q2_STEPS, .ref q3_STEPS, .ref q4_STEPS] nn0_STEPS, ss0_STEPS⟩)
    (g_STEPS : PySem.W.nsIn K mainGlobals "STEPS" = some (some (.ref q0_STEPS)))
    {q0_SIGNS : Addr} {nn0_SIGNS : Nat} {ss0_SIGNS : Array (Option Value)}
    {q1_SIGNS : Addr} {nn1_SIGNS : Nat} {ss1_SIGNS : Array (Option Value)}
    {t1_0_SIGNS : Tok}
    {t1_1_SIGNS : Tok}
    (h1_SIGNS : K.lookup q1_SIGNS = some ⟨.type "tuple", none, .seq #[.str "#." t1_0_SIGNS, .str "-." t1_1_SIGNS] nn1_SIGNS, ss1_SIGNS⟩)
    {q2_SIGNS : Addr} {nn2_SIGNS : Nat} {ss2_SIGNS : Array (Option Value)}
    {t2_0_SIGNS : Tok}
    {t2_1_SIGNS : Tok}
    (h2_SIGNS : K.lookup q2_SIGNS = some ⟨.type "tuple", none, .seq #[.str "|." t2_0_SIGNS, .str "." t2_1_SIGNS] nn2_SIGNS, ss2_SIGNS⟩)
    (h0_SIGNS : K.lookup q0_SIGNS = some ⟨.type "tuple", none, .seq #[.ref q1_SIGNS, .ref q2_SIGNS] nn0_SIGNS, ss0_SIGNS⟩)
    (g_SIGNS : PySem.W.nsIn K mainGlobals "SIGNS" = some (some (.ref q0_SIGNS))) :
    ∃ fd : FuncData, (∀ (s : Shared) (v : Value), BindsTo s fd ⟨[v], []⟩ [("_law_script", v)]) ∧ ∀ base : Heap, K.In base → base.Ns mainGlobals mg → FnG l.prog w K mg base CX0 9 fa fd ["_law_script"] (spLaw K) := by
  have e := hfa.symm.trans (PySem.W.mg_of X G a24)
  cases e
  have B : Bi mg := ⟨PySem.W.mg_none_of X G z_isinstance, PySem.W.mg_none_of X G z_int, PySem.W.mg_none_of X G z_bool, PySem.W.mg_none_of X G z_tuple, PySem.W.mg_none_of X G z_len, PySem.W.mg_none_of X G z_all, PySem.W.mg_none_of X G z_zip, PySem.W.mg_none_of X G z_min, PySem.W.mg_none_of X G z_dict, PySem.W.mg_none_of X G z_range, PySem.W.mg_none_of X G z_max, PySem.W.mg_none_of X G z_enumerate, PySem.W.mg_none_of X G z_sorted, PySem.W.mg_none_of X G z_str, PySem.W.mg_none_of X G z_list⟩
  have C : Ks K mg := ⟨⟨_, .int (130), PySem.W.mg_of X G g_MOST_SQUARES, ⟨_, rfl⟩, fun _ _ => Rp.int⟩, ⟨_, .ref q0_STEPS, PySem.W.mg_of X G g_STEPS, rfl, fun _ _ => (Rp.wt h0_STEPS (by show 4 ≤ sizeLine; decide) (Paired.cons (show RelV (.ref q1_STEPS) (.ref q1_STEPS) from rfl) (Paired.cons (show RelV (.ref q2_STEPS) (.ref q2_STEPS) from rfl) (Paired.cons (show RelV (.ref q3_STEPS) (.ref q3_STEPS) from rfl) (Paired.cons (show RelV (.ref q4_STEPS) (.ref q4_STEPS) from rfl) Paired.nil)))) (Rps.mk (Rp.wt h1_STEPS (by show 2 ≤ sizeLine; decide) (Paired.cons (show RelV (.int (1)) (.int (1) t1_0_STEPS) from ⟨_, rfl⟩) (Paired.cons (show RelV (.int (0)) (.int (0) t1_1_STEPS) from ⟨_, rfl⟩) Paired.nil)) (Rps.mk Rp.int (Rps.mk Rp.int Rps.nil))) (Rps.mk (Rp.wt h2_STEPS (by show 2 ≤ sizeLine; decide) (Paired.cons (show RelV (.int (0)) (.int (0) t2_0_STEPS) from ⟨_, rfl⟩) (Paired.cons (show RelV (.int (1)) (.int (1) t2_1_STEPS) from ⟨_, rfl⟩) Paired.nil)) (Rps.mk Rp.int (Rps.mk Rp.int Rps.nil))) (Rps.mk (Rp.wt h3_STEPS (by show 2 ≤ sizeLine; decide) (Paired.cons (show RelV (.int (-1)) (.int (-1) t3_0_STEPS) from ⟨_, rfl⟩) (Paired.cons (show RelV (.int (0)) (.int (0) t3_1_STEPS) from ⟨_, rfl⟩) Paired.nil)) (Rps.mk Rp.int (Rps.mk Rp.int Rps.nil))) (Rps.mk (Rp.wt h4_STEPS (by show 2 ≤ sizeLine; decide) (Paired.cons (show RelV (.int (0)) (.int (0) t4_0_STEPS) from ⟨_, rfl⟩) (Paired.cons (show RelV (.int (-1)) (.int (-1) t4_1_STEPS) from ⟨_, rfl⟩) Paired.nil)) (Rps.mk Rp.int (Rps.mk Rp.int Rps.nil))) Rps.nil)))))⟩, ⟨_, .ref q0_SIGNS, PySem.W.mg_of X G g_SIGNS, rfl, fun _ _ => (Rp.wt h0_SIGNS (by show 2 ≤ sizeLine; decide) (Paired.cons (show RelV (.ref q1_SIGNS) (.ref q1_SIGNS) from rfl) (Paired.cons (show RelV (.ref q2_SIGNS) (.ref q2_SIGNS) from rfl) Paired.nil)) (Rps.mk (Rp.wt h1_SIGNS (by show 2 ≤ sizeLine; decide) (Paired.cons (show RelV (.str "#.") (.str "#." t1_0_SIGNS) from ⟨_, rfl⟩) (Paired.cons (show RelV (.str "-.") (.str "-." t1_1_SIGNS) from ⟨_, rfl⟩) Paired.nil)) (Rps.mk Rp.str (Rps.mk Rp.str Rps.nil))) (Rps.mk (Rp.wt h2_SIGNS (by show 2 ≤ sizeLine; decide) (Paired.cons (show RelV (.str "|.") (.str "|." t2_0_SIGNS) from ⟨_, rfl⟩) (Paired.cons (show RelV (.str ".") (.str "." t2_1_SIGNS) from ⟨_, rfl⟩) Paired.nil)) (Rps.mk Rp.str (Rps.mk Rp.str Rps.nil))) Rps.nil)))⟩⟩
  have F0 := fun_mk (st := s_is_whole) l0 c0 k0
  have b0 := F0.binds (ps := ["thing"]) fun _ _ _ _ _ _ us hl => match us, hl with | [_], _ => rfl
  have G_is_whole := fun (base : Heap) => (ok_is_whole (P := l.prog) (w := w) (base := base) B C F0 (PySem.W.mg_of X G a0) b0)
  have F1 := fun_mk (st := s_is_pair) l1 c1 k1
  have b1 := F1.binds (ps := ["thing"]) fun _ _ _ _ _ _ us hl => match us, hl with | [_], _ => rfl
  have G_is_pair := fun (base : Heap) => (ok_is_pair (P := l.prog) (w := w) (base := base) B C F1 (PySem.W.mg_of X G a1) b1 (G_is_whole base)).cl con_is_pair
  have F2 := fun_mk (st := s_are_rising) l2 c2 k2
  have b2 := F2.binds (ps := ["things"]) fun _ _ _ _ _ _ us hl => match us, hl with | [_], _ => rfl
  have G_are_rising := fun (base : Heap) => (ok_are_rising (P := l.prog) (w := w) (base := base) B C F2 (PySem.W.mg_of X G a2) b2).cl con_are_rising
  have F3 := fun_mk (st := s_towards) l3 c3 k3
  have b3 := F3.binds (ps := ["one", "other"]) fun _ _ _ _ _ _ us hl => match us, hl with | [_, _], _ => rfl
  have G_towards := fun (base : Heap) => (ok_towards (P := l.prog) (w := w) (base := base) B C F3 (PySem.W.mg_of X G a3) b3).cl con_towards
  have F4 := fun_mk (st := s_neighbours) l4 c4 k4
  have b4 := F4.binds (ps := ["piece"]) fun _ _ _ _ _ _ us hl => match us, hl with | [_], _ => rfl
  have G_neighbours := fun (base : Heap) => (ok_neighbours (P := l.prog) (w := w) (base := base) B C F4 (PySem.W.mg_of X G a4) b4 (G_towards base))
  have F5 := fun_mk (st := s_is_one) l5 c5 k5
  have b5 := F5.binds (ps := ["piece"]) fun _ _ _ _ _ _ us hl => match us, hl with | [_], _ => rfl
  have G_is_one := fun (base : Heap) => (ok_is_one (P := l.prog) (w := w) (base := base) B C F5 (PySem.W.mg_of X G a5) b5 (G_neighbours base)).cl con_is_one
  have F6 := fun_mk (st := s_are_squares) l6 c6 k6
  have b6 := F6.binds (ps := ["thing"]) fun _ _ _ _ _ _ us hl => match us, hl with | [_], _ => rfl
  have G_are_squares := fun (base : Heap) => (ok_are_squares (P := l.prog) (w := w) (base := base) B C F6 (PySem.W.mg_of X G a6) b6 (G_are_rising base) (G_is_pair base)).cl con_are_squares
  have F7 := fun_mk (st := s_is_joint) l7 c7 k7
  have b7 := F7.binds (ps := ["thing", "places"]) fun _ _ _ _ _ _ us hl => match us, hl with | [_, _], _ => rfl
  have G_is_joint := fun (base : Heap) => (ok_is_joint (P := l.prog) (w := w) (base := base) B C F7 (PySem.W.mg_of X G a7) b7 (G_is_pair base) (G_towards base)).cl con_is_joint
  have F8 := fun_mk (st := s_is_piece) l8 c8 k8
  have b8 := F8.binds (ps := ["thing"]) fun _ _ _ _ _ _ us hl => match us, hl with | [_], _ => rfl
  have G_is_piece := fun (base : Heap) => (ok_is_piece (P := l.prog) (w := w) (base := base) B C F8 (PySem.W.mg_of X G a8) b8 (G_are_rising base) (G_are_squares base) (G_is_joint base) (G_is_one base)).cl con_is_piece
  have F9 := fun_mk (st := s_joined_pairs) l9 c9 k9
  have b9 := F9.binds (ps := ["piece"]) fun _ _ _ _ _ _ us hl => match us, hl with | [_], _ => rfl
  have G_joined_pairs := fun (base : Heap) => (ok_joined_pairs (P := l.prog) (w := w) (base := base) B C F9 (PySem.W.mg_of X G a9) b9).cl con_joined_pairs
  have F10 := fun_mk (st := s_square_row) l10 c10 k10
  have b10 := F10.binds (ps := ["there", "joined", "wide", "y"]) fun _ _ _ _ _ _ us hl => match us, hl with | [_, _, _, _], _ => rfl
  have G_square_row := fun (base : Heap) => (ok_square_row (P := l.prog) (w := w) (base := base) B C F10 (PySem.W.mg_of X G a10) b10)
  have F11 := fun_mk (st := s_joint_row) l11 c11 k11
  have b11 := F11.binds (ps := ["joined", "wide", "y"]) fun _ _ _ _ _ _ us hl => match us, hl with | [_, _, _], _ => rfl
  have G_joint_row := fun (base : Heap) => (ok_joint_row (P := l.prog) (w := w) (base := base) B C F11 (PySem.W.mg_of X G a11) b11)
  have F12 := fun_mk (st := s_show_piece) l12 c12 k12
  have b12 := F12.binds (ps := ["piece"]) fun _ _ _ _ _ _ us hl => match us, hl with | [_], _ => rfl
  have G_show_piece := fun (base : Heap) => (ok_show_piece (P := l.prog) (w := w) (base := base) B C F12 (PySem.W.mg_of X G a12) b12 (G_joined_pairs base) (G_joint_row base) (G_square_row base)).cl con_show_piece
  have F13 := fun_mk (st := s_is_row) l13 c13 k13
  have b13 := F13.binds (ps := ["row", "number", "long"]) fun _ _ _ _ _ _ us hl => match us, hl with | [_, _, _], _ => rfl
  have G_is_row := fun (base : Heap) => (ok_is_row (P := l.prog) (w := w) (base := base) B C F13 (PySem.W.mg_of X G a13) b13)
  have F14 := fun_mk (st := s_told_by) l14 c14 k14
  have b14 := F14.binds (ps := ["rows"]) fun _ _ _ _ _ _ us hl => match us, hl with | [_], _ => rfl
  have G_told_by := fun (base : Heap) => (ok_told_by (P := l.prog) (w := w) (base := base) B C F14 (PySem.W.mg_of X G a14) b14)
  have F15 := fun_mk (st := s_piece_in) l15 c15 k15
  have b15 := F15.binds (ps := ["rows"]) fun _ _ _ _ _ _ us hl => match us, hl with | [_], _ => rfl
  have G_piece_in := fun (base : Heap) => (ok_piece_in (P := l.prog) (w := w) (base := base) B C F15 (PySem.W.mg_of X G a15) b15 (G_is_piece base) (G_show_piece base) (G_told_by base))
  have F16 := fun_mk (st := s_read_piece) l16 c16 k16
  have b16 := F16.binds (ps := ["text"]) fun _ _ _ _ _ _ us hl => match us, hl with | [_], _ => rfl
  have G_read_piece := fun (base : Heap) => (ok_read_piece (P := l.prog) (w := w) (base := base) B C F16 (PySem.W.mg_of X G a16) b16 (G_is_row base) (G_piece_in base)).cl con_read_piece
  have F17 := fun_mk (st := s_show_colours) l17 c17 k17
  have b17 := F17.binds (ps := ["colours"]) fun _ _ _ _ _ _ us hl => match us, hl with | [_], _ => rfl
  have G_show_colours := fun (base : Heap) => (ok_show_colours (P := l.prog) (w := w) (base := base) B C F17 (PySem.W.mg_of X G a17) b17)
  have F18 := fun_mk (st := s_L_hand) l18 c18 k18
  have b18 := F18.binds (ps := ["_law_script", "_law_k"]) fun _ _ _ _ _ _ us hl => match us, hl with | [_, _], _ => rfl
  have G_L_hand := fun (base : Heap) => (ok_L_hand (P := l.prog) (w := w) (base := base) B C F18 (PySem.W.mg_of X G a18) b18).cl con_L_hand
  have F19 := fun_mk (st := s_L_take) l19 c19 k19
  have b19 := F19.binds (ps := ["_law_hand_here", "_law_many"]) fun _ _ _ _ _ _ us hl => match us, hl with | [_, _], _ => rfl
  have G_L_take := fun (base : Heap) => (ok_L_take (P := l.prog) (w := w) (base := base) B C F19 (PySem.W.mg_of X G a19) b19).cl con_L_take
  have F20 := fun_mk (st := s_L_pick) l20 c20 k20
  have b20 := F20.binds (ps := ["_law_hand_here", "_law_some"]) fun _ _ _ _ _ _ us hl => match us, hl with | [_, _], _ => rfl
  have G_L_pick := fun (base : Heap) => (ok_L_pick (P := l.prog) (w := w) (base := base) B C F20 (PySem.W.mg_of X G a20) b20 (G_L_take base))
  have F21 := fun_mk (st := s_L_piece) l21 c21 k21
  have b21 := F21.binds (ps := ["_law_hand_here"]) fun _ _ _ _ _ _ us hl => match us, hl with | [_], _ => rfl
  have G_L_piece := fun (base : Heap) => (ok_L_piece (P := l.prog) (w := w) (base := base) B C F21 (PySem.W.mg_of X G a21) b21 (G_L_pick base) (G_L_take base)).cl con_L_piece
  have F22 := fun_mk (st := s_L_text) l22 c22 k22
  have b22 := F22.binds (ps := ["_law_piece_here"]) fun _ _ _ _ _ _ us hl => match us, hl with | [_], _ => rfl
  have G_L_text := fun (base : Heap) => (ok_L_text (P := l.prog) (w := w) (base := base) B C F22 (PySem.W.mg_of X G a22) b22).cl con_L_text
  have F23 := fun_mk (st := s_L_same) l23 c23 k23
  have b23 := F23.binds (ps := ["_law_one", "_law_two"]) fun _ _ _ _ _ _ us hl => match us, hl with | [_, _], _ => rfl
  have G_L_same := fun (base : Heap) => (ok_L_same (P := l.prog) (w := w) (base := base) B C F23 (PySem.W.mg_of X G a23) b23)
  have F24 := fun_mk (st := s_law) l24 c24 k24
  have b24 := F24.binds (ps := ["_law_script"]) fun _ _ _ _ _ _ us hl => match us, hl with | [_], _ => rfl
  refine ⟨PySem.W.fnOf "law" "law" (defArgs s_law) (defBody s_law) (defScope s_law) .none kV24 dc24 pm24 an24 cd24 ct24, fun s v => .of_eq rfl, fun base _ _ => ?_⟩
  have FL := fn_def (P := l.prog) (w := w) (mg := mg) (base := base) (k := 8) (N := N_law) (ps := ["_law_script"]) (fb := b_law) F24 sc_law
    (fun cdv A outer s H E hr => body_law B C (G_L_hand base) (G_L_piece base) (G_L_same base) (G_L_take base) (G_L_text base) (G_read_piece base) (G_show_colours base) (G_show_piece base) hr)
  exact law_sp FL
end Lw
open PySem PySem.W PyProof.Rows
set_option maxRecDepth 100000 in
set_option maxHeartbeats 0 in
theorem PySem.Challenge.cw_flatbody_k85_pieces_shown_and_read_holds : PySem.Challenge.rw_flatbody_k85_pieces_shown_and_read.Holds := by
  w_on; o_law; k_head; (case hw => w_witness2)
  k_fill
  refine Ve.walk_ofG (l := PySem.Challenge.rw_flatbody_k85_pieces_shown_and_read) (n := 63) (k := 9) (x := "_law_script") (CX := fun _ => L2.CX0) (sp := fun w => Lw.spLaw _) rfl (by decide) rfl ⟨⟨rfl, by decide, by decide⟩, rfl⟩ (fun w h Y => PySem.W.kIn_of Y) ?F (fun _ _ a ns hl ho hS => ⟨a, ns, rfl, Ve.scAt_of ho hS, hl, fun _ => rfl⟩) (fun _ _ _ _ _ h => h)
  case F =>
    intro w mg fa h KX G hmg
    refine' Lw.all_mk KX G hmg ?a0 ?l0 ?c0 ?k0 ?a1 ?l1 ?c1 ?k1 ?a2 ?l2 ?c2 ?k2 ?a3 ?l3 ?c3 ?k3 ?a4 ?l4 ?c4 ?k4 ?a5 ?l5 ?c5 ?k5 ?a6 ?l6 ?c6 ?k6 ?a7 ?l7 ?c7 ?k7 ?a8 ?l8 ?c8 ?k8 ?a9 ?l9 ?c9 ?k9 ?a10 ?l10 ?c10 ?k10 ?a11 ?l11 ?c11 ?k11 ?a12 ?l12 ?c12 ?k12 ?a13 ?l13 ?c13 ?k13 ?a14 ?l14 ?c14 ?k14 ?a15 ?l15 ?c15 ?k15 ?a16 ?l16 ?c16 ?k16 ?a17 ?l17 ?c17 ?k17 ?a18 ?l18 ?c18 ?k18 ?a19 ?l19 ?c19 ?k19 ?a20 ?l20 ?c20 ?k20 ?a21 ?l21 ?c21 ?k21 ?a22 ?l22 ?c22 ?k22 ?a23 ?l23 ?c23 ?k23 ?a24 ?l24 ?c24 ?k24 ?z_isinstance ?z_int ?z_bool ?z_tuple ?z_len ?z_all ?z_zip ?z_min ?z_dict ?z_range ?z_max ?z_enumerate ?z_sorted ?z_str ?z_list ?g_MOST_SQUARES ?h1_STEPS ?h2_STEPS ?h3_STEPS ?h4_STEPS ?h0_STEPS ?g_STEPS ?h1_SIGNS ?h2_SIGNS ?h0_SIGNS ?g_SIGNS
    (case a0 => k_is); (case l0 => k_is); (case c0 => k_is); (case k0 => k_is); (case a1 => k_is); (case l1 => k_is); (case c1 => k_is); (case k1 => k_is); (case a2 => k_is); (case l2 => k_is); (case c2 => k_is); (case k2 => k_is); (case a3 => k_is); (case l3 => k_is); (case c3 => k_is); (case k3 => k_is); (case a4 => k_is); (case l4 => k_is); (case c4 => k_is); (case k4 => k_is); (case a5 => k_is); (case l5 => k_is); (case c5 => k_is); (case k5 => k_is); (case a6 => k_is); (case l6 => k_is); (case c6 => k_is); (case k6 => k_is); (case a7 => k_is); (case l7 => k_is); (case c7 => k_is); (case k7 => k_is); (case a8 => k_is); (case l8 => k_is); (case c8 => k_is); (case k8 => k_is); (case a9 => k_is); (case l9 => k_is); (case c9 => k_is); (case k9 => k_is); (case a10 => k_is); (case l10 => k_is); (case c10 => k_is); (case k10 => k_is); (case a11 => k_is); (case l11 => k_is); (case c11 => k_is); (case k11 => k_is); (case a12 => k_is); (case l12 => k_is); (case c12 => k_is); (case k12 => k_is); (case a13 => k_is); (case l13 => k_is); (case c13 => k_is); (case k13 => k_is); (case a14 => k_is); (case l14 => k_is); (case c14 => k_is); (case k14 => k_is); (case a15 => k_is); (case l15 => k_is); (case c15 => k_is); (case k15 => k_is); (case a16 => k_is); (case l16 => k_is); (case c16 => k_is); (case k16 => k_is); (case a17 => k_is); (case l17 => k_is); (case c17 => k_is); (case k17 => k_is); (case a18 => k_is); (case l18 => k_is); (case c18 => k_is); (case k18 => k_is); (case a19 => k_is); (case l19 => k_is); (case c19 => k_is); (case k19 => k_is); (case a20 => k_is); (case l20 => k_is); (case c20 => k_is); (case k20 => k_is); (case a21 => k_is); (case l21 => k_is); (case c21 => k_is); (case k21 => k_is); (case a22 => k_is); (case l22 => k_is); (case c22 => k_is); (case k22 => k_is); (case a23 => k_is); (case l23 => k_is); (case c23 => k_is); (case k23 => k_is); (case a24 => k_is); (case l24 => k_is); (case c24 => k_is); (case k24 => k_is); (case z_isinstance => k_is); (case z_int => k_is); (case z_bool => k_is); (case z_tuple => k_is); (case z_len => k_is); (case z_all => k_is); (case z_zip => k_is); (case z_min => k_is); (case z_dict => k_is); (case z_range => k_is); (case z_max => k_is); (case z_enumerate => k_is); (case z_sorted => k_is); (case z_str => k_is); (case z_list => k_is); (case g_MOST_SQUARES => k_is); (case g_STEPS => k_is); (case h0_STEPS => k_is); (case h1_STEPS => k_is); (case h2_STEPS => k_is); (case h3_STEPS => k_is); (case h4_STEPS => k_is); (case g_SIGNS => k_is); (case h0_SIGNS => k_is); (case h1_SIGNS => k_is); (case h2_SIGNS => k_is)
