import PyProof.Rows.All
import Wide.All
import OpenK.AllK
import Wide.FinOn
import HandS.ForMost
import HandS.ForExc
import HandS.Lambda
import KE.KeyNested
import HandS.Wide
import HandS.TupAny
import HandS.TupMul
import HandS.Style
import KE.DataEq
import HandS.Ends
import HandS.Zip
import HandS.SortInts
import HandS.SetFor
import HandS.Strs
import HandS.ExcValue
import HandS.ExcInit
import HandS.ClsMeth
import HandS.ExcIs
import HandS.ExcField
import KE.KExcIs
import HandS.IsInst
import HandS.Iter
import KE.GoesEnum
import HandS.Deep
import HandS.Conv
import PyProof.ReprRoads
import PyProof.ReprLen
import HandS.NoneIn
import HandS.Small
import HandS.Dict
import HandS.DictComp
import HandS.More
import PyProof.DictUpdate
import KE.KItemsList
import HandS.SetBool
import HandS.EndTab
import HandS.TupSets
import KE.IntTextLaws
import PyProof.Rows.TupTab
import KE.GoesMore
import HandS.TupLe
import PySem.Challenge.RW_leastahead_k56_certificates_by_hand
set_option Elab.async false
set_option linter.all false
set_option maxRecDepth 100000
set_option maxHeartbeats 4000000
section
namespace DL
open PySem PySem.Spec L2

abbrev D := PyData
abbrev KF := PySem.W.Frag

/-! ### data at values -/
def keyOf : D → Option Key
  | .int i => some (Sum.inl i)
  | .str x => some (Sum.inr x)
  | _ => Option.none

mutual
def At (K : KF) (G : Hp) : V → D → Prop
  | v, .none => v = .non
  | v, .bool b => v = .bl b
  | v, .int i => v = .int i
  | v, .str x => v = .str x
  | v, .list ds => ∃ a vs, v = .ref a ∧ G a = some (.lst vs) ∧ AtL K G vs ds
  | v, .tuple ds => ∃ a vs, v = .ref a ∧ SqT K G a vs ∧ AtL K G vs ds
  | v, .dict kvs => ∃ a kv, v = .ref a ∧ G a = some (.dK kv) ∧ AtK K G kv kvs
def AtL (K : KF) (G : Hp) : List V → List D → Prop
  | vs, [] => vs = []
  | vs, d :: ds => ∃ v r, vs = v :: r ∧ At K G v d ∧ AtL K G r ds
def AtK (K : KF) (G : Hp) : List (Key × V) → List (D × D) → Prop
  | kv, [] => kv = []
  | kv, (k, d) :: ds => ∃ q v r, kv = (q, v) :: r ∧ keyOf k = some q ∧ At K G v d ∧ AtK K G r ds
end

theorem SqT.grow {K : KF} {G G' : Hp} {a : Addr} {xs : List V} (s : Same G G') (h : SqT K G a xs) : SqT K G' a xs := by
  rcases h with (h | ⟨o, h⟩) | h
  · exact .inl (.inl (s _ _ h))
  · exact .inl (.inr ⟨o, s _ _ h⟩)
  · exact .inr h

mutual
theorem At.mono {K : KF} {G G' : Hp} (s : Same G G') : ∀ (d : D) (v : V), At K G v d → At K G' v d
  | .none, _, h => h
  | .bool _, _, h => h
  | .int _, _, h => h
  | .str _, _, h => h
  | .list ds, _, ⟨a, vs, e, q, l⟩ => ⟨a, vs, e, s _ _ q, AtL.mono s ds vs l⟩
  | .tuple ds, _, ⟨a, vs, e, q, l⟩ => ⟨a, vs, e, SqT.grow s q, AtL.mono s ds vs l⟩
  | .dict kvs, _, ⟨a, kv, e, q, l⟩ => ⟨a, kv, e, s _ _ q, AtK.mono s kvs kv l⟩
theorem AtL.mono {K : KF} {G G' : Hp} (s : Same G G') : ∀ (ds : List D) (vs : List V), AtL K G vs ds → AtL K G' vs ds
  | [], _, h => h
  | d :: ds, _, ⟨v, r, e, h1, h2⟩ => ⟨v, r, e, At.mono s d v h1, AtL.mono s ds r h2⟩
theorem AtK.mono {K : KF} {G G' : Hp} (s : Same G G') : ∀ (ds : List (D × D)) (kv : List (Key × V)), AtK K G kv ds → AtK K G' kv ds
  | [], _, h => h
  | (k, d) :: ds, _, ⟨q, v, r, e, h0, h1, h2⟩ => ⟨q, v, r, e, h0, At.mono s d v h1, AtK.mono s ds r h2⟩
end

theorem AtL.length {K : KF} {G : Hp} : ∀ {ds : List D} {vs : List V}, AtL K G vs ds → vs.length = ds.length
  | [], _, h => by rw [show _ = _ from h]; rfl
  | d :: ds, _, ⟨v, r, e, _, h2⟩ => by subst e; simp [AtL.length h2]
theorem AtL.get {K : KF} {G : Hp} : ∀ {ds : List D} {vs : List V} {i : Nat} {d : D}, AtL K G vs ds → ds[i]? = some d → ∃ v, vs[i]? = some v ∧ At K G v d
  | [], _, _, _, _, e => by simp at e
  | d :: ds, _, 0, x, ⟨v, r, e, h1, _⟩, q => by subst e; simp at q; subst q; exact ⟨v, rfl, h1⟩
  | d :: ds, _, i + 1, x, ⟨v, r, e, _, h2⟩, q => by
    subst e
    obtain ⟨u, a, b⟩ := AtL.get (i := i) (d := x) h2 (by simpa using q)
    exact ⟨u, by simpa using a, b⟩
theorem AtL.app {K : KF} {G : Hp} : ∀ {ds es : List D} {vs us : List V}, AtL K G vs ds → AtL K G us es → AtL K G (vs ++ us) (ds ++ es)
  | [], _, _, _, h, k => by rw [show _ = _ from h]; exact k
  | d :: ds, _, _, _, ⟨v, r, e, h1, h2⟩, k => by subst e; exact ⟨v, r ++ _, rfl, h1, AtL.app h2 k⟩
theorem AtL.nil {K : KF} {G : Hp} : AtL K G [] [] := rfl
theorem AtL.one {K : KF} {G : Hp} {v : V} {d : D} (h : At K G v d) : AtL K G [v] [d] := ⟨v, [], rfl, h, rfl⟩
theorem AtL.set {K : KF} {G : Hp} : ∀ {ds : List D} {vs : List V} {i : Nat} {v : V} {d : D}, AtL K G vs ds → At K G v d → AtL K G (vs.set i v) (ds.set i d)
  | [], _, _, _, _, h, _ => by rw [show _ = _ from h]; rfl
  | d :: ds, _, 0, _, _, ⟨v, r, e, _, h2⟩, k => by subst e; exact ⟨_, _, rfl, k, h2⟩
  | d :: ds, _, i + 1, _, _, ⟨v, r, e, h1, h2⟩, k => by subst e; exact ⟨_, _, rfl, h1, AtL.set h2 k⟩
theorem AtL.take {K : KF} {G : Hp} : ∀ (n : Nat) {ds : List D} {vs : List V}, AtL K G vs ds → AtL K G (vs.take n) (ds.take n)
  | 0, _, _, _ => rfl
  | n + 1, [], _, h => by rw [show _ = _ from h]; rfl
  | n + 1, d :: ds, _, ⟨v, r, e, h1, h2⟩ => by subst e; exact ⟨_, _, rfl, h1, AtL.take n h2⟩
theorem AtL.drop {K : KF} {G : Hp} : ∀ (n : Nat) {ds : List D} {vs : List V}, AtL K G vs ds → AtL K G (vs.drop n) (ds.drop n)
  | 0, _, _, h => h
  | n + 1, [], _, h => by rw [show _ = _ from h]; rfl
  | n + 1, d :: ds, _, ⟨v, r, e, h1, h2⟩ => by subst e; exact AtL.drop n h2
theorem AtL.rev {K : KF} {G : Hp} : ∀ {ds : List D} {vs : List V}, AtL K G vs ds → AtL K G vs.reverse ds.reverse
  | [], _, h => by rw [show _ = _ from h]; rfl
  | d :: ds, _, ⟨v, r, e, h1, h2⟩ => by
    subst e; rw [List.reverse_cons, List.reverse_cons]; exact AtL.app (AtL.rev h2) (AtL.one h1)

/-! ### exceptions as data -/
structure XD where
  cls : Str
  fs : List (Str × D)
def AtF (K : KF) (G : Hp) : List (Str × V) → List (Str × D) → Prop
  | [], [] => True
  | (n, v) :: r, (m, d) :: s => n = m ∧ At K G v d ∧ AtF K G r s
  | _, _ => False
theorem AtF.mono {K : KF} {G G' : Hp} (s : Same G G') : ∀ {vs : List (Str × V)} {ds : List (Str × D)}, AtF K G vs ds → AtF K G' vs ds
  | [], [], h => h
  | (n, v) :: r, (m, d) :: q, ⟨a, b, c⟩ => ⟨a, At.mono s _ _ b, AtF.mono s c⟩
/-- where a class of the program stands -/
def cOf (K : KF) (n : Str) : Addr := match PySem.W.nsIn K mainGlobals n with
  | some (some (.ref a)) => a
  | _ => 0
/-- an exception that stays: its class, its own dict -/
def exO (a C : Addr) (d : Option Addr) : HO := .ext fun h => ∃ (oe : Obj) (vs : Array Value), h.get? a = some oe ∧ Zc (.ref C) d oe ∧ oe.data = .fields vs
def AtX (K : KF) (G : Hp) (v : V) (x : XD) : Prop := ∃ a d, v = .ref a ∧ G a = some (exO a (cOf K x.cls) d) ∧ ((x.fs = [] ∧ d = none) ∨ ∃ dd vfs, d = some dd ∧ G dd = some (.xd vfs) ∧ AtF K G vfs x.fs)
theorem AtX.mono {K : KF} {G G' : Hp} {v : V} {x : XD} (s : Same G G') (h : AtX K G v x) : AtX K G' v x := by
  obtain ⟨a, d, e, h1, h2⟩ := h
  refine ⟨a, d, e, s _ _ h1, ?_⟩
  rcases h2 with h2 | ⟨dd, vfs, e1, e2, e3⟩
  · exact .inl h2
  · exact .inr ⟨dd, vfs, e1, s _ _ e2, e3.mono s⟩
/-! ### dicts whose keys are tuples: of ints, None and such tuples -/
def noText : NestedKey → Bool
  | .none => true
  | .num _ => true
  | .text _ => false
  | .tup ks => noTexts ks
where noTexts : List NestedKey → Bool
  | [] => true
  | k :: ks => noText k && noTexts ks
/-- a tuple as a key -/
def nkO : D → Option NestedKey
  | .none => some .none
  | .int i => some (.num i)
  | .tuple ds => (nkOs ds).map NestedKey.tup
  | _ => Option.none
where nkOs : List D → Option (List NestedKey)
  | [] => some []
  | d :: ds => (nkO d).bind fun k => (nkOs ds).map (k :: ·)
/-- an entry at a dict's place -/
def EntN (p : NestedKey × Addr × V) (e : DictEntry) : Prop := noText p.1 = true ∧ p.1.depth ≤ 8 ∧ (∀ w : World, e.hash = p.1.hash w) ∧ e.key = .ref p.2.1 ∧ RelV p.2.2 e.val
/-- such a dict, at its place -/
def dcnO (a : Addr) (es : List (NestedKey × Addr × V)) : HO := .ext fun h => (a == sysModules) = false ∧ es.length ≤ sizeLine ∧ (es.map (·.1)).Nodup ∧ ∃ o ents ep, h.get? a = some o ∧ o.ExactDict ∧ o.data = .dict ents ep ∧ Paired EntN es ents.toList
/-- its keys and values are data -/
def AtN (K : KF) (G : Hp) : List (NestedKey × Addr × V) → List (D × D) → Prop
  | es, [] => es = []
  | es, (k, d) :: ds => ∃ q b v r, es = (q, b, v) :: r ∧ nkO k = some q ∧ At K G (.ref b) k ∧ At K G v d ∧ AtN K G r ds
theorem AtN.mono {K : KF} {G G' : Hp} (s : Same G G') : ∀ (ds : List (D × D)) (es : List (NestedKey × Addr × V)), AtN K G es ds → AtN K G' es ds
  | [], _, h => h
  | (k, d) :: ds, _, ⟨q, b, v, r, e, h0, h1, h2, h3⟩ => ⟨q, b, v, r, e, h0, At.mono s k _ h1, At.mono s d v h2, AtN.mono s ds r h3⟩
/-- such a dict that is never changed again -/
def AtZ (K : KF) (G : Hp) (v : V) (kvs : List (D × D)) : Prop := ∃ a o es, v = .ref a ∧ G a = some (.frz o (dcnO a es)) ∧ AtN K G es kvs
theorem AtZ.mono {K : KF} {G G' : Hp} {v : V} {kvs : List (D × D)} (s : Same G G') (h : AtZ K G v kvs) : AtZ K G' v kvs := by
  obtain ⟨a, o, es, e, h1, h2⟩ := h
  exact ⟨a, o, es, e, s _ _ h1, AtN.mono s _ _ h2⟩
/-! ### the abstract state -/
/-- what a field of an object holds: a datum, a cell of the memory -/
inductive Fd where
  | d (x : D)
  | r (n : Nat)
/-- what a mutable thing holds -/
inductive C where
  | lst (xs : List D)
  | dct (kvs : List (D × D))
  | tab (x : Str)
  | obj (x : Str) (fs : List (Str × Fd))
  | dcn (kvs : List (D × D))
/-- what a slot or a temporary holds: a datum (never changed again), a bare value, a container that nothing else points to, a cell of the memory, a slot's container, the script -/
inductive T where
  | d (x : D)
  | v (x : V)
  | con (c : C)
  | ref (n : Nat)
  | bor (i : Nat)
  | scr (ns : List Int)
  | exn (x : XD)
  | deep (ds : List D)
  | st (φ : KF → Hp → V → Prop)
  | ext (φ : Heap → Prop)
  | fz (kvs : List (D × D))
abbrev Env := List (Option T)
abbrev Mem := List C
def T.isBor : T → Bool
  | .bor _ => true
  | _ => false
inductive Who where
  | slot (k i : Nat)
  | tmp (k i : Nat)
  | cell (n : Nat)
structure Fram where
  σ : St
  δ : Env
  τ : List (V × T)

def RC (K : KF) (H G : Hp) (a : Addr) : C → Prop
  | .lst ds => ∃ vs, H a = some (.lst vs) ∧ AtL K G vs ds
  | .dct kvs => ∃ kv, H a = some (.dK kv) ∧ AtK K G kv kvs
  | .tab _ => False
  | .obj _ _ => False
  | .dcn kvs => ∃ es, H a = some (dcnO a es) ∧ AtN K G es kvs
/-- where the table of the code objects that the def x makes stands -/
def tabA (K : KF) (x : Str) : Addr := match PySem.W.tabIn K x with
  | some (_, P) => P
  | none => 0
/-- the name of a lambda in the def x -/
def lamN (x : Str) : Str := (x ++ ".<locals>.") ++ "<lambda>"
/-- the table of the code objects of a def x: those that it tells are never changed -/
def TabC (K : KF) (H G : Hp) (a : Addr) (x : Str) : Prop := a = tabA K x ∧ ∃ ps : Array Value, H a = some (.tbl ps) ∧ TriplesOk ps.toList ∧
  ∀ (pos : Pos) (cv : Value), codeAmong pos ps.toList = some cv → ∃ c, cv = .ref c ∧ G c = some (LamX.CodeO c (lamN x))
/-- the fields of an object -/
def RFd (K : KF) (G : Hp) (ι : List Addr) : List (Str × V) → List (Str × Fd) → Prop
  | [], [] => True
  | (n, v) :: r, (m, f) :: s => n = m ∧ (match f with
    | .d x => At K G v x
    | .r k => ∃ b, v = .ref b ∧ ι[k]? = some b) ∧ RFd K G ι r s
  | _, _ => False
theorem RFd.keep {K : KF} {G G' : Hp} {ι ι' : List Addr} (s : Same G G') (hι : ∀ (n : Nat) (a : Addr), ι[n]? = some a → ι'[n]? = some a) : ∀ {vs : List (Str × V)} {fs : List (Str × Fd)}, RFd K G ι vs fs → RFd K G' ι' vs fs
  | [], [], h => h
  | (n, v) :: r, (m, .d x) :: q, ⟨a, b, c⟩ => ⟨a, At.mono s _ _ b, RFd.keep s hι c⟩
  | (n, v) :: r, (m, .r k) :: q, ⟨a, ⟨b, e, b'⟩, c⟩ => ⟨a, ⟨b, e, hι _ _ b'⟩, RFd.keep s hι c⟩
/-- a cell: a container, a table, an object -/
def RCm (K : KF) (H G : Hp) (ι : List Addr) (a : Addr) : C → Prop
  | .tab x => TabC K H G a x
  | .obj x fs => ∃ dx vs, H a = some (.ins (cOf K x) dx vs) ∧ RFd K G ι vs fs
  | c => RC K H G a c
mutual
/-- a tree of lists: its lists are at these places, all else in it is never changed -/
def OwT (K : KF) (H G : Hp) : V → D → List Addr → Prop
  | v, .list ds, As => ∃ a vs Bs, v = .ref a ∧ H a = some (.lst vs) ∧ As = a :: Bs ∧ OwL K H G vs ds Bs
  | v, .none, As => At K G v .none ∧ As = []
  | v, .bool b, As => At K G v (.bool b) ∧ As = []
  | v, .int i, As => At K G v (.int i) ∧ As = []
  | v, .str x, As => At K G v (.str x) ∧ As = []
  | v, .tuple ds, As => At K G v (.tuple ds) ∧ As = []
  | v, .dict kvs, As => At K G v (.dict kvs) ∧ As = []
def OwL (K : KF) (H G : Hp) : List V → List D → List Addr → Prop
  | vs, [], As => vs = [] ∧ As = []
  | vs, d :: ds, As => ∃ v r A1 A2, vs = v :: r ∧ As = A1 ++ A2 ∧ OwT K H G v d A1 ∧ OwL K H G r ds A2
end
mutual
theorem OwT.keep {K : KF} {H H' G G' : Hp} (s : Same G G') : ∀ (d : D) (v : V) (As : List Addr), (∀ a ∈ As, H' a = H a) → OwT K H G v d As → OwT K H' G' v d As
  | .list ds, _, _, e, ⟨a, vs, Bs, h1, h2, h3, h4⟩ => ⟨a, vs, Bs, h1, (e a (by rw [h3]; exact List.mem_cons_self)).trans h2, h3, OwL.keep s ds vs Bs (fun b hb => e b (by rw [h3]; exact List.mem_cons_of_mem _ hb)) h4⟩
  | .none, _, _, _, h => ⟨At.mono s _ _ h.1, h.2⟩
  | .bool _, _, _, _, h => ⟨At.mono s _ _ h.1, h.2⟩
  | .int _, _, _, _, h => ⟨At.mono s _ _ h.1, h.2⟩
  | .str _, _, _, _, h => ⟨At.mono s _ _ h.1, h.2⟩
  | .tuple _, _, _, _, h => ⟨At.mono s _ _ h.1, h.2⟩
  | .dict _, _, _, _, h => ⟨At.mono s _ _ h.1, h.2⟩
theorem OwL.keep {K : KF} {H H' G G' : Hp} (s : Same G G') : ∀ (ds : List D) (vs : List V) (As : List Addr), (∀ a ∈ As, H' a = H a) → OwL K H G vs ds As → OwL K H' G' vs ds As
  | [], _, _, _, h => h
  | d :: ds, _, _, e, ⟨v, r, A1, A2, h1, h2, h3, h4⟩ => ⟨v, r, A1, A2, h1, h2, OwT.keep s d v A1 (fun a ha => e a (by rw [h2]; exact List.mem_append_left _ ha)) h3, OwL.keep s ds r A2 (fun a ha => e a (by rw [h2]; exact List.mem_append_right _ ha)) h4⟩
end
/-- a tree whose root is a list of its own -/
def Deep (K : KF) (H G : Hp) (ow : Addr → Option Who) (w : Who) (v : V) (ds : List D) : Prop := ∃ a vs Bs, v = .ref a ∧ H a = some (.lst vs) ∧ OwL K H G vs ds Bs ∧ (a :: Bs).Nodup ∧ ∀ b ∈ a :: Bs, ow b = some w
theorem Deep.keep {K : KF} {H H' G G' : Hp} {ow ow' : Addr → Option Who} {w w' : Who} {v : V} {ds : List D} (s : Same G G') (hw : ∀ a, ow a = some w → ow' a = some w' ∧ H' a = H a) (h : Deep K H G ow w v ds) : Deep K H' G' ow' w' v ds := by
  obtain ⟨a, vs, Bs, h1, h2, h3, h4, h5⟩ := h
  exact ⟨a, vs, Bs, h1, ((hw a (h5 a List.mem_cons_self)).2).trans h2, OwL.keep s ds vs Bs (fun b hb => (hw b (h5 b (List.mem_cons_of_mem _ hb))).2) h3, h4, fun b hb => (hw b (h5 b hb)).1⟩
def RT (K : KF) (H G : Hp) (ow : Addr → Option Who) (ι : List Addr) (σ : St) (w : Who) (v : V) : T → Prop
  | .d x => At K G v x
  | .v x => v = x
  | .con c => ∃ a, v = .ref a ∧ ow a = some w ∧ RC K H G a c
  | .ref n => ∃ a, v = .ref a ∧ ι[n]? = some a
  | .bor i => σ[i]? = some (some v)
  | .scr ns => ∃ a, v = .ref a ∧ SqL K G a (ns.map V.int)
  | .exn x => AtX K G v x
  | .deep ds => Deep K H G ow w v ds
  | .st φ => ∀ G', Same G G' → φ K G' v
  | .ext φ => ∃ a, v = .ref a ∧ ow a = some w ∧ H a = some (.ext φ)
  | .fz kvs => AtZ K G v kvs
def RTs (K : KF) (H G : Hp) (ow : Addr → Option Who) (ι : List Addr) (σ : St) (k : Nat) : List (V × T) → Prop
  | [] => True
  | p :: τ => RT K H G ow ι σ (.tmp k τ.length) p.1 p.2 ∧ RTs K H G ow ι σ k τ
structure RF (K : KF) (H G : Hp) (ow : Addr → Option Who) (ι : List Addr) (k : Nat) (f : Fram) : Prop where
  len : f.σ.length = f.δ.length
  slots : ∀ (i : Nat) (t : T), f.δ[i]? = some (some t) → t.isBor = false ∧ ∃ v, f.σ[i]? = some (some v) ∧ RT K H G ow ι f.σ (.slot k i) v t
  tmps : RTs K H G ow ι f.σ k f.τ
def RFs (K : KF) (H G : Hp) (ow : Addr → Option Who) (ι : List Addr) : List Fram → Prop
  | [] => True
  | f :: fs => RF K H G ow ι fs.length f ∧ RFs K H G ow ι fs
structure RepG (K : KF) (H G : Hp) (ow : Addr → Option Who) (ι : List Addr) (fs : List Fram) (M : Mem) : Prop where
  sub : Same G H
  own : ∀ a w, ow a = some w → G a = none ∧ ∃ o, H a = some o
  lenM : ι.length = M.length
  cells : ∀ (n : Nat) (c : C), M[n]? = some c → ∃ a, ι[n]? = some a ∧ ow a = some (.cell n) ∧ RCm K H G ι a c
  frs : RFs K H G ow ι fs
def Rep (K : KF) (H : Hp) (fs : List Fram) (M : Mem) : Prop := ∃ G ow ι, RepG K H G ow ι fs M

theorem RC.keep {K : KF} {H H' G G' : Hp} {a : Addr} {c : C} (s : Same G G') (e : H' a = H a) (h : RC K H G a c) : RC K H' G' a c := by
  cases c with
  | lst ds => obtain ⟨vs, q, l⟩ := h; exact ⟨vs, e.trans q, AtL.mono s _ _ l⟩
  | dct kvs => obtain ⟨vs, q, l⟩ := h; exact ⟨vs, e.trans q, AtK.mono s _ _ l⟩
  | tab x => exact h.elim
  | obj x fs => exact h.elim
  | dcn kvs => obtain ⟨vs, q, l⟩ := h; exact ⟨vs, e.trans q, AtN.mono s _ _ l⟩
theorem RCm.keepI {K : KF} {H H' G G' : Hp} {ι ι' : List Addr} {a : Addr} {c : C} (s : Same G G') (hι : ∀ (n : Nat) (a : Addr), ι[n]? = some a → ι'[n]? = some a) (e : H' a = H a) (h : RCm K H G ι a c) : RCm K H' G' ι' a c := by
  cases c with
  | lst ds => exact RC.keep (c := .lst ds) s e h
  | dct ds => exact RC.keep (c := .dct ds) s e h
  | dcn ds => exact RC.keep (c := .dcn ds) s e h
  | obj x fs => obtain ⟨dx, vs, q, l⟩ := h; exact ⟨dx, vs, e.trans q, l.keep s hι⟩
  | tab x =>
    obtain ⟨h0, ps, h1, h2, h3⟩ := h
    refine ⟨h0, ps, e.trans h1, h2, fun pos cv hc => ?_⟩
    obtain ⟨c, e1, e2⟩ := h3 pos cv hc
    exact ⟨c, e1, s _ _ e2⟩
theorem RCm.keep {K : KF} {H H' G G' : Hp} {ι : List Addr} {a : Addr} {c : C} (s : Same G G') (e : H' a = H a) (h : RCm K H G ι a c) : RCm K H' G' ι a c := h.keepI s (fun _ _ q => q) e
/-- a cell that holds a container -/
def C.real : C → Option C
  | .tab _ => none
  | .obj _ _ => none
  | c => some c
theorem RC.m {K : KF} {H G : Hp} {ι : List Addr} {a : Addr} {c : C} (h : RC K H G a c) : RCm K H G ι a c := by
  cases c with
  | lst ds => exact h
  | dct ds => exact h
  | dcn ds => exact h
  | tab x => exact h.elim
  | obj x fs => exact h.elim
theorem RCm.r {K : KF} {H G : Hp} {ι : List Addr} {a : Addr} {c c' : C} (h : RCm K H G ι a c) (e : c.real = some c') : c = c' ∧ RC K H G a c := by
  cases c with
  | lst ds => cases e; exact ⟨rfl, h⟩
  | dct ds => cases e; exact ⟨rfl, h⟩
  | dcn ds => cases e; exact ⟨rfl, h⟩
  | tab x => cases e
  | obj x fs => cases e
theorem real_of {o : Option C} {c : C} (h : o.bind C.real = some c) : o = some c ∧ c.real = some c := by
  cases o with
  | none => cases h
  | some d =>
    cases d with
    | lst ds => cases h; exact ⟨rfl, rfl⟩
    | dct ds => cases h; exact ⟨rfl, rfl⟩
    | dcn ds => cases h; exact ⟨rfl, rfl⟩
    | tab x => cases h
    | obj x fs => cases h
section
variable {K : KF} {H H' G G' : Hp} {ow ow' : Addr → Option Who} {ι ι' : List Addr} {σ σ' : St} {w w' : Who} {v : V} {t : T}
/-- a root is kept: G grows, what it owns stays and is still its own (at a place that may have moved) -/
theorem RT.keep (s : Same G G') (hw : ∀ a, ow a = some w → ow' a = some w' ∧ H' a = H a) (hι : ∀ (n : Nat) (a : Addr), ι[n]? = some a → ι'[n]? = some a) (hσ : ∀ (i : Nat), t = .bor i → σ[i]? = some (some v) → σ'[i]? = some (some v))
    (h : RT K H G ow ι σ w v t) : RT K H' G' ow' ι' σ' w' v t := by
  cases t with
  | d x => exact At.mono s _ _ h
  | v x => exact h
  | con c => obtain ⟨a, e, o, r⟩ := h; obtain ⟨o', e'⟩ := hw a o; exact ⟨a, e, o', r.keep s e'⟩
  | ref n => obtain ⟨a, e, q⟩ := h; exact ⟨a, e, hι _ _ q⟩
  | bor i => exact hσ i rfl h
  | scr ns => obtain ⟨a, e, q⟩ := h; exact ⟨a, e, s.seq q⟩
  | exn x => exact AtX.mono s h
  | deep ds => exact Deep.keep s hw h
  | st φ => exact fun G' s' => h G' (s.trans s')
  | ext φ => obtain ⟨a, e, o, r⟩ := h; obtain ⟨o', e'⟩ := hw a o; exact ⟨a, e, o', e'.trans r⟩
  | fz kvs => exact AtZ.mono s h
theorem RTs.keep {k : Nat} : ∀ {τ : List (V × T)}, Same G G' → (∀ j, j < τ.length → ∀ a, ow a = some (.tmp k j) → ow' a = some (.tmp k j) ∧ H' a = H a) → (∀ (n : Nat) (a : Addr), ι[n]? = some a → ι'[n]? = some a) → (∀ p ∈ τ, ∀ (i : Nat), p.2 = .bor i → σ[i]? = some (some p.1) → σ'[i]? = some (some p.1)) →
    RTs K H G ow ι σ k τ → RTs K H' G' ow' ι' σ' k τ
  | [], _, _, _, _, _ => trivial
  | p :: τ, s, hw, hι, hσ, ⟨h1, h2⟩ => ⟨h1.keep s (hw _ (by simp)) hι (hσ p (by simp)), RTs.keep s (fun j hj => hw j (by simp; omega)) hι (fun q hq => hσ q (by simp [hq])) h2⟩
theorem RF.keep {k : Nat} {f : Fram} (s : Same G G') (hw : ∀ i a, i < f.δ.length → ow a = some (.slot k i) → ow' a = some (.slot k i) ∧ H' a = H a) (hw2 : ∀ j, j < f.τ.length → ∀ a, ow a = some (.tmp k j) → ow' a = some (.tmp k j) ∧ H' a = H a) (hι : ∀ (n : Nat) (a : Addr), ι[n]? = some a → ι'[n]? = some a)
    (h : RF K H G ow ι k f) : RF K H' G' ow' ι' k f := by
  refine ⟨h.len, fun i t e => ?_, RTs.keep s hw2 hι (fun _ _ _ _ q => q) h.tmps⟩
  obtain ⟨nb, v, q, r⟩ := h.slots i t e
  exact ⟨nb, v, q, r.keep s (fun a => hw i a (by exact (List.getElem?_eq_some_iff.mp e).1)) hι fun _ _ q => q⟩
/-- the place w belongs to the frames below depth n -/
def Who.Low (n : Nat) : Who → Prop
  | .slot k _ => k < n
  | .tmp k _ => k < n
  | .cell _ => False
theorem RFs.keep : ∀ {fs : List Fram}, Same G G' → (∀ w : Who, w.Low fs.length → ∀ a, ow a = some w → ow' a = some w ∧ H' a = H a) → (∀ (n : Nat) (a : Addr), ι[n]? = some a → ι'[n]? = some a) → RFs K H G ow ι fs → RFs K H' G' ow' ι' fs
  | [], _, _, _, _ => trivial
  | f :: fs, s, hw, hι, ⟨h1, h2⟩ =>
    ⟨h1.keep s (fun i a _ => hw (.slot fs.length i) (Nat.lt_succ_self _) a) (fun j _ => hw (.tmp fs.length j) (Nat.lt_succ_self _)) hι,
     RFs.keep s (fun w hl => hw w (by cases w <;> first | exact Nat.lt_succ_of_lt hl | exact hl)) hι h2⟩
end
end DL

end
section
namespace DL
open PySem PySem.Spec L2
variable {K : KF} {H H' G G' : Hp} {ow ow' : Addr → Option Who} {ι ι' : List Addr} {σ : St} {δ : Env} {τ : List (V × T)} {fs : List Fram} {M : Mem} {v : V} {t : T} {p : Addr} {o : HO}

/-- the general change: what is owned at places that are not «bad» stays -/
theorem RepG.chg (h : RepG K H G ow ι (⟨σ, δ, τ⟩ :: fs) M) (bad : Who → Prop) (hb : ∀ w, bad w → (∃ n, w = .tmp fs.length n ∧ τ.length ≤ n))
    (hw : ∀ a w, ow a = some w → ¬ bad w → ow' a = some w ∧ H' a = H a) (s : Same G G') (su : Same G' H') (ho : ∀ a w, ow' a = some w → G' a = none ∧ ∃ o, H' a = some o) : RepG K H' G' ow' ι (⟨σ, δ, τ⟩ :: fs) M := by
  refine ⟨su, ho, h.lenM, fun n c e => ?_, ?_, ?_⟩
  · obtain ⟨a, i, q, r⟩ := h.cells n c e
    obtain ⟨q', e'⟩ := hw a _ q (fun z => by obtain ⟨m, z, _⟩ := hb _ z; cases z)
    exact ⟨a, i, q', r.keep s e'⟩
  · exact h.frs.1.keep s (fun i a _ q => hw a _ q (fun z => by obtain ⟨m, z, _⟩ := hb _ z; cases z)) (fun j hj a q => hw a _ q (fun z => by obtain ⟨m, z, l⟩ := hb _ z; cases z; exact absurd (show j < τ.length from hj) (by omega))) (fun _ _ q => q)
  · exact h.frs.2.keep s (fun w hl a q => hw a _ q (fun z => by obtain ⟨m, z, l⟩ := hb _ z; subst z; exact absurd (show fs.length < fs.length from hl) (by omega))) (fun _ _ q => q)
theorem RepG.push (h : RepG K H G ow ι (⟨σ, δ, τ⟩ :: fs) M) (r : RT K H G ow ι σ (.tmp fs.length τ.length) v t) : RepG K H G ow ι (⟨σ, δ, (v, t) :: τ⟩ :: fs) M :=
  ⟨h.sub, h.own, h.lenM, h.cells, ⟨h.frs.1.len, h.frs.1.slots, r, h.frs.1.tmps⟩, h.frs.2⟩
theorem RepG.pop {p : V × T} (h : RepG K H G ow ι (⟨σ, δ, p :: τ⟩ :: fs) M) : RepG K H G ow ι (⟨σ, δ, τ⟩ :: fs) M :=
  ⟨h.sub, h.own, h.lenM, h.cells, ⟨h.frs.1.len, h.frs.1.slots, h.frs.1.tmps.2⟩, h.frs.2⟩
theorem RepG.top {p : V × T} (h : RepG K H G ow ι (⟨σ, δ, p :: τ⟩ :: fs) M) : RT K H G ow ι σ (.tmp fs.length τ.length) p.1 p.2 := h.frs.1.tmps.1
theorem Rep.pop {p : V × T} (h : Rep K H (⟨σ, δ, p :: τ⟩ :: fs) M) : Rep K H (⟨σ, δ, τ⟩ :: fs) M := let ⟨_, _, _, x⟩ := h; ⟨_, _, _, x.pop⟩
theorem RepG.apart (h : RepG K H G ow ι fs M) (hp : H p = none) : ∀ {a w}, ow a = some w → a ≠ p := fun {a w} e z => by
  obtain ⟨_, o, q⟩ := h.own a w e; rw [z, hp] at q; cases q
theorem RepG.gfree (h : RepG K H G ow ι fs M) (hp : H p = none) : G p = none := h.sub.free hp
theorem same_upd {H : Hp} (hp : H p = none) : Same H (upd H p o) := fun b u e => by rw [upd_ne (ne_of_none e hp)]; exact e
/-- a new object that is never changed -/
theorem RepG.newG (h : RepG K H G ow ι (⟨σ, δ, τ⟩ :: fs) M) (hp : H p = none) : RepG K (upd H p o) (upd G p o) ow ι (⟨σ, δ, τ⟩ :: fs) M := by
  refine h.chg (fun _ => False) (fun _ z => z.elim) (fun a w e _ => ⟨e, upd_ne (h.apart hp e)⟩) (same_upd (h.gfree hp)) (fun b u e => ?_) (fun a w e => ?_)
  · by_cases hb : b = p
    · subst hb; rw [upd_same] at e ⊢; exact e
    · rw [upd_ne hb] at e ⊢; exact h.sub _ _ e
  · have ne := h.apart hp e
    rw [upd_ne ne, upd_ne ne]; exact h.own a w e
def ownW (ow : Addr → Option Who) (p : Addr) (w : Who) : Addr → Option Who := fun a => if a = p then some w else ow a
theorem ownW_same {ow : Addr → Option Who} {p : Addr} {w : Who} : ownW ow p w p = some w := by unfold ownW; rw [if_pos rfl]
theorem ownW_ne {ow : Addr → Option Who} {p a : Addr} {w : Who} (h : a ≠ p) : ownW ow p w a = ow a := by unfold ownW; rw [if_neg h]
/-- a new object that is owned -/
theorem RepG.newO (h : RepG K H G ow ι (⟨σ, δ, τ⟩ :: fs) M) (hp : H p = none) (w : Who) : RepG K (upd H p o) G (ownW ow p w) ι (⟨σ, δ, τ⟩ :: fs) M := by
  refine h.chg (fun _ => False) (fun _ z => z.elim) (fun a w e _ => ⟨by rw [ownW_ne (h.apart hp e)]; exact e, upd_ne (h.apart hp e)⟩) (Same.refl _) (h.sub.trans (same_upd hp)) (fun a w' e => ?_)
  by_cases ha : a = p
  · subst ha; exact ⟨h.gfree hp, _, upd_same⟩
  · rw [ownW_ne ha] at e; rw [upd_ne ha]; exact h.own a w' e
/-- a container as a datum -/
def C.sD : C → Option D
  | .lst xs => some (.list xs)
  | .dct kvs => some (.dict kvs)
  | _ => Option.none
theorem RC.at {c : C} {x : D} (r : RC K H G p c) (hs : c.sD = some x) (s : Same G G') (e : ∀ o, H p = some o → G' p = some o) : At K G' (.ref p) x := by
  cases c with
  | lst xs => cases hs; obtain ⟨vs, q, l⟩ := r; exact ⟨p, vs, rfl, e _ q, AtL.mono s _ _ l⟩
  | dct kvs => cases hs; obtain ⟨kv, q, l⟩ := r; exact ⟨p, kv, rfl, e _ q, AtK.mono s _ _ l⟩
  | tab x => exact r.elim
  | obj x fs => exact r.elim
  | dcn kvs => cases hs
theorem RC.there {c : C} (r : RC K H G p c) : ∃ o, H p = some o := by
  cases c with
  | lst xs => obtain ⟨vs, q, l⟩ := r; exact ⟨_, q⟩
  | dct kvs => obtain ⟨kv, q, l⟩ := r; exact ⟨_, q⟩
  | tab x => exact r.elim
  | obj x fs => exact r.elim
  | dcn kvs => obtain ⟨kv, q, l⟩ := r; exact ⟨_, q⟩
/-- the container on top is never changed from now on -/
theorem Rep.freeze {c : C} {x : D} (hs : c.sD = some x) (h : Rep K H (⟨σ, δ, (v, .con c) :: τ⟩ :: fs) M) : Rep K H (⟨σ, δ, (v, .d x) :: τ⟩ :: fs) M := by
  obtain ⟨G, ow, ι, y⟩ := h
  obtain ⟨a, rfl, oa, r⟩ := y.top
  obtain ⟨o, ha⟩ := r.there
  have ga : G a = none := (y.own a _ oa).1
  have hG : ∀ b u, (upd G a o) b = some u → H b = some u := fun b u e => by
    by_cases hb : b = a
    · subst hb; rw [upd_same] at e; rw [ha]; exact e
    · rw [upd_ne hb] at e; exact y.sub _ _ e
  refine ⟨upd G a o, fun b => if b = a then none else ow b, ι, RepG.push (y.pop.chg (fun w => w = .tmp fs.length τ.length) (fun w e => ⟨_, e, Nat.le_refl _⟩) (fun b w e nb => ?_) (same_upd ga) hG (fun b w e => ?_)) ?_⟩
  · have : b ≠ a := fun z => by subst z; rw [oa] at e; cases e; exact nb rfl
    exact ⟨by rw [if_neg this]; exact e, rfl⟩
  · by_cases hb : b = a
    · rw [if_pos hb] at e; cases e
    · rw [if_neg hb] at e; rw [upd_ne hb]; exact y.own b w e
  · exact r.at hs (same_upd ga) fun u e => by rw [ha] at e; cases e; exact upd_same

/-! ### moves -/
def relab (ow : Addr → Option Who) (a0 : Addr) (w' : Who) : Addr → Option Who := fun a => if a = a0 then (ow a).map fun _ => w' else ow a
theorem relab_same {ow : Addr → Option Who} {a : Addr} {w w' : Who} (e : ow a = some w) : relab ow a w' a = some w' := by unfold relab; rw [if_pos rfl, e]; rfl
theorem relab_ne {ow : Addr → Option Who} {a b : Addr} {w' : Who} (h : b ≠ a) : relab ow a w' b = ow b := by unfold relab; rw [if_neg h]
theorem relab_own (x : ∀ a w, ow a = some w → G a = none ∧ ∃ o, H a = some o) (a0 : Addr) (w' : Who) : ∀ a w, relab ow a0 w' a = some w → G a = none ∧ ∃ o, H a = some o := fun a w e => by
  unfold relab at e
  by_cases ha : a = a0
  · rw [if_pos ha] at e
    cases q : ow a with
    | none => rw [q] at e; cases e
    | some w1 => exact x a w1 q
  · rw [if_neg ha] at e; exact x a w e
/-- the root (v, t) at the place w of a state is moved to the place w': the label of its address is changed (where it owns one) -/
theorem RT.move {w : Who} (x : RT K H G ow ι σ w v t) (w' : Who) : ∃ ow', RT K H G ow' ι σ w' v t ∧ (∀ b u, ow b = some u → u ≠ w → ow' b = some u) ∧
    ((∀ a w, ow a = some w → G a = none ∧ ∃ o, H a = some o) → ∀ a w, ow' a = some w → G a = none ∧ ∃ o, H a = some o) := by
  cases t with
  | d y => exact ⟨ow, x, fun _ _ e _ => e, fun z => z⟩
  | v y => exact ⟨ow, x, fun _ _ e _ => e, fun z => z⟩
  | con c =>
    obtain ⟨a, e, q, r⟩ := x
    refine ⟨relab ow a w', ⟨a, e, relab_same q, r⟩, fun b u eb nu => ?_, fun z => relab_own z a w'⟩
    rw [relab_ne]
    · exact eb
    · intro z; subst z; rw [q] at eb; cases eb; exact nu rfl
  | ref n => exact ⟨ow, x, fun _ _ e _ => e, fun z => z⟩
  | bor i => exact ⟨ow, x, fun _ _ e _ => e, fun z => z⟩
  | scr ns => exact ⟨ow, x, fun _ _ e _ => e, fun z => z⟩
  | exn y => exact ⟨ow, x, fun _ _ e _ => e, fun z => z⟩
  | deep ds =>
    obtain ⟨a, vs, Bs, h1, h2, h3, h4, h5⟩ := x
    refine ⟨fun b => if b ∈ a :: Bs then some w' else ow b, ⟨a, vs, Bs, h1, h2, h3, h4, fun b hb => if_pos hb⟩, fun b u eb nu => ?_, fun z b u e => ?_⟩
    · show (if b ∈ a :: Bs then some w' else ow b) = some u
      rw [if_neg]
      · exact eb
      · intro z; rw [h5 b z] at eb; cases eb; exact nu rfl
    · by_cases hb : b ∈ a :: Bs
      · exact z b w (h5 b hb)
      · have e' : (if b ∈ a :: Bs then some w' else ow b) = some u := e
        rw [if_neg hb] at e'; exact z b u e'
  | st φ => exact ⟨ow, x, fun _ _ e _ => e, fun z => z⟩
  | fz kvs => exact ⟨ow, x, fun _ _ e _ => e, fun z => z⟩
  | ext φ =>
    obtain ⟨a, e, q, r⟩ := x
    refine ⟨relab ow a w', ⟨a, e, relab_same q, r⟩, fun b u eb nu => ?_, fun z => relab_own z a w'⟩
    rw [relab_ne]
    · exact eb
    · intro z; subst z; rw [q] at eb; cases eb; exact nu rfl
mutual
theorem OwT.at {H G G' : Hp} (s : Same G G') : ∀ (d : D) (v : V) (As : List Addr), (∀ a ∈ As, ∀ o, H a = some o → G' a = some o) → OwT K H G v d As → At K G' v d
  | .list ds, _, _, e, ⟨a, vs, Bs, h1, h2, h3, h4⟩ => ⟨a, vs, h1, e a (by rw [h3]; exact List.mem_cons_self) _ h2, OwL.at s ds vs Bs (fun b hb => e b (by rw [h3]; exact List.mem_cons_of_mem _ hb)) h4⟩
  | .none, _, _, _, h => At.mono s _ _ h.1
  | .bool _, _, _, _, h => At.mono s _ _ h.1
  | .int _, _, _, _, h => At.mono s _ _ h.1
  | .str _, _, _, _, h => At.mono s _ _ h.1
  | .tuple _, _, _, _, h => At.mono s _ _ h.1
  | .dict _, _, _, _, h => At.mono s _ _ h.1
theorem OwL.at {H G G' : Hp} (s : Same G G') : ∀ (ds : List D) (vs : List V) (As : List Addr), (∀ a ∈ As, ∀ o, H a = some o → G' a = some o) → OwL K H G vs ds As → AtL K G' vs ds
  | [], _, _, _, h => h.1
  | d :: ds, _, _, e, ⟨v, r, A1, A2, h1, h2, h3, h4⟩ => ⟨v, r, h1, OwT.at s d v A1 (fun a ha => e a (by rw [h2]; exact List.mem_append_left _ ha)) h3, OwL.at s ds r A2 (fun a ha => e a (by rw [h2]; exact List.mem_append_right _ ha)) h4⟩
end
/-- the tree on top is never changed from now on -/
theorem Rep.freezeD {ds : List D} (h : Rep K H (⟨σ, δ, (v, .deep ds) :: τ⟩ :: fs) M) : Rep K H (⟨σ, δ, (v, .d (.list ds)) :: τ⟩ :: fs) M := by
  obtain ⟨G, ow, ι, x⟩ := h
  obtain ⟨a, vs, Bs, h1, h2, h3, h4, h5⟩ := x.top
  have sG : Same G (fun b => if b ∈ a :: Bs then H b else G b) := fun b u e => by
    have : b ∉ a :: Bs := fun z => by rw [(x.own b _ (h5 b z)).1] at e; cases e
    show (if b ∈ a :: Bs then H b else G b) = some u
    rw [if_neg this]; exact e
  have hG : Same (fun b => if b ∈ a :: Bs then H b else G b) H := fun b u e => by
    have e' : (if b ∈ a :: Bs then H b else G b) = some u := e
    split at e'
    · exact e'
    · exact x.sub _ _ e'
  refine ⟨fun b => if b ∈ a :: Bs then H b else G b, fun b => if b ∈ a :: Bs then none else ow b, ι, RepG.push (x.pop.chg (fun w => w = .tmp fs.length τ.length) (fun w e => ⟨_, e, Nat.le_refl _⟩) (fun b w e nb => ?_) sG hG (fun b w e => ?_)) ?_⟩
  · have : b ∉ a :: Bs := fun z => by rw [h5 b z] at e; cases e; exact nb rfl
    exact ⟨by rw [if_neg this]; exact e, rfl⟩
  · by_cases hb : b ∈ a :: Bs
    · rw [if_pos hb] at e; cases e
    · rw [if_neg hb] at e; rw [if_neg hb]; exact x.own b w e
  · exact ⟨a, vs, h1, by show (if a ∈ a :: Bs then H a else G a) = _; rw [if_pos List.mem_cons_self]; exact h2, OwL.at sG ds vs Bs (fun b hb o e => by show (if b ∈ a :: Bs then H b else G b) = _; rw [if_pos (List.mem_cons_of_mem _ hb)]; exact e) h3⟩
theorem RT.env {σ' : St} {w : Who} (x : RT K H G ow ι σ w v t) (hb : ∀ i, t = .bor i → σ'[i]? = some (some v)) : RT K H G ow ι σ' w v t := by
  cases t with
  | bor i => exact hb i rfl
  | _ => exact x

/-- no temporary points to a slot -/
def NB (τ : List (V × T)) : Prop := ∀ p ∈ τ, p.2.isBor = false
theorem NB.nil : NB [] := fun _ h => nomatch h
theorem NB.cons {p : V × T} (h : p.2.isBor = false) (k : NB τ) : NB (p :: τ) := fun q hq => by
  rcases List.mem_cons.mp hq with rfl | hq
  · exact h
  · exact k q hq

theorem RepG.slots_of (h : RepG K H G ow ι (⟨σ, δ, τ⟩ :: fs) M) {i : Nat} {t : T} (e : δ[i]? = some (some t)) : t.isBor = false ∧ ∃ v, σ[i]? = some (some v) ∧ RT K H G ow ι σ (.slot fs.length i) v t := h.frs.1.slots i t e

/-- slot i's content becomes the top temporary -/
theorem Rep.take {i : Nat} (h : Rep K H (⟨σ, δ, τ⟩ :: fs) M) (e : δ[i]? = some (some t)) : ∃ v, σ[i]? = some (some v) ∧ Rep K H (⟨σ, δ.set i none, (v, t) :: τ⟩ :: fs) M := by
  obtain ⟨G, ow, ι, x⟩ := h
  obtain ⟨hn, v, es, r⟩ := x.slots_of e
  obtain ⟨ow', r', kp, hown⟩ := r.move (.tmp fs.length τ.length)
  refine ⟨v, es, G, ow', ι, ⟨x.sub, hown x.own, x.lenM, fun n c ec => ?_, ⟨by simpa using x.frs.1.len, fun j u ej => ?_, r', ?_⟩, ?_⟩⟩
  · obtain ⟨a, q1, q2, q3⟩ := x.cells n c ec
    exact ⟨a, q1, kp _ _ q2 (fun z => nomatch z), q3⟩
  · have hj : j ≠ i := fun z => by
      subst z
      have hl := (List.getElem?_eq_some_iff.mp e).1
      have ej' : (δ.set j none)[j]? = some (some u) := ej
      rw [List.getElem?_set_self hl] at ej'; cases ej'
    have ej' : (δ.set i none)[j]? = some (some u) := ej
    rw [List.getElem?_set_ne (Ne.symm hj)] at ej'
    obtain ⟨nb, v', e', r2⟩ := x.slots_of ej'
    exact ⟨nb, v', e', r2.keep (Same.refl _) (fun a q => ⟨kp _ _ q (fun z => by cases z; exact hj rfl), rfl⟩) (fun _ _ q => q) (fun _ _ q => q)⟩
  · exact x.frs.1.tmps.keep (Same.refl _) (fun j _ a q => ⟨kp _ _ q (fun z => nomatch z), rfl⟩) (fun _ _ q => q) (fun _ _ _ _ q => q)
  · exact x.frs.2.keep (Same.refl _) (fun w hl a q => ⟨kp _ _ q (fun z => by subst z; exact absurd (show fs.length < fs.length from hl) (by omega)), rfl⟩) (fun _ _ q => q)
/-- the top temporary is stored in slot i; the names' values may have changed there -/
theorem Rep.put' {σ' : St} {i : Nat} (h : Rep K H (⟨σ, δ, (v, t) :: τ⟩ :: fs) M) (hn : t.isBor = false) (hi : i < σ.length) (hl : σ'.length = σ.length) (hv : σ'[i]? = some (some v)) (ho : ∀ j, j ≠ i → σ'[j]? = σ[j]?)
    (hτ : NB τ ∨ σ' = σ) : Rep K H (⟨σ', δ.set i (some t), τ⟩ :: fs) M := by
  obtain ⟨G, ow, ι, x⟩ := h
  obtain ⟨ow', r', kp, hown⟩ := x.top.move (.slot fs.length i)
  have hlen : σ.length = δ.length := x.frs.1.len
  refine ⟨G, ow', ι, ⟨x.sub, hown x.own, x.lenM, fun n c ec => ?_, ⟨by simpa [hl] using hlen, fun j u ej => ?_, ?_⟩, ?_⟩⟩
  · obtain ⟨a, q1, q2, q3⟩ := x.cells n c ec
    exact ⟨a, q1, kp _ _ q2 (fun z => nomatch z), q3⟩
  · have ej' : (δ.set i (some t))[j]? = some (some u) := ej
    by_cases hj : j = i
    · subst hj
      rw [List.getElem?_set_self (by omega)] at ej'
      cases ej'
      refine ⟨hn, v, hv, r'.env fun k hk => ?_⟩
      have hk' : t = .bor k := hk
      rw [hk'] at hn; cases hn
    · rw [List.getElem?_set_ne (Ne.symm hj)] at ej'
      obtain ⟨nb, v', e', r2⟩ := x.pop.slots_of ej'
      refine ⟨nb, v', (ho j hj).trans e', r2.keep (Same.refl _) (fun a q => ⟨kp _ _ q (fun z => nomatch z), rfl⟩) (fun _ _ q => q) (fun k hk q => ?_)⟩
      rw [hk] at nb; cases nb
  · refine x.pop.frs.1.tmps.keep (Same.refl _) (fun j hj a q => ⟨kp _ _ q (fun z => by cases z; exact absurd hj (by show ¬ τ.length < τ.length; omega)), rfl⟩) (fun _ _ q => q) (fun p hp k hk q => ?_)
    rcases hτ with hτ | hτ
    · have := hτ p hp
      rw [hk] at this; cases this
    · show σ'[k]? = _
      rw [hτ]; exact q
  · exact x.frs.2.keep (Same.refl _) (fun w hl a q => ⟨kp _ _ q (fun z => by subst z; exact absurd (show fs.length < fs.length from hl) (by omega)), rfl⟩) (fun _ _ q => q)
theorem Rep.put {i : Nat} (h : Rep K H (⟨σ, δ, (v, t) :: τ⟩ :: fs) M) (hn : t.isBor = false) (hτ : NB τ) (hi : i < σ.length) : Rep K H (⟨σ.set i (some v), δ.set i (some t), τ⟩ :: fs) M :=
  h.put' hn hi (by simp) (List.getElem?_set_self hi) (fun j hj => List.getElem?_set_ne (Ne.symm hj)) (.inl hτ)
theorem Rep.back {i : Nat} (h : Rep K H (⟨σ, δ, (v, t) :: τ⟩ :: fs) M) (hn : t.isBor = false) (hv : σ[i]? = some (some v)) : Rep K H (⟨σ, δ.set i (some t), τ⟩ :: fs) M :=
  h.put' hn (List.getElem?_eq_some_iff.mp hv).1 rfl hv (fun _ _ => rfl) (.inr rfl)
theorem Rep.len (h : Rep K H (⟨σ, δ, τ⟩ :: fs) M) : σ.length = δ.length := let ⟨_, _, _, x⟩ := h; x.frs.1.len
/-- the second temporary is forgotten -/
theorem Rep.nip {q : V × T} (h : Rep K H (⟨σ, δ, (v, t) :: q :: τ⟩ :: fs) M) : Rep K H (⟨σ, δ, (v, t) :: τ⟩ :: fs) M := by
  obtain ⟨G, ow, ι, x⟩ := h
  obtain ⟨ow', r', kp, hown⟩ := x.top.move (.tmp fs.length τ.length)
  have y := x.pop.pop
  refine ⟨G, ow', ι, ⟨x.sub, hown x.own, x.lenM, fun n c ec => ?_, ⟨y.frs.1.len, fun j u ej => ?_, r', ?_⟩, ?_⟩⟩
  · obtain ⟨a, q1, q2, q3⟩ := x.cells n c ec
    exact ⟨a, q1, kp _ _ q2 (fun z => nomatch z), q3⟩
  · obtain ⟨nb, v', e', r2⟩ := y.slots_of ej
    exact ⟨nb, v', e', r2.keep (Same.refl _) (fun a q => ⟨kp _ _ q (fun z => nomatch z), rfl⟩) (fun _ _ q => q) (fun _ _ q => q)⟩
  · exact y.frs.1.tmps.keep (Same.refl _) (fun j hj a q => ⟨kp _ _ q (fun z => by cases z; exact absurd hj (by show ¬ τ.length + 1 < τ.length; omega)), rfl⟩) (fun _ _ q => q) (fun _ _ _ _ q => q)
  · exact y.frs.2.keep (Same.refl _) (fun w hl a q => ⟨kp _ _ q (fun z => by subst z; exact absurd (show fs.length < fs.length from hl) (by omega)), rfl⟩) (fun _ _ q => q)
/-- the frame ends, its top temporary is handed back -/
theorem Rep.finish (h : Rep K H (⟨σ, δ, (v, t) :: τ⟩ :: fs) M) (hn : t.isBor = false) : Rep K H (⟨[], [], [(v, t)]⟩ :: fs) M := by
  obtain ⟨G, ow, ι, x⟩ := h
  obtain ⟨ow', r', kp, hown⟩ := x.top.move (.tmp fs.length 0)
  refine ⟨G, ow', ι, ⟨x.sub, hown x.own, x.lenM, fun n c ec => ?_, ⟨rfl, fun j u ej => (by cases ej), r'.env (fun k hk => ?_), trivial⟩, ?_⟩⟩
  · obtain ⟨a, q1, q2, q3⟩ := x.cells n c ec
    exact ⟨a, q1, kp _ _ q2 (fun z => nomatch z), q3⟩
  · have hk' : t = .bor k := hk
    rw [hk'] at hn; cases hn
  · exact x.frs.2.keep (Same.refl _) (fun w hl a q => ⟨kp _ _ q (fun z => by subst z; exact absurd (show fs.length < fs.length from hl) (by omega)), rfl⟩) (fun _ _ q => q)
/-- .. and taken by the caller -/
theorem Rep.leave (h : Rep K H (⟨[], [], [(v, t)]⟩ :: ⟨σ, δ, τ⟩ :: fs) M) (hn : t.isBor = false) : Rep K H (⟨σ, δ, (v, t) :: τ⟩ :: fs) M := by
  obtain ⟨G, ow, ι, x⟩ := h
  obtain ⟨ow', r', kp, hown⟩ := x.top.move (.tmp fs.length τ.length)
  have hk : ∀ (w : Who), w.Low (fs.length + 1) → w ≠ Who.tmp (⟨σ, δ, τ⟩ :: fs).length ([] : List (V × T)).length := fun w hl z => by
    subst z
    exact absurd (show fs.length + 1 < fs.length + 1 from hl) (by omega)
  have F := RFs.keep (fs := ⟨σ, δ, τ⟩ :: fs) (ow' := ow') (H' := H) (Same.refl _) (fun w hl a q => ⟨kp _ _ q (hk w hl), rfl⟩) (fun _ _ q => q) x.frs.2
  refine ⟨G, ow', ι, ⟨x.sub, hown x.own, x.lenM, fun n c ec => ?_, ⟨F.1.len, F.1.slots, r'.env (fun k hk => ?_), F.1.tmps⟩, F.2⟩⟩
  · obtain ⟨a, q1, q2, q3⟩ := x.cells n c ec
    exact ⟨a, q1, kp _ _ q2 (fun z => nomatch z), q3⟩
  · have hk' : t = .bor k := hk
    rw [hk'] at hn; cases hn
/-- arguments on top of the temporaries, the first one deepest -/
def rz : List V → List T → List (V × T) → List (V × T)
  | v :: vs, t :: ts, τ => rz vs ts ((v, t) :: τ)
  | _, _, τ => τ
theorem rts_rz {k : Nat} : ∀ {vs : List V} {ts : List T} {τ : List (V × T)}, vs.length = ts.length → RTs K H G ow ι σ k (rz vs ts τ) →
    RTs K H G ow ι σ k τ ∧ ∀ (j : Nat) (t : T), ts[j]? = some t → ∃ v, vs[j]? = some v ∧ RT K H G ow ι σ (.tmp k (τ.length + j)) v t
  | [], [], τ, _, h => ⟨h, fun j t e => by simp at e⟩
  | [], _ :: _, τ, hl, _ => by simp at hl
  | _ :: _, [], τ, hl, _ => by simp at hl
  | v :: vs, t :: ts, τ, hl, h => by
    obtain ⟨⟨h1, h2⟩, h3⟩ := rts_rz (vs := vs) (ts := ts) (τ := (v, t) :: τ) (by simpa using hl) h
    refine ⟨h2, fun j u e => ?_⟩
    cases j with
    | zero => simp at e; subst e; exact ⟨v, rfl, h1⟩
    | succ j =>
      obtain ⟨w, e1, e2⟩ := h3 j u (by simpa using e)
      refine ⟨w, by simpa using e1, ?_⟩
      have : ((v, t) :: τ).length + j = τ.length + (j + 1) := by simp; omega
      rw [this] at e2; exact e2
def reArg (n m : Nat) : Who → Who
  | .tmp k j => if k = n ∧ m ≤ j then .slot (n + 1) (j - m) else .tmp k j
  | w => w
/-- a call: the arguments become a frame of their own -/
theorem Rep.enter {vs : List V} {ts : List T} (h : Rep K H (⟨σ, δ, rz vs ts τ⟩ :: fs) M) (hl : vs.length = ts.length) (hn : ∀ t ∈ ts, t.isBor = false) : Rep K H (⟨vs.map some, ts.map some, []⟩ :: ⟨σ, δ, τ⟩ :: fs) M := by
  obtain ⟨G, ow, ι, x⟩ := h
  obtain ⟨hτ, ha⟩ := rts_rz hl x.frs.1.tmps
  refine ⟨G, fun a => (ow a).map (reArg fs.length τ.length), ι, ⟨x.sub, fun a w e => ?_, x.lenM, fun n c ec => ?_, ⟨by simp [hl], fun j u ej => ?_, trivial⟩, ⟨x.frs.1.len, fun j u ej => ?_, ?_⟩, ?_⟩⟩
  · cases q : ow a with
    | none => rw [q] at e; cases e
    | some w1 => exact x.own a w1 q
  · obtain ⟨a, q1, q2, q3⟩ := x.cells n c ec
    exact ⟨a, q1, by rw [q2]; rfl, q3⟩
  · have ej' : (ts.map some)[j]? = some (some u) := ej
    rw [List.getElem?_map] at ej'
    cases e : ts[j]? with
    | none => rw [e] at ej'; cases ej'
    | some u' =>
      rw [e] at ej'
      cases ej'
      obtain ⟨v, e1, r⟩ := ha j u e
      have nb := hn u (List.mem_of_getElem? e)
      refine ⟨nb, v, by show (vs.map some)[j]? = _; rw [List.getElem?_map, e1]; rfl, r.keep (Same.refl _) (fun a q => ⟨?_, rfl⟩) (fun _ _ q => q) (fun k hk _ => ?_)⟩
      · rw [q]
        refine congrArg some ((if_pos ⟨rfl, Nat.le_add_right _ _⟩ : reArg fs.length τ.length (.tmp fs.length (τ.length + j)) = _).trans ?_)
        rw [Nat.add_sub_cancel_left]; rfl
      · rw [hk] at nb; cases nb
  · obtain ⟨nb, v', e', r2⟩ := x.frs.1.slots j u ej
    exact ⟨nb, v', e', r2.keep (Same.refl _) (fun a q => ⟨by rw [q]; rfl, rfl⟩) (fun _ _ q => q) (fun _ _ q => q)⟩
  · refine hτ.keep (Same.refl _) (fun j hj a q => ⟨?_, rfl⟩) (fun _ _ q => q) (fun _ _ _ _ q => q)
    rw [q]
    exact congrArg some (if_neg (fun z => absurd (show j < τ.length from hj) (by omega)) : reArg fs.length τ.length (.tmp fs.length j) = _)
  · refine x.frs.2.keep (Same.refl _) (fun w hl a q => ⟨?_, rfl⟩) (fun _ _ q => q)
    rw [q]
    cases w with
    | slot k j => rfl
    | tmp k j =>
      exact congrArg some (if_neg (fun z => absurd (show k < fs.length from hl) (by omega)) : reArg fs.length τ.length (.tmp k j) = _)
    | cell n => rfl
/-- slots without a value behind the frame's -/
theorem Rep.wide (n : Nat) (h : Rep K H (⟨σ, δ, τ⟩ :: fs) M) (hτ : NB τ) : Rep K H (⟨σ ++ List.replicate n none, δ ++ List.replicate n none, τ⟩ :: fs) M := by
  obtain ⟨G, ow, ι, x⟩ := h
  refine ⟨G, ow, ι, ⟨x.sub, x.own, x.lenM, x.cells, ⟨by have := x.frs.1.len; simp at this ⊢; exact this, fun j u ej => ?_, ?_⟩, x.frs.2⟩⟩
  · have ej' : (δ ++ List.replicate n none)[j]? = some (some u) := ej
    by_cases hj : j < δ.length
    · rw [List.getElem?_append_left hj] at ej'
      obtain ⟨nb, v, e, r⟩ := x.slots_of ej'
      refine ⟨nb, v, ?_, r.keep (Same.refl _) (fun _ q => ⟨q, rfl⟩) (fun _ _ q => q) (fun k hk => by rw [hk] at nb; cases nb)⟩
      show (σ ++ _)[j]? = _
      rw [List.getElem?_append_left (List.getElem?_eq_some_iff.mp e).1]; exact e
    · rw [List.getElem?_append_right (by omega), List.getElem?_replicate] at ej'
      split at ej' <;> cases ej'
  · exact x.frs.1.tmps.keep (Same.refl _) (fun _ _ _ q => ⟨q, rfl⟩) (fun _ _ q => q) (fun p hp k hk => by have := hτ p hp; rw [hk] at this; cases this)
/-! ### cells -/
/-- the container on top becomes a cell -/
theorem Rep.cell {c : C} (h : Rep K H (⟨σ, δ, (v, .con c) :: τ⟩ :: fs) M) : Rep K H (⟨σ, δ, (v, .ref M.length) :: τ⟩ :: fs) (M ++ [c]) := by
  obtain ⟨G, ow, ι, x⟩ := h
  obtain ⟨a, rfl, q, r⟩ := x.top
  have y := x.pop
  have ne : ∀ b u, ow b = some u → u ≠ .tmp fs.length τ.length → relab ow a (.cell M.length) b = some u := fun b u eb nu => by
    rw [relab_ne]
    · exact eb
    · intro z; subst z; rw [q] at eb; cases eb; exact nu rfl
  have up : ∀ (n : Nat) (b : Addr), ι[n]? = some b → (ι ++ [a])[n]? = some b := fun n b e => by
    rw [List.getElem?_append_left (List.getElem?_eq_some_iff.mp e).1]; exact e
  refine ⟨G, relab ow a (.cell M.length), ι ++ [a], ⟨x.sub, relab_own x.own a _, by simp [x.lenM], fun n c' ec => ?_, ⟨y.frs.1.len, fun j u ej => ?_, ⟨a, rfl, ?_⟩, ?_⟩, ?_⟩⟩
  · by_cases hn : n < M.length
    · rw [List.getElem?_append_left hn] at ec
      obtain ⟨b, q1, q2, q3⟩ := x.cells n c' ec
      exact ⟨b, up _ _ q1, ne _ _ q2 (fun z => nomatch z), q3.keepI (Same.refl _) up rfl⟩
    · have hl := (List.getElem?_eq_some_iff.mp ec).1
      have e : n = M.length := by simp at hl; omega
      subst e
      simp at ec
      subst ec
      exact ⟨a, by rw [← x.lenM]; simp, relab_same q, r.m⟩
  · obtain ⟨nb, v', e', r2⟩ := y.slots_of ej
    exact ⟨nb, v', e', r2.keep (Same.refl _) (fun b qb => ⟨ne _ _ qb (fun z => nomatch z), rfl⟩) up (fun _ _ q => q)⟩
  · rw [← x.lenM]; simp
  · exact y.frs.1.tmps.keep (Same.refl _) (fun j hj b qb => ⟨ne _ _ qb (fun z => by cases z; exact absurd hj (by show ¬ τ.length < τ.length; omega)), rfl⟩) up (fun _ _ _ _ q => q)
  · exact y.frs.2.keep (Same.refl _) (fun w hl b qb => ⟨ne _ _ qb (fun z => by subst z; exact absurd (show fs.length < fs.length from hl) (by omega)), rfl⟩) up
end DL

end
section
namespace DL
open PySem PySem.Spec L2

/-! ### meanings -/
inductive Res (α : Type) where
  | ok (a : α) (δ : Env) (M : Mem)
  | ex (x : XD) (δ : Env) (M : Mem)
  | bad
abbrev Sm (α : Type) := Env → Mem → Res α
def Res.post {α : Type} (r : Res α) (k : α → Env → Mem → Prop) (x : XD → Env → Mem → Prop) : Prop :=
  match r with
  | .ok a δ M => k a δ M
  | .ex e δ M => x e δ M
  | .bad => False
def ret {α : Type} (a : α) : Sm α := fun δ M => .ok a δ M
def bnd {α β : Type} (f : Sm α) (g : α → Sm β) : Sm β := fun δ M =>
  match f δ M with
  | .ok a δ' M' => g a δ' M'
  | .ex x δ' M' => .ex x δ' M'
  | .bad => .bad
def fail {α : Type} : Sm α := fun _ _ => .bad
def opt {α : Type} (o : Option α) : Sm α := fun δ M =>
  match o with
  | some a => .ok a δ M
  | Option.none => .bad
section
variable {α β : Type} {k k' : α → Env → Mem → Prop} {x x' : XD → Env → Mem → Prop} {r : Res α}
theorem Res.post_mono (h : r.post k x) (hk : ∀ a δ M, k a δ M → k' a δ M) (hx : ∀ e δ M, x e δ M → x' e δ M) : r.post k' x' := by
  cases r with
  | ok a δ M => exact hk _ _ _ h
  | ex e δ M => exact hx _ _ _ h
  | bad => exact h
theorem bnd_post {f : Sm α} {g : α → Sm β} {δ : Env} {M : Mem} {k : β → Env → Mem → Prop} (h : (bnd f g δ M).post k x) : (f δ M).post (fun a δ' M' => (g a δ' M').post k x) x := by
  unfold bnd at h
  cases e : f δ M with
  | ok a δ' M' => rw [e] at h; exact h
  | ex e' δ' M' => rw [e] at h; exact h
  | bad => rw [e] at h; exact h
theorem opt_post {o : Option α} {δ : Env} {M : Mem} (h : (opt o δ M).post k x) : ∃ a, o = some a ∧ k a δ M := by
  cases o with
  | none => exact h.elim
  | some a => exact ⟨a, rfl, h⟩
end
/-! ### exceptions at the heap -/
def XAt (K : KF) (H : Hp) (x : XD) (d : Option Addr) (fs : List Fram) (M : Mem) : Prop :=
  ∃ G ow ι, RepG K H G ow ι fs M ∧ ((x.fs = [] ∧ d = none) ∨ ∃ dd vfs, d = some dd ∧ H dd = some (.xd vfs) ∧ AtF K G vfs x.fs ∧ ow dd = none)
theorem XAt.pop {K : KF} {H : Hp} {x : XD} {d : Option Addr} {σ : St} {δ : Env} {p : V × T} {τ : List (V × T)} {fs : List Fram} {M : Mem} (h : XAt K H x d (⟨σ, δ, p :: τ⟩ :: fs) M) : XAt K H x d (⟨σ, δ, τ⟩ :: fs) M :=
  let ⟨G, ow, ι, a, b⟩ := h; ⟨G, ow, ι, a.pop, b⟩
theorem XAt.rep {K : KF} {H : Hp} {x : XD} {d : Option Addr} {fs : List Fram} {M : Mem} (h : XAt K H x d fs M) : Rep K H fs M := let ⟨G, ow, ι, a, _⟩ := h; ⟨G, ow, ι, a⟩

/-! ### readings -/
inductive Fl where
  | nx
  | rt (t : T)
  | bk
  | ct
section
variable (K : KF) (W : WX)
def wX (σ : St) (τ : List (V × T)) (fs : List Fram) : XD → Env → Mem → Prop := fun x δ' M' => ∀ d H', XAt K H' x d (⟨σ, δ', τ⟩ :: fs) M' → W (.ref (cOf K x.cls)) d σ H'
def tE (f : Sm T) : TE := fun σ H Q => ∃ δ τ fs M, Rep K H (⟨σ, δ, τ⟩ :: fs) M ∧ (f δ M).post (fun r δ' M' => ∀ v H', Rep K H' (⟨σ, δ', (v, r) :: τ⟩ :: fs) M' → Q v H') (wX K W σ τ fs)
def tT (f : Sm Bool) : TT := fun σ H Q => ∃ δ τ fs M, Rep K H (⟨σ, δ, τ⟩ :: fs) M ∧ (f δ M).post (fun b δ' M' => ∀ H', Rep K H' (⟨σ, δ', τ⟩ :: fs) M' → Q b H') (wX K W σ τ fs)
def tA (f : Sm (List T)) : TA := fun σ H Q => ∃ δ τ fs M, Rep K H (⟨σ, δ, τ⟩ :: fs) M ∧ (f δ M).post (fun ts δ' M' => ∀ vs H', vs.length = ts.length → Rep K H' (⟨σ, δ', rz vs ts τ⟩ :: fs) M' → Q vs H') (wX K W σ τ fs)
def kS (τ : List (V × T)) (fs : List Fram) (D : Ends) : Fl → Env → Mem → Prop := fun fl δ' M' =>
  match fl with
  | .nx => ∀ σ' H', Rep K H' (⟨σ', δ', τ⟩ :: fs) M' → D.nx σ' H'
  | .bk => ∀ σ' H', Rep K H' (⟨σ', δ', τ⟩ :: fs) M' → D.bk σ' H'
  | .ct => ∀ σ' H', Rep K H' (⟨σ', δ', τ⟩ :: fs) M' → D.ct σ' H'
  | .rt r => r.isBor = false ∧ ∀ v σ' H', Rep K H' (⟨σ', δ', (v, r) :: τ⟩ :: fs) M' → D.rt v H'
def xS (τ : List (V × T)) (fs : List Fram) : XD → Env → Mem → Prop := fun x δ' M' => ∀ d σ' H', XAt K H' x d (⟨σ', δ', τ⟩ :: fs) M' → W (.ref (cOf K x.cls)) d σ' H'
def tS (f : Sm Fl) : TS := fun D σ H => ∃ δ τ fs M, NB τ ∧ Rep K H (⟨σ, δ, τ⟩ :: fs) M ∧ (f δ M).post (kS K τ fs D) (xS K W τ fs)
/-- a target: what comes is the top temporary -/
def tGt (f : T → Sm Unit) : TG := fun v σ H Q => ∃ t δ τ fs M, t.isBor = false ∧ NB τ ∧ Rep K H (⟨σ, δ, (v, t) :: τ⟩ :: fs) M ∧ (f t δ M).post (fun _ δ' M' => ∀ σ' H', Rep K H' (⟨σ', δ', τ⟩ :: fs) M' → Q σ' H') fun _ _ _ => False
end
section
variable {X : Cx} {W : WX} {e : Expr} {st : Stmt} {sts : List Stmt}
theorem _root_.L2.PE.imp {t t' : TE} (h : PE X e t) (i : ∀ σ H Q, t' σ H Q → t σ H Q) : PE X e t' := ⟨fun pins s σ H Q I q => h.run pins s σ H Q I (i _ _ _ q)⟩
theorem _root_.L2.PT.imp {t t' : TT} (h : PT X e t) (i : ∀ σ H Q, t' σ H Q → t σ H Q) : PT X e t' := ⟨fun pins s σ H Q I q => h.run pins s σ H Q I (i _ _ _ q)⟩
theorem _root_.L2.PA.imp {es : List Expr} {t t' : TA} (h : PA X es t) (i : ∀ σ H Q, t' σ H Q → t σ H Q) : PA X es t' := ⟨fun pos pins s σ H Q I q => h.run pos pins s σ H Q I (i _ _ _ q)⟩
theorem _root_.L2.PS.imp {t t' : TS} (h : PS X st t) (i : ∀ D σ H, t' D σ H → t D σ H) : PS X st t' := ⟨fun pins s σ H D I q => h.run pins s σ H D I (i _ _ _ q)⟩
theorem _root_.L2.PSs.imp {t t' : TS} (h : PSs X sts t) (i : ∀ D σ H, t' D σ H → t D σ H) : PSs X sts t' := ⟨fun pins s σ H D I q => h.run pins s σ H D I (i _ _ _ q)⟩
abbrev QE (X : Cx) (W : WX) (e : Expr) (f : Sm T) : Prop := PE X e (tE X.K W f)
abbrev QT (X : Cx) (W : WX) (e : Expr) (f : Sm Bool) : Prop := PT X e (tT X.K W f)
abbrev QA (X : Cx) (W : WX) (es : List Expr) (f : Sm (List T)) : Prop := PA X es (tA X.K W f)
abbrev QS (X : Cx) (W : WX) (st : Stmt) (f : Sm Fl) : Prop := PS X st (tS X.K W f)
abbrev QSs (X : Cx) (W : WX) (sts : List Stmt) (f : Sm Fl) : Prop := PSs X sts (tS X.K W f)
abbrev QG (X : Cx) (tg : Expr) (f : T → Sm Unit) : Prop := PG X tg (tGt X.K f)

variable {K : KF} {H : Hp} {σ : St} {δ : Env} {τ : List (V × T)} {fs : List Fram} {M : Mem} {v u : V} {t : T}
theorem Rep.pushD {x : D} (h : Rep K H (⟨σ, δ, τ⟩ :: fs) M) (a : ∀ G, Same G H → At K G v x) : Rep K H (⟨σ, δ, (v, .d x) :: τ⟩ :: fs) M :=
  let ⟨G, ow, ι, r⟩ := h; ⟨G, ow, ι, r.push (show At K G v x from a G r.sub)⟩
theorem Rep.pushB {i : Nat} (h : Rep K H (⟨σ, δ, τ⟩ :: fs) M) (a : σ[i]? = some (some v)) : Rep K H (⟨σ, δ, (v, .bor i) :: τ⟩ :: fs) M :=
  let ⟨G, ow, ι, r⟩ := h; ⟨G, ow, ι, r.push (show σ[i]? = some (some v) from a)⟩

/-! ### names and constants -/
def mName (i : Nat) : Sm T := fun δ M =>
  match δ[i]? with
  | some (some (.d x)) => .ok (.d x) δ M
  | some (some (.v x)) => .ok (.v x) δ M
  | some (some (.ref n)) => .ok (.ref n) δ M
  | some (some (.scr ns)) => .ok (.scr ns) δ M
  | some (some (.exn x)) => .ok (.exn x) δ M
  | some (some (.fz x)) => .ok (.fz x) δ M
  | some (some (.con _)) => .ok (.bor i) δ M
  | some (some (.deep _)) => .ok (.bor i) δ M
  | _ => .bad
theorem Rep.name {i : Nat} (h : Rep K H (⟨σ, δ, τ⟩ :: fs) M) {Q : VK} {x : XD → Env → Mem → Prop} (q : (mName i δ M).post (fun r δ' M' => ∀ v H', Rep K H' (⟨σ, δ', (v, r) :: τ⟩ :: fs) M' → Q v H') x) (hx : ∀ e δ M, x e δ M → False) :
    ∃ v, σ[i]? = some (some v) ∧ Q v H := by
  obtain ⟨G, ow, ι, r⟩ := h
  unfold mName at q
  cases e : δ[i]? with
  | none => rw [e] at q; exact q.elim
  | some o =>
    cases o with
    | none => rw [e] at q; exact q.elim
    | some t =>
      obtain ⟨nb, v, es, rt⟩ := r.slots_of e
      refine ⟨v, es, ?_⟩
      rw [e] at q
      cases t with
      | d x => exact q v H ⟨G, ow, ι, r.push rt⟩
      | v x => exact q v H ⟨G, ow, ι, r.push rt⟩
      | ref n => exact q v H ⟨G, ow, ι, r.push rt⟩
      | scr ns => exact q v H ⟨G, ow, ι, r.push rt⟩
      | exn x => exact q v H ⟨G, ow, ι, r.push rt⟩
      | st φ => exact q.elim
      | ext φ => exact q.elim
      | fz x => exact q v H ⟨G, ow, ι, r.push rt⟩
      | con c => exact q v H ⟨G, ow, ι, r.push (show RT K H G ow ι σ _ v (.bor i) from es)⟩
      | deep c => exact q v H ⟨G, ow, ι, r.push (show RT K H G ow ι σ _ v (.bor i) from es)⟩
      | bor j => exact q.elim
theorem mName_noex {i : Nat} {δ : Env} {M : Mem} : ∀ {e : XD} {δ' : Env} {M' : Mem}, mName i δ M ≠ .ex e δ' M' := by
  intro e δ' M' h
  unfold mName at h
  split at h <;> cases h
theorem Res.noex {α : Type} {r : Res α} {k : α → Env → Mem → Prop} {x x' : XD → Env → Mem → Prop} (h : r.post k x) (n : ∀ e δ M, r ≠ .ex e δ M) : r.post k x' := by
  cases r with
  | ok a δ M => exact h
  | ex e δ M => exact (n e δ M rfl).elim
  | bad => exact h
theorem qe_name (i : Nat) {x : Str} {pos : Pos} (h : PE X (.Name x pos) (tVar i)) : QE X W (.Name x pos) (mName i) := by
  refine h.imp fun σ H Q ⟨δ, τ, fs, M, r, q⟩ => ?_
  exact r.name (x := fun _ _ _ => False) (Res.noex q fun _ _ _ => mName_noex) fun _ _ _ z => z
def mD (x : D) : Sm T := ret (.d x)
theorem qe_int {i : Int} {j : Nat} {pos : Pos} : QE X W (.Constant (.int i) j pos) (mD (.int i)) :=
  pe_int.imp fun σ H Q ⟨δ, τ, fs, M, r, q⟩ => q _ H (r.pushD fun _ _ => rfl)
theorem qe_bool {i : Bool} {j : Nat} {pos : Pos} : QE X W (.Constant (.bool i) j pos) (mD (.bool i)) :=
  pe_bl.imp fun σ H Q ⟨δ, τ, fs, M, r, q⟩ => q _ H (r.pushD fun _ _ => rfl)
theorem qe_none {j : Nat} {pos : Pos} : QE X W (.Constant .none j pos) (mD .none) :=
  pe_non.imp fun σ H Q ⟨δ, τ, fs, M, r, q⟩ => q _ H (r.pushD fun _ _ => rfl)
theorem qe_str {i : Str} {j : Nat} {pos : Pos} : QE X W (.Constant (.str i) j pos) (mD (.str i)) :=
  pe_str.imp fun σ H Q ⟨δ, τ, fs, M, r, q⟩ => q _ H (r.pushD fun _ _ => rfl)
/-- a global that holds an int -/
theorem qe_glob {x : Str} {u : V} {g : D} {pos : Pos} (h : PE X (.Name x pos) (tC u)) (hu : ∀ G, At X.K G u g) : QE X W (.Name x pos) (mD g) :=
  h.imp fun σ H Q ⟨δ, τ, fs, M, r, q⟩ => q _ H (r.pushD fun _ _ => hu _)
/-- a built-in class or a def as a value -/
theorem qe_val {x : Str} {u : V} {pos : Pos} (h : PE X (.Name x pos) (tC u)) : QE X W (.Name x pos) (ret (.v u)) :=
  h.imp fun σ H Q ⟨δ, τ, fs, M, r, q⟩ => q _ H (let ⟨G, ow, ι, z⟩ := r; ⟨G, ow, ι, z.push (t := .v u) rfl⟩)

/-! ### freezing -/
def mFrz (t : T) : Sm T := fun δ M =>
  match t with
  | .d x => .ok (.d x) δ M
  | .v x => .ok (.v x) δ M
  | .con c => match c.sD with
    | some x => .ok (.d x) δ M
    | Option.none => .bad
  | .deep ds => .ok (.d (.list ds)) δ M
  | .ref n => .ok (.ref n) δ M
  | .scr ns => .ok (.scr ns) δ M
  | .exn x => .ok (.exn x) δ M
  | .st φ => .ok (.st φ) δ M
  | .ext φ => .ok (.ext φ) δ M
  | .fz x => .ok (.fz x) δ M
  | .bor i => match δ[i]? with
    | some (some (.con c)) => match c.sD with
      | some x => .ok (.d x) (δ.set i (some (.d x))) M
      | Option.none => .bad
    | some (some (.deep ds)) => .ok (.d (.list ds)) (δ.set i (some (.d (.list ds)))) M
    | some (some (.d x)) => .ok (.d x) δ M
    | _ => .bad
theorem Rep.frz (h : Rep K H (⟨σ, δ, (v, t) :: τ⟩ :: fs) M) {r : T} {δ' : Env} {M' : Mem} (e : mFrz t δ M = .ok r δ' M') : Rep K H (⟨σ, δ', (v, r) :: τ⟩ :: fs) M' := by
  cases t with
  | d x => cases e; exact h
  | v x => cases e; exact h
  | ref n => cases e; exact h
  | scr ns => cases e; exact h
  | exn x => cases e; exact h
  | st φ => cases e; exact h
  | ext φ => cases e; exact h
  | fz x => cases e; exact h
  | con c =>
    cases hs : c.sD with
    | none => simp [mFrz, hs] at e
    | some x => simp [mFrz, hs] at e; obtain ⟨rfl, rfl, rfl⟩ := e; exact h.freeze hs
  | deep ds => cases e; exact h.freezeD
  | bor i =>
    have hv : σ[i]? = some (some v) := let ⟨_, _, _, x⟩ := h; x.top
    unfold mFrz at e
    simp only at e
    split at e
    · rename_i c q
      split at e
      rotate_left
      · cases e
      rename_i x0 hs
      cases e
      obtain ⟨v', e1, r⟩ := h.pop.take q
      rw [hv] at e1; cases e1
      have r2 := r.freeze hs
      have back : Rep K H (⟨σ, (δ.set i none).set i (some (.d x0)), τ⟩ :: fs) M := r2.back rfl hv
      rw [List.set_set] at back
      obtain ⟨G, ow, ι, y⟩ := r2

      refine ⟨G, ow, ι, ?_⟩
      have z := y
      refine ⟨z.sub, z.own, z.lenM, z.cells, ⟨by simpa using z.frs.1.len, fun j u ej => ?_, z.frs.1.tmps⟩, z.frs.2⟩
      have ej' : (δ.set i (some (.d x0)))[j]? = some (some u) := ej
      by_cases hj : j = i
      · subst hj
        rw [List.getElem?_set_self (List.getElem?_eq_some_iff.mp q).1] at ej'
        cases ej'
        exact ⟨rfl, v, hv, y.top⟩
      · rw [List.getElem?_set_ne (Ne.symm hj)] at ej'
        refine z.frs.1.slots j u ?_
        show (δ.set i none)[j]? = _
        rw [List.getElem?_set_ne (Ne.symm hj)]; exact ej'
    · rename_i ds q
      cases e
      obtain ⟨v', e1, r⟩ := h.pop.take q
      rw [hv] at e1; cases e1
      have r2 := r.freezeD
      have back : Rep K H (⟨σ, (δ.set i none).set i (some (.d (.list ds))), τ⟩ :: fs) M := r2.back rfl hv
      rw [List.set_set] at back
      obtain ⟨G, ow, ι, y⟩ := r2

      refine ⟨G, ow, ι, ?_⟩
      have z := y
      refine ⟨z.sub, z.own, z.lenM, z.cells, ⟨by simpa using z.frs.1.len, fun j u ej => ?_, z.frs.1.tmps⟩, z.frs.2⟩
      have ej' : (δ.set i (some (.d (.list ds))))[j]? = some (some u) := ej
      by_cases hj : j = i
      · subst hj
        rw [List.getElem?_set_self (List.getElem?_eq_some_iff.mp q).1] at ej'
        cases ej'
        exact ⟨rfl, v, hv, y.top⟩
      · rw [List.getElem?_set_ne (Ne.symm hj)] at ej'
        refine z.frs.1.slots j u ?_
        show (δ.set i none)[j]? = _
        rw [List.getElem?_set_ne (Ne.symm hj)]; exact ej'
    · rename_i x q
      cases e
      obtain ⟨G, ow, ι, y⟩ := h
      obtain ⟨nb, v', e1, r⟩ := y.pop.slots_of q
      rw [hv] at e1; cases e1
      exact ⟨G, ow, ι, y.pop.push r⟩
    · cases e
theorem mFrz_noex {δ : Env} {M : Mem} {e : XD} {δ' : Env} {M' : Mem} : mFrz t δ M ≠ .ex e δ' M' := by
  intro h
  unfold mFrz at h
  split at h
  all_goals first | cases h | (split at h <;> first | cases h | (split at h <;> cases h))
/-- what is to be kept in data -/
theorem qe_frz {f : Sm T} (h : QE X W e f) : QE X W e (bnd f mFrz) := by
  refine h.imp fun σ H Q ⟨δ, τ, fs, M, r, q⟩ => ⟨δ, τ, fs, M, r, Res.post_mono (bnd_post q) (fun a δ' M' q2 v H' r2 => ?_) fun _ _ _ z => z⟩
  cases e2 : mFrz a δ' M' with
  | ok b δ2 M2 => rw [e2] at q2; exact q2 v H' (r2.frz e2)
  | ex x δ2 M2 => exact (mFrz_noex e2).elim
  | bad => rw [e2] at q2; exact q2.elim

/-! ### argument lists, displays -/
def mNil : Sm (List T) := ret []
def mCons (f : Sm T) (g : Sm (List T)) : Sm (List T) := bnd f fun t => bnd g fun ts => ret (t :: ts)
theorem xpop {σ : St} {p : V × T} : ∀ e δ M, wX K W σ (p :: τ) fs e δ M ↔ wX K W σ (p :: τ) fs e δ M := fun _ _ _ => Iff.rfl
theorem wX.push {σ : St} {p : V × T} {e : XD} {δ : Env} {M : Mem} (h : wX K W σ τ fs e δ M) : wX K W σ (p :: τ) fs e δ M := fun d H' r => h d H' r.pop
theorem qa_nil : QA X W [] mNil := pa_nil.imp fun σ H Q ⟨δ, τ, fs, M, r, q⟩ => q [] H rfl r
theorem qa_cons {es : List Expr} {f : Sm T} {g : Sm (List T)} (h : QE X W e f) (hs : QA X W es g) (hst : starEach (e :: es) X.env = (false, eval e X.env) :: starEach es X.env := by rfl) : QA X W (e :: es) (mCons f g) := by
  refine (pa_cons h hs hst).imp fun σ H Q ⟨δ, τ, fs, M, r, q⟩ => ⟨δ, τ, fs, M, r, Res.post_mono (bnd_post q) (fun a δ1 M1 q1 v H1 r1 => ?_) fun _ _ _ z => z⟩
  refine ⟨δ1, (v, a) :: τ, fs, M1, r1, Res.post_mono (bnd_post q1) (fun ts δ2 M2 q2 vs H2 hl r2 => ?_) fun _ _ _ z => z.push⟩
  exact q2 (v :: vs) H2 (by simp [hl]) r2
def allD : List T → Option (List D)
  | [] => some []
  | .d x :: r => (allD r).map (x :: ·)
  | _ :: _ => Option.none
/-- a list of data on top -/
theorem Rep.pops {vs : List V} {ts : List T} {ds : List D} (h : Rep K H (⟨σ, δ, rz vs ts τ⟩ :: fs) M) (hl : vs.length = ts.length) (hd : allD ts = some ds) : ∃ G ow ι, RepG K H G ow ι (⟨σ, δ, τ⟩ :: fs) M ∧ AtL K G vs ds := by
  obtain ⟨G, ow, ι, x⟩ := h
  obtain ⟨h1, h2⟩ := rts_rz hl x.frs.1.tmps
  refine ⟨G, ow, ι, ⟨x.sub, x.own, x.lenM, x.cells, ⟨x.frs.1.len, x.frs.1.slots, h1⟩, x.frs.2⟩, ?_⟩
  clear h1 x
  have h3 : ∀ (j : Nat) (t : T), ts[j]? = some t → ∃ v, vs[j]? = some v ∧ ∃ k, RT K H G ow ι σ k v t := fun j t e => by
    obtain ⟨v, a, b⟩ := h2 j t e
    exact ⟨v, a, _, b⟩
  clear h2
  induction vs generalizing ts ds with
  | nil =>
    cases ts with
    | nil => cases hd; exact rfl
    | cons _ _ => simp at hl
  | cons v vs ih =>
    cases ts with
    | nil => simp at hl
    | cons t ts =>
      obtain ⟨v', e', k, r⟩ := h3 0 t rfl
      simp at e'
      subst e'
      cases t with
      | d x =>
        cases hq : allD ts with
        | none => simp [allD, hq] at hd
        | some ds' =>
          simp [allD, hq] at hd
          subst hd
          exact ⟨v, vs, rfl, r, ih (by simpa using hl) hq fun j t e => h3 (j + 1) t (by simpa using e)⟩
      | v x => simp [allD] at hd
      | con c => simp [allD] at hd
      | ref n => simp [allD] at hd
      | bor i => simp [allD] at hd
      | scr ns => simp [allD] at hd
      | exn x => simp [allD] at hd
      | deep x => simp [allD] at hd
      | st φ => simp [allD] at hd
      | ext φ => simp [allD] at hd
      | fz x => simp [allD] at hd
def mTup (f : Sm (List T)) : Sm T := bnd f fun ts => opt ((allD ts).bind fun ds => if ds.length ≤ 1000 then some (.d (.tuple ds)) else Option.none)
def mLst (f : Sm (List T)) : Sm T := bnd f fun ts => opt ((allD ts).bind fun ds => if ds.length ≤ 1000 then some (.con (.lst ds)) else Option.none)
theorem Rep.newTup {vs : List V} {ds : List D} (h : ∃ G ow ι, RepG K H G ow ι (⟨σ, δ, τ⟩ :: fs) M ∧ AtL K G vs ds) {p : Addr} (hp : H p = none) : Rep K (upd H p (.tup vs)) (⟨σ, δ, (.ref p, .d (.tuple ds)) :: τ⟩ :: fs) M := by
  obtain ⟨G, ow, ι, x, a⟩ := h
  refine ⟨_, ow, ι, (x.newG (o := .tup vs) hp).push ?_⟩
  exact ⟨p, vs, rfl, .inl (.inl upd_same), AtL.mono (same_upd (x.gfree hp)) _ _ a⟩
theorem Rep.newLst {vs : List V} {ds : List D} (h : ∃ G ow ι, RepG K H G ow ι (⟨σ, δ, τ⟩ :: fs) M ∧ AtL K G vs ds) {p : Addr} (hp : H p = none) : Rep K (upd H p (.lst vs)) (⟨σ, δ, (.ref p, .con (.lst ds)) :: τ⟩ :: fs) M := by
  obtain ⟨G, ow, ι, x, a⟩ := h
  refine ⟨_, _, ι, (x.newO (o := .lst vs) hp (.tmp fs.length τ.length)).push ?_⟩
  exact ⟨p, rfl, ownW_same, vs, upd_same, a⟩
theorem k1000 {n : Nat} (h : n ≤ 1000) : n ≤ sizeLine := Nat.le_trans h (by decide)
theorem qe_tup {es : List Expr} {x1 : Nat} {pos : Pos} {f : Sm (List T)} (h : QA X W es f) : QE X W (.Tuple es x1 pos) (mTup f) := by
  refine (pe_tup h).imp fun σ H Q ⟨δ, τ, fs, M, r, q⟩ => ⟨δ, τ, fs, M, r, Res.post_mono (bnd_post q) (fun ts δ1 M1 q1 vs H1 hl r1 => ?_) fun _ _ _ z => z⟩
  obtain ⟨t, e, q2⟩ := opt_post q1
  cases hd : allD ts with
  | none => rw [hd] at e; cases e
  | some ds =>
    rw [hd] at e
    simp only [Option.bind_some] at e
    split at e
    · rename_i hz
      cases e
      have z := r1.pops hl hd
      have len : vs.length ≤ 1000 := by obtain ⟨_, _, _, _, a⟩ := z; rw [a.length]; exact hz
      exact ⟨k1000 len, fun p hp => q2 _ _ (Rep.newTup z hp)⟩
    · cases e
theorem qe_lst {es : List Expr} {pos : Pos} {f : Sm (List T)} (h : QA X W es f) : QE X W (.List es pos) (mLst f) := by
  refine (pe_lst h).imp fun σ H Q ⟨δ, τ, fs, M, r, q⟩ => ⟨δ, τ, fs, M, r, Res.post_mono (bnd_post q) (fun ts δ1 M1 q1 vs H1 hl r1 => ?_) fun _ _ _ z => z⟩
  obtain ⟨t, e, q2⟩ := opt_post q1
  cases hd : allD ts with
  | none => rw [hd] at e; cases e
  | some ds =>
    rw [hd] at e
    simp only [Option.bind_some] at e
    split at e
    · rename_i hz
      cases e
      have z := r1.pops hl hd
      have len : vs.length ≤ 1000 := by obtain ⟨_, _, _, _, a⟩ := z; rw [a.length]; exact hz
      exact ⟨k1000 len, fun p hp => q2 _ _ (Rep.newLst z hp)⟩
    · cases e
end
end DL

end
section
namespace DL
open PySem PySem.Spec L2
variable {X : Cx} {W : WX} {K : KF} {H G : Hp} {ow : Addr → Option Who} {ι : List Addr} {σ : St} {δ : Env} {τ : List (V × T)} {fs : List Fram} {M : Mem} {v u : V} {t : T} {e e' : Expr} {pos : Pos}

/-! ### looking at what a temporary is -/
def vw (t : T) (δ : Env) (M : Mem) : Option D :=
  match t with
  | .d x => some x
  | .con c => c.sD
  | .ref n => (M[n]?).bind C.sD
  | .bor i => match δ[i]? with
    | some (some (.con c)) => c.sD
    | some (some (.d x)) => some x
    | _ => Option.none
  | .v _ => Option.none
  | .scr _ => Option.none
  | .exn _ => Option.none
  | .deep _ => Option.none
  | .st _ => Option.none
  | .ext _ => Option.none
  | .fz _ => Option.none
/-- a datum whose own container may be changed later, its items never -/
def AtV (K : KF) (H G : Hp) (v : V) : D → Prop
  | .list ds => ∃ a vs, v = .ref a ∧ H a = some (.lst vs) ∧ AtL K G vs ds
  | .dict kvs => ∃ a kv, v = .ref a ∧ H a = some (.dK kv) ∧ AtK K G kv kvs
  | x => At K G v x
theorem At.toV (s : Same G H) {x : D} (h : At K G v x) : AtV K H G v x := by
  cases x with
  | list ds => obtain ⟨a, vs, e, q, l⟩ := h; exact ⟨a, vs, e, s _ _ q, l⟩
  | dict kvs => obtain ⟨a, kv, e, q, l⟩ := h; exact ⟨a, kv, e, s _ _ q, l⟩
  | _ => exact h
theorem AtV.at (s : Same G H) {x : D} (h : AtV K H G v x) : At K H v x := by
  cases x with
  | list ds => obtain ⟨a, vs, e, q, l⟩ := h; exact ⟨a, vs, e, q, AtL.mono s _ _ l⟩
  | dict kvs => obtain ⟨a, kv, e, q, l⟩ := h; exact ⟨a, kv, e, q, AtK.mono s _ _ l⟩
  | none => exact At.mono s _ _ h
  | bool b => exact At.mono s _ _ h
  | int i => exact At.mono s _ _ h
  | str y => exact At.mono s _ _ h
  | tuple ds => exact At.mono s (.tuple ds) _ h
theorem RC.atV {a : Addr} {c : C} {x : D} (r : RC K H G a c) (hs : c.sD = some x) : AtV K H G (.ref a) x := by
  cases c with
  | lst xs => cases hs; obtain ⟨vs, q, l⟩ := r; exact ⟨a, vs, rfl, q, l⟩
  | dct kvs => cases hs; obtain ⟨kv, q, l⟩ := r; exact ⟨a, kv, rfl, q, l⟩
  | tab x => exact r.elim
  | obj x fs => exact r.elim
  | dcn kvs => cases hs
theorem RepG.vw {w : Who} {x : D} (h : RepG K H G ow ι (⟨σ, δ, τ⟩ :: fs) M) (r : RT K H G ow ι σ w v t) (q : vw t δ M = some x) : AtV K H G v x := by
  cases t with
  | d y => cases q; exact At.toV h.sub r
  | v y => cases q
  | scr ns => cases q
  | exn x => cases q
  | deep x => cases q
  | st φ => cases q
  | ext φ => cases q
  | fz x => cases q
  | con c => obtain ⟨a, e, _, rc⟩ := r; subst e; exact rc.atV q
  | ref n =>
    obtain ⟨a, e, ea⟩ := r
    subst e
    cases hm : M[n]? with
    | none => simp [DL.vw, hm] at q
    | some c =>
      have q' : c.sD = some x := by simpa [DL.vw, hm] using q
      obtain ⟨b, e1, _, rc⟩ := h.cells n c hm
      rw [ea] at e1; cases e1
      cases c with
      | lst xs => exact RC.atV (c := .lst xs) rc q'
      | dct xs => exact RC.atV (c := .dct xs) rc q'
      | tab xs => cases q'
      | obj x fs => cases q'
      | dcn xs => cases q'
  | bor i =>
    have hv : σ[i]? = some (some v) := r
    unfold DL.vw at q
    simp only at q
    split at q
    · rename_i c qe
      obtain ⟨_, v', e1, rt⟩ := h.slots_of qe
      rw [hv] at e1; cases e1
      obtain ⟨a, e, _, rc⟩ := rt
      subst e
      exact rc.atV q
    · rename_i y qe
      cases q
      obtain ⟨_, v', e1, rt⟩ := h.slots_of qe
      rw [hv] at e1; cases e1
      exact At.toV h.sub rt
    · cases q
/-- plain: no object of its own -/
def plain : D → Bool
  | .none => true
  | .bool _ => true
  | .int _ => true
  | .str _ => true
  | _ => false
theorem plain_at {K' : KF} {G' : Hp} {x : D} (p : plain x = true) (h : At K G v x) : At K' G' v x := by
  cases x <;> first | exact h | cases p

/-! ### two operands: the answer a plain datum -/
def mOp2 (F : D → D → Option D) (f g : Sm T) : Sm T := bnd f fun x => bnd g fun y => fun δ M =>
  opt (((vw x δ M).bind fun a => (vw y δ M).bind fun b => F a b).bind fun z => if plain z = true then some (T.d z) else Option.none) δ M
/-- the rule of an operator by what it says of data -/
def OpD (X : Cx) (r : R2) (F : D → D → Option D) : Prop := ∀ (v u : V) (H : Hp) (Q : VK) (a b z : D), At X.K H v a → At X.K H u b → F a b = some z → (∀ w, (∀ G, At X.K G w z) → Q w H) → r v u H Q
def valOf : D → V
  | .bool b => .bl b
  | .int i => .int i
  | .str x => .str x
  | _ => .non
theorem valOf_at {z : D} (p : plain z = true) : At K G (valOf z) z := by
  cases z <;> first | rfl | cases p
theorem two_ops {Q : VK} {f g : Sm T} {F : D → D → Option D} {r : R2} (hF : OpD X r F)
    (h : tE X.K W (mOp2 F f g) σ H Q) : tE X.K W f σ H fun x H1 => tE X.K W g σ H1 fun y H2 => r x y H2 Q := by
  obtain ⟨δ, τ, fs, M, rp, q⟩ := h
  refine ⟨δ, τ, fs, M, rp, Res.post_mono (bnd_post q) (fun a δ1 M1 q1 v H1 r1 => ?_) fun _ _ _ z => z⟩
  refine ⟨δ1, (v, a) :: τ, fs, M1, r1, Res.post_mono (bnd_post q1) (fun b δ2 M2 q2 u H2 r2 => ?_) fun _ _ _ z => z.push⟩
  obtain ⟨z, ez, q3⟩ := opt_post q2
  obtain ⟨G, ow, ι, x⟩ := r2
  cases ea : vw a δ2 M2 with
  | none => rw [ea] at ez; cases ez
  | some da =>
    cases eb : vw b δ2 M2 with
    | none => rw [ea, eb] at ez; cases ez
    | some db =>
      rw [ea, eb] at ez
      simp only [Option.bind_some] at ez
      cases ef : F da db with
      | none => rw [ef] at ez; cases ez
      | some dz =>
        rw [ef] at ez
        simp only [Option.bind_some] at ez
        split at ez
        · rename_i hp
          cases ez
          exact hF v u H2 Q da db dz ((x.vw x.pop.top ea).at x.sub) ((x.vw x.top eb).at x.sub) ef fun w hw => q3 w H2 ⟨G, ow, ι, x.pop.pop.push (hw G)⟩
        · cases ez
theorem qe_op2 {op : Operator} {r : R2} {F : D → D → Option D} {f g : Sm T} (ho : OpR X (binaryOp op) r) (hF : OpD X r F) (h : QE X W e f) (h' : QE X W e' g) : QE X W (.BinOp e op e' pos) (mOp2 F f g) :=
  (pe_op ho h h').imp fun _ _ _ q => two_ops hF q
theorem qe_cmp2 {op : CmpOp} {r : R2} {F : D → D → Option D} {f g : Sm T} (ho : OpR X (compareOp op) r) (hF : OpD X r F) (h : QE X W e f) (h' : QE X W e' g) (hm : behindInMarks op e' = false) : QE X W (.Compare e [op] [e'] pos) (mOp2 F f g) :=
  (pe_cmpR ho h h' hm).imp fun _ _ _ q => two_ops hF q

def iiF (C : Int → Int → Bool) (g : Int → Int → D) : D → D → Option D
  | .int i, .int j => if C i j = true then some (g i j) else Option.none
  | _, _ => Option.none
theorem opd_ii {P : Int → Int → Prop} {C : Int → Int → Bool} {g : Int → Int → D} {gv : Int → Int → V} (hc : ∀ i j, C i j = true → P i j) (hg : ∀ i j G, At X.K G (gv i j) (g i j)) : OpD X (rI P gv) (iiF C g) := by
  intro v u H Q a b z ha hb ef k
  cases a with
  | int i =>
    cases b with
    | int j =>
      unfold iiF at ef
      simp only at ef
      split at ef
      · rename_i hC
        cases ef
        exact ⟨i, j, ha, hb, hc i j hC, k _ fun G => hg i j G⟩
      · cases ef
    | _ => cases ef
  | _ => cases ef
theorem opd_ii0 {g : Int → Int → D} {gv : Int → Int → V} (hg : ∀ i j G, At X.K G (gv i j) (g i j)) : OpD X (rI0 gv) (iiF (fun _ _ => true) g) := by
  intro v u H Q a b z ha hb ef k
  obtain ⟨i, j, h1, h2, _, q⟩ := opd_ii (X := X) (P := fun _ _ => True) (fun _ _ _ => trivial) hg v u H Q a b z ha hb ef k
  exact ⟨i, j, h1, h2, q⟩
def mulOk (i j : Int) : Bool := decide (i.natAbs < 2 ^ 64) || decide (j.natAbs < 2 ^ 64) || decide (i.natAbs.log2 + j.natAbs.log2 < 1000000)
def divOk (_ j : Int) : Bool := decide (0 < j) && decide (j.natAbs.log2 < 9000)
def powOk (i j : Int) : Bool := decide (0 ≤ j) && decide ((Builtin.Int.intBits i : Int) * j ≤ 2 ^ 27)
theorem op_powW : OpR X (binaryOp .Pow) (rI (fun i j => 0 ≤ j ∧ (Builtin.Int.intBits i : Int) * j ≤ 2 ^ 27) fun i j => .int (i ^ j.toNat)) := opI fun _ _ _ _ _ _ _ hc q => PyProof.Rows.pow_int hc.1 hc.2 q
theorem opd_mul : OpD X (fun x y H Q => rI CMul (fun i j => .int (i * j)) x y H Q ∨ rI CMulW (fun i j => .int (i * j)) x y H Q) (iiF mulOk fun i j => .int (i * j)) := by
  intro v u H Q a b z ha hb ef k
  obtain ⟨i, j, h1, h2, hc, q⟩ := opd_ii (X := X) (P := fun i j => mulOk i j = true) (C := mulOk) (g := fun i j => .int (i * j)) (gv := fun i j => .int (i * j)) (fun _ _ h => h) (fun _ _ _ => rfl) v u H Q a b z ha hb ef k
  unfold mulOk at hc
  simp only [Bool.or_eq_true, decide_eq_true_eq] at hc
  rcases hc with (hc | hc) | hc
  · exact .inl ⟨i, j, h1, h2, .inl (by omega), q⟩
  · exact .inl ⟨i, j, h1, h2, .inr (by omega), q⟩
  · exact .inr ⟨i, j, h1, h2, hc, q⟩
section
variable {f g : Sm T}
def fSub := iiF (fun _ _ => true) fun i j => .int (i - j)
def fMod := iiF (fun _ j => decide (0 < j)) fun i j => .int (i % j)
def fDiv := iiF divOk fun i j => .int (i / j)
def fPow := iiF powOk fun i j => .int (i ^ j.toNat)
def fLt := iiF (fun _ _ => true) fun i j => .bool (decide (i < j))
def fLe := iiF (fun _ _ => true) fun i j => .bool (decide (i ≤ j))
def fGt := iiF (fun _ _ => true) fun i j => .bool (decide (j < i))
def fGe := iiF (fun _ _ => true) fun i j => .bool (decide (j ≤ i))
theorem qe_mul (h : QE X W e f) (h' : QE X W e' g) : QE X W (.BinOp e .Mult e' pos) (mOp2 (iiF mulOk fun i j => .int (i * j)) f g) := qe_op2 (op_mul.or op_mulW) opd_mul h h'
theorem qe_sub (h : QE X W e f) (h' : QE X W e' g) : QE X W (.BinOp e .Sub e' pos) (mOp2 fSub f g) := qe_op2 op_sub (opd_ii0 fun _ _ _ => rfl) h h'
theorem qe_mod (h : QE X W e f) (h' : QE X W e' g) : QE X W (.BinOp e .Mod e' pos) (mOp2 fMod f g) := qe_op2 op_mod (opd_ii (fun _ _ h => of_decide_eq_true h) fun _ _ _ => rfl) h h'
theorem qe_div (h : QE X W e f) (h' : QE X W e' g) : QE X W (.BinOp e .FloorDiv e' pos) (mOp2 fDiv f g) :=
  qe_op2 op_fdivW (opd_ii (fun i j h => by simpa [divOk, CDivW] using h) fun _ _ _ => rfl) h h'
theorem qe_pow (h : QE X W e f) (h' : QE X W e' g) : QE X W (.BinOp e .Pow e' pos) (mOp2 fPow f g) :=
  qe_op2 op_powW (opd_ii (fun i j h => by simpa [powOk] using h) fun _ _ _ => rfl) h h'
theorem qe_lt (h : QE X W e f) (h' : QE X W e' g) : QE X W (.Compare e [.Lt] [e'] pos) (mOp2 fLt f g) := qe_cmp2 op_lt (opd_ii0 fun _ _ _ => rfl) h h' (nomark _)
theorem qe_le (h : QE X W e f) (h' : QE X W e' g) : QE X W (.Compare e [.LtE] [e'] pos) (mOp2 fLe f g) := qe_cmp2 op_le (opd_ii0 fun _ _ _ => rfl) h h' (nomark _)
theorem qe_gt (h : QE X W e f) (h' : QE X W e' g) : QE X W (.Compare e [.Gt] [e'] pos) (mOp2 fGt f g) := qe_cmp2 op_gt (opd_ii0 fun _ _ _ => rfl) h h' (nomark _)
theorem qe_ge (h : QE X W e f) (h' : QE X W e' g) : QE X W (.Compare e [.GtE] [e'] pos) (mOp2 fGe f g) := qe_cmp2 op_ge (opd_ii0 fun _ _ _ => rfl) h h' (nomark _)
end

/-! ### == and != -/
mutual
theorem At.dp : ∀ (d : D) (v : V), At K H v d → d.plain = true → Dp K H v d
  | .none, _, h, _ => by cases h; exact .non
  | .bool b, _, h, _ => by cases h; exact .bl b
  | .int i, _, h, _ => by cases h; exact .int i
  | .str x, _, h, _ => by cases h; exact .str x
  | .list ds, _, ⟨a, vs, e, q, l⟩, c => by subst e; exact .lst (SqL.of q) (AtL.dp ds vs l (by simpa [PyData.plain] using c))
  | .tuple ds, _, ⟨a, vs, e, q, l⟩, c => by subst e; exact .tup q (AtL.dp ds vs l (by simpa [PyData.plain] using c))
  | .dict _, _, _, c => by simp [PyData.plain] at c
theorem AtL.dp : ∀ (ds : List D) (vs : List V), AtL K H vs ds → PyData.plainAll ds = true → DpAll K H vs ds
  | [], _, h, _ => by rw [show _ = _ from h]; exact .nil
  | d :: ds, _, ⟨v, r, e, h1, h2⟩, c => by
    subst e
    have c' : d.plain = true ∧ PyData.plainAll ds = true := by simpa [PyData.plainAll] using c
    exact .cons (At.dp d v h1 c'.1) (AtL.dp ds r h2 c'.2)
end
def eqOk (a b : D) : Bool := a.plain && b.plain && decide (min a.depth b.depth ≤ 64)
def fEq : D → D → Option D := fun a b => if eqOk a b = true then some (.bool (PyData.eqv a b)) else Option.none
def fNe : D → D → Option D := fun a b => if eqOk a b = true then some (.bool (!PyData.eqv a b)) else Option.none
def rEqP (K : KF) : R2 := fun x y H Q => ∃ d e, Dp K H x d ∧ Dp K H y e ∧ eqOk d e = true ∧ Q (.bl (PyData.eqv d e)) H
def rNeP (K : KF) : R2 := fun x y H Q => ∃ d e, Dp K H x d ∧ Dp K H y e ∧ eqOk d e = true ∧ Q (.bl (!PyData.eqv d e)) H
theorem op_eqP (hu : X.A.units + 64 < cLine) : OpR X (compareOp .Eq) (rEqP X.K) := by
  intro pins s σ H x y v u Q I rx ry h
  obtain ⟨d, e, hd, he, sd, q⟩ := h
  unfold eqOk at sd
  simp only [Bool.and_eq_true, decide_eq_true_eq] at sd
  obtain ⟨as, r1⟩ := Dp.reads I d x v hd rx
  obtain ⟨bs, r2⟩ := Dp.reads I e y u he ry
  exact SeqAt.eq_plain r1 r2 sd.1.1 sd.1.2 (by omega) ⟨.bl _, H, I, rfl, q⟩
theorem op_neP (hu : X.A.units + 64 < cLine) : OpR X (compareOp .NotEq) (rNeP X.K) := by
  intro pins s σ H x y v u Q I rx ry h
  obtain ⟨d, e, hd, he, sd, q⟩ := h
  unfold eqOk at sd
  simp only [Bool.and_eq_true, decide_eq_true_eq] at sd
  obtain ⟨as, r1⟩ := Dp.reads I d x v hd rx
  obtain ⟨bs, r2⟩ := Dp.reads I e y u he ry
  exact SeqAt.ne_plain r1 r2 sd.1.1 sd.1.2 (by omega) ⟨.bl _, H, I, rfl, q⟩
theorem eqOk_p {a b : D} (h : eqOk a b = true) : a.plain = true ∧ b.plain = true := by
  unfold eqOk at h
  simp only [Bool.and_eq_true] at h
  exact h.1
theorem opd_eq : OpD X (rEqP X.K) fEq := by
  intro v u H Q a b z ha hb ef k
  unfold fEq at ef
  split at ef
  · rename_i hs
    cases ef
    exact ⟨a, b, At.dp a v ha (eqOk_p hs).1, At.dp b u hb (eqOk_p hs).2, hs, k _ fun _ => rfl⟩
  · cases ef
theorem opd_ne : OpD X (rNeP X.K) fNe := by
  intro v u H Q a b z ha hb ef k
  unfold fNe at ef
  split at ef
  · rename_i hs
    cases ef
    exact ⟨a, b, At.dp a v ha (eqOk_p hs).1, At.dp b u hb (eqOk_p hs).2, hs, k _ fun _ => rfl⟩
  · cases ef
section
variable {f g : Sm T} {k : Nat}
theorem qe_eq (hr : Room k X.A) (h : QE X W e f) (h' : QE X W e' g) : QE X W (.Compare e [.Eq] [e'] pos) (mOp2 fEq f g) := qe_cmp2 (op_eqP hr.units) opd_eq h h' (nomark _)
theorem qe_ne (hr : Room k X.A) (h : QE X W e f) (h' : QE X W e' g) : QE X W (.Compare e [.NotEq] [e'] pos) (mOp2 fNe f g) := qe_cmp2 (op_neP hr.units) opd_ne h h' (nomark _)
/-- is None, is not None -/
def fIsN : D → D → Option D
  | .none, .none => some (.bool true)
  | _, .none => some (.bool false)
  | _, _ => Option.none
def fNotN : D → D → Option D
  | .none, .none => some (.bool false)
  | _, .none => some (.bool true)
  | _, _ => Option.none
theorem at_non {x : D} (h : At K H v x) : decide (v = V.non) = (match x with | .none => true | _ => false) := by
  cases x with
  | none => cases h; rfl
  | bool b => cases h; rfl
  | int b => cases h; rfl
  | str b => cases h; rfl
  | list ds => obtain ⟨a, _, e, _⟩ := h; subst e; rfl
  | tuple ds => obtain ⟨a, _, e, _⟩ := h; subst e; rfl
  | dict ds => obtain ⟨a, _, e, _⟩ := h; subst e; rfl
theorem qe_isN (h : QE X W e f) (h' : QE X W e' g) : QE X W (.Compare e [.Is] [e'] pos) (mOp2 fIsN f g) := by
  refine qe_cmp2 op_isN (fun v u H Q a b z ha hb ef k => ?_) h h' (nomark _)
  cases b with
  | none => refine ⟨hb, k _ fun G => ?_⟩; rw [at_non ha]; cases a <;> (cases ef; rfl)
  | _ => cases a <;> cases ef
theorem qe_notN (h : QE X W e f) (h' : QE X W e' g) : QE X W (.Compare e [.IsNot] [e'] pos) (mOp2 fNotN f g) := by
  refine qe_cmp2 op_notN (fun v u H Q a b z ha hb ef k => ?_) h h' (nomark _)
  cases b with
  | none => refine ⟨hb, k _ fun G => ?_⟩; rw [at_non ha]; cases a <;> (cases ef; rfl)
  | _ => cases a <;> cases ef
end
end DL

end
section
namespace DL
open PySem PySem.Spec L2
variable {X : Cx} {W : WX} {K : KF} {H G : Hp} {ow : Addr → Option Who} {ι : List Addr} {σ : St} {δ : Env} {τ : List (V × T)} {fs : List Fram} {M : Mem} {v u : V} {t : T} {e e' : Expr} {pos : Pos}

/-! ### tests -/
def mTest (f : Sm T) : Sm Bool := bnd f fun t => fun δ M =>
  match vw t δ M with
  | some (.bool b) => .ok b δ M
  | _ => .bad
theorem test_of {f : Sm T} {Q : Bool → Hp → Prop} (h : tT X.K W (mTest f) σ H Q) : tE X.K W f σ H fun x H' => ∃ k, x = .bl k ∧ Q k H' := by
  obtain ⟨δ, τ, fs, M, r, q⟩ := h
  refine ⟨δ, τ, fs, M, r, Res.post_mono (bnd_post q) (fun a δ1 M1 q1 v H1 r1 => ?_) fun _ _ _ z => z⟩
  obtain ⟨G, ow, ι, x⟩ := r1
  cases ea : vw a δ1 M1 with
  | none => rw [ea] at q1; exact q1.elim
  | some d =>
    rw [ea] at q1
    cases d with
    | bool b => exact ⟨b, x.vw x.top ea, q1 H1 ⟨G, ow, ι, x.pop⟩⟩
    | _ => exact q1.elim
theorem qt_val {f : Sm T} (h : QE X W e f) (he : ∀ whole, isTrue e X.env whole = (do let v ← whole; standAt e.pos; holding [v] (truthy v)) := by intro _; rfl) : QT X W e (mTest f) :=
  (pt_val h he).imp fun _ _ _ q => test_of q
/-- a comparison by what it says of data -/
def CD (X : Cx) (op : CmpOp) (F : D → D → Option D) : Prop := ∃ r, OpR X (compareOp op) r ∧ OpD X r F
section
variable {op : CmpOp} {F : D → D → Option D} {f g : Sm T} {k : Nat}
theorem qe_c (c : CD X op F) (h : QE X W e f) (h' : QE X W e' g) (hm : behindInMarks op e' = false) : QE X W (.Compare e [op] [e'] pos) (mOp2 F f g) := let ⟨_, a, b⟩ := c; qe_cmp2 a b h h' hm
theorem qt_c (c : CD X op F) (h : QE X W e f) (h' : QE X W e' g) (hm : behindInMarks op e' = false) : QT X W (.Compare e [op] [e'] pos) (mTest (mOp2 F f g)) := by
  obtain ⟨r, a, b⟩ := c
  exact (pt_cmpR a h h' hm).imp fun _ _ _ q => two_ops b (test_of q)
theorem cd_lt : CD X .Lt fLt := ⟨_, op_lt, opd_ii0 fun _ _ _ => rfl⟩
theorem cd_le : CD X .LtE fLe := ⟨_, op_le, opd_ii0 fun _ _ _ => rfl⟩
theorem cd_gt : CD X .Gt fGt := ⟨_, op_gt, opd_ii0 fun _ _ _ => rfl⟩
theorem cd_ge : CD X .GtE fGe := ⟨_, op_ge, opd_ii0 fun _ _ _ => rfl⟩
theorem cd_eq (hr : Room k X.A) : CD X .Eq fEq := ⟨_, op_eqP hr.units, opd_eq⟩
theorem cd_ne (hr : Room k X.A) : CD X .NotEq fNe := ⟨_, op_neP hr.units, opd_ne⟩
theorem cd_isN : CD X .Is fIsN := ⟨_, op_isN, fun v u H Q a b z ha hb ef k => by
  cases b with
  | none => refine ⟨hb, k _ fun G => ?_⟩; rw [at_non ha]; cases a <;> (cases ef; rfl)
  | _ => cases a <;> cases ef⟩
theorem cd_notN : CD X .IsNot fNotN := ⟨_, op_notN, fun v u H Q a b z ha hb ef k => by
  cases b with
  | none => refine ⟨hb, k _ fun G => ?_⟩; rw [at_non ha]; cases a <;> (cases ef; rfl)
  | _ => cases a <;> cases ef⟩
/-- a op b op' c -/
def mChain (F F' : D → D → Option D) (f g h : Sm T) : Sm T := bnd f fun x => bnd g fun y => fun δ M =>
  match (vw x δ M).bind fun a => (vw y δ M).bind fun b => F a b with
  | some (.bool true) => (bnd h fun z => fun δ' M' => opt (((vw y δ' M').bind fun b => (vw z δ' M').bind fun c => F' b c).bind fun w => if plain w = true then some (T.d w) else Option.none) δ' M') δ M
  | some (.bool false) => .ok (.d (.bool false)) δ M
  | _ => .bad
theorem chain_of {r r' : R2} {F F' : D → D → Option D} {f g h : Sm T} {Q : VK} (hF : OpD X r F) (hF' : OpD X r' F') (q : tE X.K W (mChain F F' f g h) σ H Q) : tChain r r' (tE X.K W f) (tE X.K W g) (tE X.K W h) σ H Q := by
  obtain ⟨δ, τ, fs, M, rp, q⟩ := q
  refine ⟨δ, τ, fs, M, rp, Res.post_mono (bnd_post q) (fun a δ1 M1 q1 v H1 r1 => ?_) fun _ _ _ z => z⟩
  refine ⟨δ1, (v, a) :: τ, fs, M1, r1, Res.post_mono (bnd_post q1) (fun b δ2 M2 q2 u H2 r2 => ?_) fun _ _ _ z => z.push⟩
  obtain ⟨G, ow, ι, x⟩ := id r2
  cases ea : vw a δ2 M2 with
  | none => rw [ea] at q2; exact q2.elim
  | some da =>
    cases eb : vw b δ2 M2 with
    | none => rw [ea, eb] at q2; exact q2.elim
    | some db =>
      rw [ea, eb] at q2
      simp only [Option.bind_some] at q2
      cases ef : F da db with
      | none => rw [ef] at q2; exact q2.elim
      | some dz =>
        rw [ef] at q2
        refine hF v u H2 _ da db dz ((x.vw x.pop.top ea).at x.sub) ((x.vw x.top eb).at x.sub) ef fun w hw => ?_
        cases dz with
        | bool bb =>
          refine ⟨bb, hw G, ?_⟩
          cases bb with
          | false => exact q2 _ H2 (Rep.pushD (x := .bool false) (v := .bl false) ⟨G, ow, ι, x.pop.pop⟩ fun _ _ => rfl)
          | true =>
            refine ⟨δ2, (u, b) :: (v, a) :: τ, fs, M2, r2, Res.post_mono (bnd_post q2) (fun c δ3 M3 q3 y H3 r3 => ?_) fun _ _ _ z => z.push.push⟩
            obtain ⟨z, ez, q4⟩ := opt_post q3
            obtain ⟨G3, ow3, ι3, x3⟩ := r3
            cases eb3 : vw b δ3 M3 with
            | none => rw [eb3] at ez; cases ez
            | some db3 =>
              cases ec : vw c δ3 M3 with
              | none => rw [eb3, ec] at ez; cases ez
              | some dc =>
                rw [eb3, ec] at ez
                simp only [Option.bind_some] at ez
                cases ef' : F' db3 dc with
                | none => rw [ef'] at ez; cases ez
                | some dw =>
                  rw [ef'] at ez
                  simp only [Option.bind_some] at ez
                  split at ez
                  · cases ez
                    exact hF' u y H3 Q db3 dc dw ((x3.vw x3.pop.top eb3).at x3.sub) ((x3.vw x3.top ec).at x3.sub) ef' fun w' hw' => q4 w' H3 ⟨G3, ow3, ι3, x3.pop.pop.pop.push (hw' G3)⟩
                  · cases ez
        | _ => exact q2.elim
end
def mNotT (f : Sm Bool) : Sm Bool := bnd f fun b => ret (!b)
theorem qt_not {f : Sm Bool} (h : QT X W e f) : QT X W (.UnaryOp .Not e pos) (mNotT f) :=
  (pt_not h).imp fun σ H Q ⟨δ, τ, fs, M, r, q⟩ => ⟨δ, τ, fs, M, r, Res.post_mono (bnd_post q) (fun _ _ _ q1 => q1) fun _ _ _ z => z⟩
abbrev QW (X : Cx) (W : WX) (e : Expr) (f : Sm Bool) : Prop := PW X e (tT X.K W f)
theorem _root_.L2.PW.imp {t t' : TT} (h : PW X e t) (i : ∀ σ H Q, t' σ H Q → t σ H Q) : PW X e t' := ⟨fun wh pins s σ H Q I q => h.run wh pins s σ H Q I (i _ _ _ q)⟩
def mAndT (f g : Sm Bool) : Sm Bool := bnd f fun b => if b = true then g else ret false
def mOrT (f g : Sm Bool) : Sm Bool := bnd f fun b => if b = true then ret true else g
section
variable {f g : Sm Bool} {b : Expr} {rest : List Expr}
theorem qw_and1 (h : QT X W e f) : QW X W (.BoolOp .And [e] pos) f := pw_and1 h
theorem qw_or1 (h : QT X W e f) : QW X W (.BoolOp .Or [e] pos) f := pw_or1 h
theorem qw_and (h : QT X W e f) (h' : QW X W (.BoolOp .And (b :: rest) pos) g) : QW X W (.BoolOp .And (e :: b :: rest) pos) (mAndT f g) := by
  refine (pw_and h h').imp fun σ H Q ⟨δ, τ, fs, M, r, q⟩ => ⟨δ, τ, fs, M, r, Res.post_mono (bnd_post q) (fun b δ1 M1 q1 H1 r1 => ?_) fun _ _ _ z => z⟩
  cases b with
  | true => exact ⟨δ1, τ, fs, M1, r1, q1⟩
  | false => exact q1 H1 r1
theorem qw_or (h : QT X W e f) (h' : QW X W (.BoolOp .Or (b :: rest) pos) g) : QW X W (.BoolOp .Or (e :: b :: rest) pos) (mOrT f g) := by
  refine (pw_or h h').imp fun σ H Q ⟨δ, τ, fs, M, r, q⟩ => ⟨δ, τ, fs, M, r, Res.post_mono (bnd_post q) (fun b δ1 M1 q1 H1 r1 => ?_) fun _ _ _ z => z⟩
  cases b with
  | true => exact q1 H1 r1
  | false => exact ⟨δ1, τ, fs, M1, r1, q1⟩
theorem qt_w (h : QW X W e f) : QT X W e f := h.pt
end
/-- and, or, not as values: bools -/
def mAndV (f g : Sm T) : Sm T := bnd f fun t => match t with
  | .d (.bool b) => if b = true then g else ret (.d (.bool false))
  | _ => fail
def mOrV (f g : Sm T) : Sm T := bnd f fun t => match t with
  | .d (.bool b) => if b = true then ret (.d (.bool true)) else g
  | _ => fail
def mNotV (f : Sm T) : Sm T := bnd f fun t => match t with
  | .d (.bool b) => ret (.d (.bool !b))
  | _ => fail
theorem Rep.topD {x : D} (h : Rep K H (⟨σ, δ, (v, .d x) :: τ⟩ :: fs) M) : At K H v x := let ⟨_, _, _, y⟩ := h; At.mono y.sub _ _ y.top
section
variable {f g : Sm T} {b : Expr} {rest : List Expr} {op : BoolOpKind}
theorem qe_and (h : QE X W e f) (h' : QE X W (.BoolOp .And (b :: rest) pos) g) : QE X W (.BoolOp .And (e :: b :: rest) pos) (mAndV f g) := by
  refine (pe_and h h').imp fun σ H Q ⟨δ, τ, fs, M, r, q⟩ => ⟨δ, τ, fs, M, r, Res.post_mono (bnd_post q) (fun t δ1 M1 q1 v H1 r1 => ?_) fun _ _ _ z => z⟩
  cases t with
  | d x =>
    cases x with
    | bool c =>
      refine ⟨c, r1.topD, ?_⟩
      cases c with
      | true => exact ⟨δ1, τ, fs, M1, r1.pop, q1⟩
      | false => exact q1 _ H1 (r1.pop.pushD fun _ _ => rfl)
    | _ => exact q1.elim
  | _ => exact q1.elim
theorem qe_or (h : QE X W e f) (h' : QE X W (.BoolOp .Or (b :: rest) pos) g) : QE X W (.BoolOp .Or (e :: b :: rest) pos) (mOrV f g) := by
  refine (pe_or h h').imp fun σ H Q ⟨δ, τ, fs, M, r, q⟩ => ⟨δ, τ, fs, M, r, Res.post_mono (bnd_post q) (fun t δ1 M1 q1 v H1 r1 => ?_) fun _ _ _ z => z⟩
  cases t with
  | d x =>
    cases x with
    | bool c =>
      refine ⟨c, r1.topD, ?_⟩
      cases c with
      | true => exact q1 _ H1 (r1.pop.pushD fun _ _ => rfl)
      | false => exact ⟨δ1, τ, fs, M1, r1.pop, q1⟩
    | _ => exact q1.elim
  | _ => exact q1.elim
theorem qe_not (h : QE X W e f) : QE X W (.UnaryOp .Not e pos) (mNotV f) := by
  refine (pe_not h).imp fun σ H Q ⟨δ, τ, fs, M, r, q⟩ => ⟨δ, τ, fs, M, r, Res.post_mono (bnd_post q) (fun t δ1 M1 q1 v H1 r1 => ?_) fun _ _ _ z => z⟩
  cases t with
  | d x =>
    cases x with
    | bool c => exact ⟨c, r1.topD, q1 _ H1 (r1.pop.pushD fun _ _ => rfl)⟩
    | _ => exact q1.elim
  | _ => exact q1.elim
def mIf {α : Type} (c : Sm Bool) (f g : Sm α) : Sm α := bnd c fun b => if b = true then f else g
theorem qe_if {c : Expr} {cf : Sm Bool} (hc : QT X W c cf) (h : QE X W e f) (h' : QE X W e' g) : QE X W (.IfExp c e e' pos) (mIf cf f g) := by
  refine (pe_ifExp hc h h').imp fun σ H Q ⟨δ, τ, fs, M, r, q⟩ => ⟨δ, τ, fs, M, r, Res.post_mono (bnd_post q) (fun b δ1 M1 q1 H1 r1 => ?_) fun _ _ _ z => z⟩
  cases b with
  | true => exact ⟨δ1, τ, fs, M1, r1, q1⟩
  | false => exact ⟨δ1, τ, fs, M1, r1, q1⟩
/-- -e -/
def mNeg (f : Sm T) : Sm T := bnd f fun t => match t with
  | .d (.int i) => ret (.d (.int (-i)))
  | _ => fail
theorem qe_neg (h : QE X W e f) : QE X W (.UnaryOp .USub e pos) (mNeg f) := by
  refine (pe_un un_neg h).imp fun σ H Q ⟨δ, τ, fs, M, r, q⟩ => ⟨δ, τ, fs, M, r, Res.post_mono (bnd_post q) (fun t δ1 M1 q1 v H1 r1 => ?_) fun _ _ _ z => z⟩
  cases t with
  | d x =>
    cases x with
    | int c => exact ⟨c, r1.topD, q1 _ H1 (r1.pop.pushD fun _ _ => rfl)⟩
    | _ => exact q1.elim
  | _ => exact q1.elim
end

/-! ### what a name may hold -/
def mOwn (t : T) : Sm T := fun δ M =>
  match t with
  | .bor i => match δ[i]? with
    | some (some (.con c)) => .ok (.con c) (δ.set i none) M
    | some (some (.deep c)) => .ok (.deep c) (δ.set i none) M
    | some (some (.d x)) => .ok (.d x) δ M
    | _ => .bad
  | t => .ok t δ M
theorem Rep.own (h : Rep K H (⟨σ, δ, (v, t) :: τ⟩ :: fs) M) {r : T} {δ' : Env} {M' : Mem} (e : mOwn t δ M = .ok r δ' M') : Rep K H (⟨σ, δ', (v, r) :: τ⟩ :: fs) M' ∧ r.isBor = false := by
  cases t with
  | d x => cases e; exact ⟨h, rfl⟩
  | v x => cases e; exact ⟨h, rfl⟩
  | ref n => cases e; exact ⟨h, rfl⟩
  | scr ns => cases e; exact ⟨h, rfl⟩
  | exn x => cases e; exact ⟨h, rfl⟩
  | st φ => cases e; exact ⟨h, rfl⟩
  | ext φ => cases e; exact ⟨h, rfl⟩
  | fz x => cases e; exact ⟨h, rfl⟩
  | con c => cases e; exact ⟨h, rfl⟩
  | deep c => cases e; exact ⟨h, rfl⟩
  | bor i =>
    have hv : σ[i]? = some (some v) := let ⟨_, _, _, x⟩ := h; x.top
    unfold mOwn at e
    simp only at e
    split at e
    · rename_i c q
      cases e
      obtain ⟨v', e1, r⟩ := h.take q
      rw [hv] at e1; cases e1
      exact ⟨r.nip, rfl⟩
    · rename_i c q
      cases e
      obtain ⟨v', e1, r⟩ := h.take q
      rw [hv] at e1; cases e1
      exact ⟨r.nip, rfl⟩
    · rename_i x q
      cases e
      obtain ⟨G, ow, ι, y⟩ := h
      obtain ⟨nb, v', e1, r⟩ := y.pop.slots_of q
      rw [hv] at e1; cases e1
      exact ⟨⟨G, ow, ι, y.pop.push r⟩, rfl⟩
    · cases e
theorem mOwn_noex {e : XD} {δ' : Env} {M' : Mem} : mOwn t δ M ≠ .ex e δ' M' := by
  intro h
  unfold mOwn at h
  split at h
  · split at h <;> cases h
  · cases h
theorem mOwn_post {k : T → Env → Mem → Prop} {x : XD → Env → Mem → Prop} (h : (mOwn t δ M).post k x) : ∃ r δ' M', mOwn t δ M = .ok r δ' M' ∧ k r δ' M' := by
  cases e : mOwn t δ M with
  | ok r δ' M' => rw [e] at h; exact ⟨r, δ', M', rfl, h⟩
  | ex a b c => exact (mOwn_noex e).elim
  | bad => rw [e] at h; exact h.elim

/-! ### statements -/
section
variable {f g : Sm T} {st : Stmt} {sts a b : List Stmt} {i : Nat}
theorem xw {e : XD} (h : xS K W τ fs e δ M) : wX K W σ τ fs e δ M := fun d H' r => h d σ H' r
def mExpr (f : Sm T) : Sm Fl := bnd f fun _ => ret .nx
theorem qs_expr (h : QE X W e f) (hs : swapsWith e none pos.line X.env = pure false := by rfl) : QS X W (.Expr e pos) (mExpr f) :=
  (ps_expr h hs).imp fun D σ H ⟨δ, τ, fs, M, nb, r, q⟩ => ⟨δ, τ, fs, M, r, Res.post_mono (bnd_post q) (fun t δ1 M1 q1 v H1 r1 => q1 σ H1 r1.pop) fun _ _ _ z => xw z⟩
def mRet (f : Sm T) : Sm Fl := bnd f fun t => bnd (mOwn t) fun r => ret (.rt r)
theorem qs_ret (h : QE X W e f) : QS X W (.Return (some e) pos) (mRet f) := by
  refine (ps_ret h).imp fun D σ H ⟨δ, τ, fs, M, nb, r, q⟩ => ⟨δ, τ, fs, M, r, Res.post_mono (bnd_post q) (fun t δ1 M1 q1 v H1 r1 => ?_) fun _ _ _ z => xw z⟩
  obtain ⟨r', δ2, M2, e2, q2⟩ := mOwn_post (bnd_post q1)
  exact q2.2 v σ H1 (r1.own e2).1
def mSet (i : Nat) (f : Sm T) : Sm Fl := bnd f fun t => bnd (mOwn t) fun r => fun δ M => if i < δ.length then .ok .nx (δ.set i (some r)) M else .bad
theorem qs_set {x : Str} {pos' : Pos} (hN : X.N.Nodup) (hi : X.N[i]? = some x) (hx : Loc X.env.scope x) (h : QE X W e f) (hs : swapsWith e (some (.Name x pos')) pos.line X.env = pure false := by rfl)
    (hf : X.fn x = true ∨ X.env.scope.names.lookup x = some .local := by first | exact .inl rfl | exact .inr rfl | assumption) : QS X W (.Assign [.Name x pos'] e pos) (mSet i f) := by
  refine (ps_set hN hi hx h hs hf).imp fun D σ H ⟨δ, τ, fs, M, nb, r, q⟩ => ⟨δ, τ, fs, M, r, Res.post_mono (bnd_post q) (fun t δ1 M1 q1 v H1 r1 => ?_) fun _ _ _ z => xw z⟩
  obtain ⟨r', δ2, M2, e2, q2⟩ := mOwn_post (bnd_post q1)
  obtain ⟨r2, nb2⟩ := r1.own e2
  split at q2
  · rename_i hl
    exact q2 _ H1 (r2.put nb2 nb (by rw [r2.len]; exact hl))
  · exact q2.elim
/-- .. as a cell: what others may change -/
def mSetC (i : Nat) (f : Sm T) : Sm Fl := bnd f fun t => fun δ M => match t with
  | .con c => if i < δ.length then .ok .nx (δ.set i (some (.ref M.length))) (M ++ [c]) else .bad
  | _ => .bad
theorem qs_setC {x : Str} {pos' : Pos} (hN : X.N.Nodup) (hi : X.N[i]? = some x) (hx : Loc X.env.scope x) (h : QE X W e f) (hs : swapsWith e (some (.Name x pos')) pos.line X.env = pure false := by rfl)
    (hf : X.fn x = true ∨ X.env.scope.names.lookup x = some .local := by first | exact .inl rfl | exact .inr rfl | assumption) : QS X W (.Assign [.Name x pos'] e pos) (mSetC i f) := by
  refine (ps_set hN hi hx h hs hf).imp fun D σ H ⟨δ, τ, fs, M, nb, r, q⟩ => ⟨δ, τ, fs, M, r, Res.post_mono (bnd_post q) (fun t δ1 M1 q1 v H1 r1 => ?_) fun _ _ _ z => xw z⟩
  cases t with
  | con c =>
    simp only at q1
    split at q1
    · rename_i hl
      exact q1 _ H1 (r1.cell.put rfl nb (by rw [r1.len]; exact hl))
    · exact q1.elim
  | _ => exact q1.elim
/-- an argument that is made a cell -/
def mCell (f : Sm T) : Sm T := bnd f fun t => fun δ M => match t with
  | .con c => .ok (.ref M.length) δ (M ++ [c])
  | _ => .bad
theorem qe_cell (h : QE X W e f) : QE X W e (mCell f) := by
  refine h.imp fun σ H Q ⟨δ, τ, fs, M, r, q⟩ => ⟨δ, τ, fs, M, r, Res.post_mono (bnd_post q) (fun t δ1 M1 q1 v H1 r1 => ?_) fun _ _ _ z => z⟩
  cases t with
  | con c => exact q1 v H1 r1.cell
  | _ => exact q1.elim
def mSeq (f g : Sm Fl) : Sm Fl := bnd f fun fl => match fl with
  | .nx => g
  | fl => ret fl
theorem qss_nil : QSs X W [] (ret .nx) := pss_nil.imp fun D σ H ⟨δ, τ, fs, M, nb, r, q⟩ => q σ H r
theorem kS_nx {f : Sm Fl} {D : Ends} {g : Sm Fl} {δ : Env} {M : Mem} (nb : NB τ) (h : (mSeq f g δ M).post (kS K τ fs D) (xS K W τ fs)) : (f δ M).post (kS K τ fs { D with nx := tS K W g D }) (xS K W τ fs) := by
  refine Res.post_mono (bnd_post h) (fun fl δ1 M1 q1 => ?_) fun _ _ _ z => z
  cases fl with
  | nx => exact fun σ' H' r => ⟨δ1, τ, fs, M1, nb, r, q1⟩
  | rt r => exact q1
  | bk => exact q1
  | ct => exact q1
theorem qss_cons {f g : Sm Fl} (h1 : QS X W st f) (h2 : QSs X W sts g) : QSs X W (st :: sts) (mSeq f g) :=
  (pss_cons h1 h2).imp fun D σ H ⟨δ, τ, fs, M, nb, r, q⟩ => ⟨δ, τ, fs, M, nb, r, kS_nx nb q⟩
theorem qss_one {f : Sm Fl} (h1 : QS X W st f) : QSs X W [st] f := pss_one h1
theorem qs_if {c : Expr} {cf : Sm Bool} {f g : Sm Fl} (hc : QT X W c cf) (h : QSs X W a f) (h' : QSs X W b g) : QS X W (.If c a b pos) (mIf cf f g) := by
  refine (ps_if hc h h').imp fun D σ H ⟨δ, τ, fs, M, nb, r, q⟩ => ⟨δ, τ, fs, M, r, Res.post_mono (bnd_post q) (fun b δ1 M1 q1 H1 r1 => ?_) fun _ _ _ z => xw z⟩
  cases b with
  | true => exact ⟨δ1, τ, fs, M1, nb, r1, q1⟩
  | false => exact ⟨δ1, τ, fs, M1, nb, r1, q1⟩
theorem qs_pass : QS X W (.Pass pos) (ret .nx) := ps_pass.imp fun D σ H ⟨δ, τ, fs, M, nb, r, q⟩ => q σ H r
theorem qs_break : QS X W (.Break pos) (ret .bk) := ps_break.imp fun D σ H ⟨δ, τ, fs, M, nb, r, q⟩ => q σ H r
theorem qs_continue : QS X W (.Continue pos) (ret .ct) := ps_continue.imp fun D σ H ⟨δ, τ, fs, M, nb, r, q⟩ => q σ H r

/-! ### targets -/
theorem qg_name {x : Str} (hN : X.N.Nodup) (hi : X.N[i]? = some x) (hx : Loc X.env.scope x) (hf : X.fn x = true ∨ X.env.scope.names.lookup x = some .local := by first | exact .inl rfl | exact .inr rfl | assumption) :
    QG X (.Name x pos) (fun t δ M => if i < δ.length then .ok () (δ.set i (some t)) M else .bad) := by
  refine ⟨fun pins s σ H v u Q I r h => (pg_name hN hi hx hf).run pins s σ H v u Q I r ?_⟩
  obtain ⟨t, δ, τ, fs, M, nt, nb, rp, q⟩ := h
  simp only at q
  split at q
  · rename_i hl
    exact q _ H (rp.put nt nb (by rw [rp.len]; exact hl))
  · exact q.elim
/-- several targets at the items of a tuple -/
def stack (vs : List V) (ds : List D) (τ : List (V × T)) : List (V × T) := (vs.zip (ds.map T.d)) ++ τ
def tGs (K : KF) (f : List D → Sm Unit) : TGs := fun vs σ H Q => ∃ ds δ τ fs M, vs.length = ds.length ∧ NB τ ∧ Rep K H (⟨σ, δ, stack vs ds τ⟩ :: fs) M ∧ (f ds δ M).post (fun _ δ' M' => ∀ σ' H', Rep K H' (⟨σ', δ', τ⟩ :: fs) M' → Q σ' H') fun _ _ _ => False
abbrev QGs (X : Cx) (ts : List Expr) (f : List D → Sm Unit) : Prop := PGs X ts (tGs X.K f)
theorem NB.stack : ∀ {vs : List V} {ds : List D}, NB τ → NB (stack vs ds τ)
  | [], _, h => h
  | _ :: _, [], h => h
  | v :: vs, d :: ds, h => NB.cons rfl (NB.stack (vs := vs) (ds := ds) h)
theorem qgs_nil : QGs X [] (fun ds => if ds.isEmpty = true then ret () else fail) := by
  refine ⟨fun pins s σ H vs us Q I r h => pgs_nil.run pins s σ H vs us Q I r ?_⟩
  obtain ⟨ds, δ, τ, fs, M, hl, nb, rp, q⟩ := h
  cases ds with
  | nil =>
    cases vs with
    | nil => exact ⟨rfl, q σ H rp⟩
    | cons _ _ => simp at hl
  | cons _ _ => exact q.elim
theorem qgs_cons {e : Expr} {es : List Expr} {f : T → Sm Unit} {g : List D → Sm Unit} (h1 : QG X e f) (h2 : QGs X es g) (hs : (assignEach (e :: es) X.env).map (·.2) = assign e X.env :: (assignEach es X.env).map (·.2) := by rfl) :
    QGs X (e :: es) (fun ds => match ds with | [] => fail | d :: r => bnd (f (.d d)) fun _ => g r) := by
  refine ⟨fun pins s σ H vs us Q I r h => (pgs_cons h1 h2 hs).run pins s σ H vs us Q I r ?_⟩
  obtain ⟨ds, δ, τ, fs, M, hl, nb, rp, q⟩ := h
  cases ds with
  | nil => exact q.elim
  | cons d ds =>
    cases vs with
    | nil => simp at hl
    | cons v vs =>
      refine ⟨v, vs, rfl, .d d, δ, stack vs ds τ, fs, M, rfl, nb.stack, rp, ?_⟩
      refine Res.post_mono (bnd_post q) (fun _ δ1 M1 q1 σ1 H1 r1 => ?_) fun _ _ _ z => z
      exact ⟨ds, δ1, τ, fs, M1, by simpa using hl, nb, r1, q1⟩
theorem RepG.pushAll : ∀ {vs : List V} {ds : List D}, RepG K H G ow ι (⟨σ, δ, τ⟩ :: fs) M → AtL K G vs ds → RepG K H G ow ι (⟨σ, δ, stack vs ds τ⟩ :: fs) M
  | vs, [], h, a => by rw [show vs = [] from a]; exact h
  | _, d :: ds, h, ⟨v, r, e, a1, a2⟩ => by
    subst e
    exact (RepG.pushAll h a2).push (t := .d d) a1
theorem qg_tup {es : List Expr} {k n : Nat} {g : List D → Sm Unit} (hc : X.calm = true) (h : QGs X es g) (hn : (assignEach es X.env).length = n := by rfl) (hst : (assignEach es X.env).findIdx? (·.1) = none := by rfl) :
    QG X (.Tuple es k pos) (fun t => match t with | .d (.tuple ds) => if ds.length = n then g ds else fail | _ => fail) := by
  refine ⟨fun pins s σ H v u Q I r h' => (pg_tup hc h hn hst).run pins s σ H v u Q I r ?_⟩
  obtain ⟨t, δ, τ, fs, M, nt, nb, rp, q⟩ := h'
  cases t with
  | d x =>
    cases x with
    | tuple ds =>
      simp only at q
      split at q
      · rename_i hl
        obtain ⟨G, ow, ι, y⟩ := rp
        obtain ⟨a, vs, e, sq, al⟩ := y.top
        have hlen := al.length
        exact ⟨a, vs, e, SqT.grow y.sub sq, by omega, ds, δ, τ, fs, M, hlen, nb, ⟨G, ow, ι, y.pop.pushAll al⟩, q⟩
      · exact q.elim
    | _ => exact q.elim
  | _ => exact q.elim
def mDo (g : Sm Unit) : Sm Fl := fun δ M =>
  match g δ M with
  | .ok _ δ' M' => .ok .nx δ' M'
  | _ => .bad
theorem mDo_post {g : Sm Unit} {k : Fl → Env → Mem → Prop} {x y : XD → Env → Mem → Prop} (h : (mDo g δ M).post k x) : (g δ M).post (fun _ δ' M' => k .nx δ' M') y := by
  unfold mDo at h
  cases e : g δ M with
  | ok a δ' M' => rw [e] at h; exact h
  | ex a b c => rw [e] at h; exact h.elim
  | bad => rw [e] at h; exact h.elim
def mAsg (f : Sm T) (g : T → Sm Unit) : Sm Fl := bnd f fun t => bnd (mOwn t) fun r => mDo (g r)
theorem qs_asg {tg : Expr} {g : T → Sm Unit} (h : QE X W e f) (hg : QG X tg g) (hs : swapsWithSole [tg] e pos.line X.env = pure false := by rfl) (hw : swappedStores [tg] e X.env = pure none := by rfl)
    (h1 : (assignEach [tg] X.env).map (·.2) = [assign tg X.env] := by rfl) : QS X W (.Assign [tg] e pos) (mAsg f g) := by
  refine (ps_asg h hg hs hw h1).imp fun D σ H ⟨δ, τ, fs, M, nb, r, q⟩ => ⟨δ, τ, fs, M, r, Res.post_mono (bnd_post q) (fun t δ1 M1 q1 v H1 r1 => ?_) fun _ _ _ z => xw z⟩
  obtain ⟨r', δ2, M2, e2, q2⟩ := mOwn_post (bnd_post q1)
  obtain ⟨r2, nb2⟩ := r1.own e2
  exact ⟨r', δ2, τ, fs, M2, nb2, nb, r2, mDo_post q2⟩
end
end DL

end
section
namespace DL
open PySem PySem.Spec L2
variable {X : Cx} {W : WX} {K : KF} {H G : Hp} {ow : Addr → Option Who} {ι : List Addr} {σ : St} {δ : Env} {τ : List (V × T)} {fs : List Fram} {M : Mem} {v u : V} {t : T} {e e' : Expr} {pos : Pos}

/-! ### what is walked -/
structure IterOk (K : KF) (J : It) (tm : V × T) (ds : List D) : Prop where
  nb : tm.2.isBor = false
  turn : ∀ i H σ δ τ fs M, Rep K H (⟨σ, δ, tm :: τ⟩ :: fs) M → (ds.length ≤ i → J.stop i H) ∧ ∀ d, ds[i]? = some d → J.go i H ∧ ∀ x H', J.yld i H x H' → Rep K H' (⟨σ, δ, (x, .d d) :: tm :: τ⟩ :: fs) M
def tI (K : KF) (W : WX) (g : Sm (List D)) : TI := fun σ H R => ∃ δ τ fs M, Rep K H (⟨σ, δ, τ⟩ :: fs) M ∧ (g δ M).post (fun ds δ' M' => ∀ J H' tm, IterOk K J tm ds → Rep K H' (⟨σ, δ', tm :: τ⟩ :: fs) M' → R J H') (wX K W σ τ fs)
theorem _root_.L2.PI.imp {tg : Expr} {t t' : TI} (h : PI X tg e t) (i : ∀ σ H R, t' σ H R → t σ H R) : PI X tg e t' := ⟨fun pins s σ H R I q => h.run pins s σ H R I (i _ _ _ q)⟩
abbrev QI (X : Cx) (W : WX) (tg e : Expr) (g : Sm (List D)) : Prop := PI X tg e (tI X.K W g)

def mTgt (g : Sm Unit) (h : Sm Fl) : Sm Fl := fun δ M =>
  match g δ M with
  | .ok _ δ' M' => h δ' M'
  | _ => .bad
theorem mTgt_post {g : Sm Unit} {h : Sm Fl} {k : Fl → Env → Mem → Prop} {x y : XD → Env → Mem → Prop} (q : (mTgt g h δ M).post k x) : (g δ M).post (fun _ δ' M' => (h δ' M').post k x) y := by
  unfold mTgt at q
  cases e : g δ M with
  | ok a δ' M' => rw [e] at q; exact q
  | ex a b c => rw [e] at q; exact q.elim
  | bad => rw [e] at q; exact q.elim
def forF (tg : T → Sm Unit) (b : Sm Fl) : List D → Sm Fl
  | [] => ret .nx
  | d :: ds => mTgt (tg (.d d)) (bnd b fun fl => match fl with
    | .nx => forF tg b ds
    | .ct => forF tg b ds
    | .bk => ret .nx
    | .rt r => ret (.rt r))
def mFor (g : Sm (List D)) (tg : T → Sm Unit) (b : Sm Fl) : Sm Fl := bnd g (forF tg b)
theorem xS.push {p : V × T} {x : XD} (h : xS K W τ fs x δ M) : xS K W (p :: τ) fs x δ M := fun d σ' H' r => h d σ' H' r.pop
theorem drop_cons' {α : Type} {l : List α} {i : Nat} {d : α} (h : l[i]? = some d) : l.drop i = d :: l.drop (i + 1) := by
  obtain ⟨hi, e⟩ := List.getElem?_eq_some_iff.mp h
  rw [List.drop_eq_getElem_cons hi, e]
theorem qs_for {iter tgt : Expr} {body : List Stmt} {g : Sm (List D)} {tg : T → Sm Unit} {b : Sm Fl} (hp : PassesOwn (model X.prog X.w) X.A X.env X.xe) (hc : X.calm = true) (hi : QI X W tgt iter g) (hg : QG X tgt tg) (hb : QSs X W body b)
    (hs : ∀ x, foldedSetIterable iter X.env x = pure x := by intro _; rfl) : QS X W (.For tgt iter body [] pos) (mFor g tg b) := by
  refine (ps_for hp hc hi hg hb hs).imp fun D σ H ⟨δ, τ, fs, M, nb, r, q⟩ => ⟨δ, τ, fs, M, r, Res.post_mono (bnd_post q) (fun ds δ1 M1 q1 J H1 tm ok r1 => ?_) fun _ _ _ z => xw z⟩
  refine ⟨fun i m σ H => m = ds.length - i ∧ i ≤ ds.length ∧ ∃ δ M, Rep X.K H (⟨σ, δ, tm :: τ⟩ :: fs) M ∧ (forF tg b (ds.drop i) δ M).post (kS X.K τ fs D) (xS X.K W τ fs), ⟨_, rfl, Nat.zero_le _, δ1, M1, r1, q1⟩, ?_⟩
  rintro i m σ2 H2 ⟨rfl, hi, δ2, M2, r2, q2⟩
  obtain ⟨stop, step⟩ := ok.turn i H2 σ2 δ2 τ fs M2 r2
  by_cases hlt : i < ds.length
  · have ed : ds[i]? = some ds[i] := List.getElem?_eq_getElem hlt
    obtain ⟨go, yld⟩ := step _ ed
    rw [drop_cons' ed] at q2
    refine .inr ⟨go, fun σ' H' => i + 1 ≤ ds.length ∧ ∃ δ M, Rep X.K H' (⟨σ', δ, tm :: τ⟩ :: fs) M ∧ (forF tg b (ds.drop (i + 1)) δ M).post (kS X.K τ fs D) (xS X.K W τ fs), fun σ' H' n => ⟨ds.length - (i + 1), by omega, rfl, n.1, n.2⟩, fun x H' y => ?_⟩
    refine ⟨.d ds[i], δ2, tm :: τ, fs, M2, rfl, nb.cons ok.nb, yld x H' y, Res.post_mono (mTgt_post q2) (fun _ δ3 M3 q3 σ3 H3 r3 => ?_) fun _ _ _ z => z⟩
    refine ⟨δ3, tm :: τ, fs, M3, nb.cons ok.nb, r3, Res.post_mono (bnd_post q3) (fun fl δ4 M4 q4 => ?_) fun _ _ _ z => z.push⟩
    cases fl with
    | nx => exact fun σ' H' r => ⟨hlt, δ4, M4, r, q4⟩
    | ct => exact fun σ' H' r => ⟨hlt, δ4, M4, r, q4⟩
    | bk => exact fun σ' H' r => q4 σ' H' r.pop
    | rt t => exact ⟨q4.1, fun v σ' H' r => q4.2 v σ' H' r.nip⟩
  · refine .inl ⟨stop (by omega), ?_⟩
    rw [List.drop_eq_nil_of_le (by omega)] at q2
    exact q2 σ2 H2 r2.pop

/-! ### while -/
def whileF (c : Sm Bool) (b : Sm Fl) : Nat → Sm Fl
  | 0 => fail
  | n + 1 => bnd c fun t => if t = true then bnd b (fun fl => match fl with
    | .nx => whileF c b n
    | .ct => whileF c b n
    | .bk => ret .nx
    | .rt r => ret (.rt r)) else ret .nx
def mWhile (n : Nat) (c : Sm Bool) (b : Sm Fl) : Sm Fl := whileF c b n
theorem qs_while (n : Nat) {c : Expr} {body : List Stmt} {cf : Sm Bool} {b : Sm Fl} (hp : PassesOwn (model X.prog X.w) X.A X.env X.xe) (hc : QT X W c cf) (hb : QSs X W body b) : QS X W (.While c body [] pos) (mWhile n cf b) := by
  refine (ps_while hp hc hb).imp fun D σ H ⟨δ, τ, fs, M, nb, r, q⟩ => ?_
  refine ⟨fun m σ H => ∃ δ M, Rep X.K H (⟨σ, δ, τ⟩ :: fs) M ∧ (whileF cf b m δ M).post (kS X.K τ fs D) (xS X.K W τ fs), ⟨n, δ, M, r, q⟩, ?_⟩
  rintro m σ2 H2 ⟨δ2, M2, r2, q2⟩
  cases m with
  | zero => exact q2.elim
  | succ m =>
    refine ⟨δ2, τ, fs, M2, r2, Res.post_mono (bnd_post q2) (fun t δ3 M3 q3 H3 r3 => ?_) fun _ _ _ z => xw z⟩
    cases t with
    | false => exact q3 σ2 H3 r3
    | true =>
      refine ⟨fun σ' H' => ∃ δ M, Rep X.K H' (⟨σ', δ, τ⟩ :: fs) M ∧ (whileF cf b m δ M).post (kS X.K τ fs D) (xS X.K W τ fs), fun σ' H' n => ⟨m, Nat.lt_succ_self _, n⟩, ?_⟩
      refine ⟨δ3, τ, fs, M3, nb, r3, Res.post_mono (bnd_post q3) (fun fl δ4 M4 q4 => ?_) fun _ _ _ z => z⟩
      cases fl with
      | nx => exact fun σ' H' r => ⟨δ4, M4, r, q4⟩
      | ct => exact fun σ' H' r => ⟨δ4, M4, r, q4⟩
      | bk => exact q4
      | rt t => exact q4

/-! ### walks of lists, tuples, ranges -/
theorem iter_list {a : Addr} {ds : List D} (h : v = .ref a) : IterOk K (Itl K a) (v, .d (.list ds)) ds := by
  refine ⟨rfl, fun i H σ δ τ fs M ⟨G, ow, ι, x⟩ => ?_⟩
  obtain ⟨b, vs, e, q, al⟩ := x.top
  have e' : a = b := by
    have z : v = .ref b := e
    rw [h] at z; cases z; rfl
  subst e'
  have hl := al.length
  have hq : SqL K H a vs := SqL.of (x.sub _ _ q)
  have same : ∀ ys, SqL K H a ys → H a = some (.lst vs) := fun _ _ => x.sub _ _ q
  refine ⟨fun hi => ⟨vs, hq, by omega⟩, fun d ed => ?_⟩
  obtain ⟨y, ey, ay⟩ := al.get ed
  refine ⟨⟨vs, y, hq, ey⟩, fun z H' yl => ?_⟩
  obtain ⟨eH, yy⟩ := yl
  subst eH
  have := yy vs hq
  rw [ey] at this; cases this
  exact ⟨G, ow, ι, x.push (t := .d d) ay⟩
theorem iter_tup {a : Addr} {ds : List D} (h : v = .ref a) : IterOk K (Itt K a) (v, .d (.tuple ds)) ds := by
  refine ⟨rfl, fun i H σ δ τ fs M ⟨G, ow, ι, x⟩ => ?_⟩
  obtain ⟨b, vs, e, q, al⟩ := x.top
  have e' : a = b := by
    have z : v = .ref b := e
    rw [h] at z; cases z; rfl
  subst e'
  have hl := al.length
  have hq : SqT K H a vs := SqT.grow x.sub q
  refine ⟨fun hi => ⟨vs, hq, by omega⟩, fun d ed => ?_⟩
  obtain ⟨y, ey, ay⟩ := al.get ed
  refine ⟨⟨vs, y, hq, ey⟩, fun z H' yl => ?_⟩
  obtain ⟨eH, yy⟩ := yl
  subst eH
  have := yy vs hq
  rw [ey] at this; cases this
  exact ⟨G, ow, ι, x.push (t := .d d) ay⟩
theorem iter_range {lo : Int} {n : Nat} : IterOk K (Itr lo n) (.non, .d .none) ((List.range n).map fun k => .int (lo + (k : Nat))) := by
  refine ⟨rfl, fun i H σ δ τ fs M ⟨G, ow, ι, x⟩ => ?_⟩
  refine ⟨fun hi => (by simpa using hi : n ≤ i), fun d ed => ?_⟩
  have hi : i < n := by
    have := (List.getElem?_eq_some_iff.mp ed).1
    simpa using this
  rw [List.getElem?_map, List.getElem?_range hi] at ed
  simp at ed
  subst ed
  refine ⟨hi, fun z H' ⟨eH, ez⟩ => ?_⟩
  subst eH
  exact ⟨G, ow, ι, x.push (t := .d (.int (lo + i))) ez⟩
/-- a list or a tuple, by what comes -/
def iSeq (K : KF) (te : TE) : TI := fun σ H R => te σ H fun x H1 => (∃ a, x = .ref a ∧ (∃ xs, SqL K H1 a xs) ∧ R (Itl K a) H1) ∨ ∃ a, x = .ref a ∧ (∃ xs, SqT K H1 a xs) ∧ R (Itt K a) H1
theorem pi_seq {tg : Expr} {te : TE} (he : PE X e te) : PI X tg e (iSeq X.K te) := by
  refine ⟨fun pins s σ H R I h => thn (he.run pins s σ H _ I h) fun v s1 z => ?_⟩
  obtain ⟨x, H1, J, rx, q⟩ := z
  have fresh : ∀ b ∈ [s1.heap.objs.size], FpOk X pins H1 b := fun b hb => by
    obtain rfl := List.mem_singleton.mp hb
    exact J.fpOk (Nat.le_refl _) (J.hok.fresh (Nat.le_refl _))
  rcases q with ⟨a, ea, ⟨xs, hq⟩, q⟩ | ⟨a, ea, ⟨xs, hq⟩, q⟩
  · subst ea
    obtain rfl : v = Value.ref a := rx
    obtain ⟨its, rv, p, _⟩ := J.list hq
    exact wpAny_pyIter_list p.isList ⟨_, [_], _, Itl X.K a, H1, rfl, J.kept (t' := s1.toks) (fun _ _ => Heap.get?_push_of_some _), turn_list a _, ⟨_, Heap.get?_push_size _ rfl, rfl, rfl⟩, fresh, q⟩
  · subst ea
    obtain rfl : v = Value.ref a := rx
    obtain ⟨its, rv, p, _⟩ := J.tuple hq
    exact wpAny_pyIter_tuple (show s1.heap.IsTuple a its.toArray from p) ⟨_, [_], _, Itt X.K a, H1, rfl, J.kept (t' := s1.toks) (fun _ _ => Heap.get?_push_of_some _), turn_tuple a _, ⟨_, Heap.get?_push_size _ rfl, rfl, rfl⟩, fresh, q⟩
def mSeqIt (f : Sm T) : Sm (List D) := bnd (bnd f mFrz) fun t => match t with
  | .d (.list ds) => ret ds
  | .d (.tuple ds) => ret ds
  | _ => fail
theorem qi_seq {tg : Expr} {f : Sm T} (h : QE X W e f) : QI X W tg e (mSeqIt f) := by
  refine (pi_seq (qe_frz h)).imp fun σ H R ⟨δ, τ, fs, M, r, q⟩ => ⟨δ, τ, fs, M, r, Res.post_mono (bnd_post q) (fun t δ1 M1 q1 v H1 r1 => ?_) fun _ _ _ z => z⟩
  cases t with
  | d x =>
    cases x with
    | list ds =>
      obtain ⟨G, ow, ι, y⟩ := id r1
      obtain ⟨a, vs, e, sq, al⟩ := y.top
      exact .inl ⟨a, e, ⟨vs, SqL.of (y.sub _ _ sq)⟩, q1 _ H1 _ (iter_list e) r1⟩
    | tuple ds =>
      obtain ⟨G, ow, ι, y⟩ := id r1
      obtain ⟨a, vs, e, sq, al⟩ := y.top
      exact .inr ⟨a, e, ⟨vs, SqT.grow y.sub sq⟩, q1 _ H1 _ (iter_tup e) r1⟩
    | _ => exact q1.elim
  | _ => exact q1.elim
def small62 (j : Int) : Bool := match j with
  | .ofNat n => Nat.blt n 4611686018427387904
  | .negSucc n => Nat.blt n 4611686018427387904
def mRange1 (f : Sm (List T)) : Sm (List D) := bnd f fun ts => match ts with
  | [.d (.int j)] => if small62 j = true then ret ((List.range j.toNat).map fun k => .int (0 + (k : Nat))) else fail
  | _ => fail
def mRange2 (f : Sm (List T)) : Sm (List D) := bnd f fun ts => match ts with
  | [.d (.int i), .d (.int j)] => if small62 i = true ∧ small62 j = true then ret ((List.range (j - i).toNat).map fun k => .int (i + (k : Nat))) else fail
  | _ => fail
theorem small62_iff {j : Int} : small62 j = true ↔ (-(2 ^ 62) ≤ j ∧ j < 2 ^ 62) := by
  cases j with
  | ofNat n =>
    show Nat.blt n 4611686018427387904 = true ↔ _
    rw [Nat.blt_eq]
    simp only [Int.ofNat_eq_natCast]
    omega
  | negSucc n =>
    show Nat.blt n 4611686018427387904 = true ↔ _
    rw [Nat.blt_eq]
    omega
theorem Rep.dummy (h : Rep K H (⟨σ, δ, τ⟩ :: fs) M) : Rep K H (⟨σ, δ, (.non, .d .none) :: τ⟩ :: fs) M := h.pushD fun _ _ => rfl
theorem qi_range1 {tg a : Expr} {f : Sm (List T)} {p : Pos} (hg : Gl X "range") (hm : X.mg "range" = none) (h : QA X W [a] f) (hs : starEach [a] X.env = [(false, eval a X.env)] := by rfl) : QI X W tg (.Call (.Name "range" p) [a] [] pos) (mRange1 f) := by
  refine (pi_range1 hg hm h hs).imp fun σ H R ⟨δ, τ, fs, M, r, q⟩ => ⟨δ, τ, fs, M, r, Res.post_mono (bnd_post q) (fun ts δ1 M1 q1 vs H1 hl r1 => ?_) fun _ _ _ z => z⟩
  split at q1
  · rename_i j
    split at q1
    · rename_i hj
      match vs, hl, r1 with
      | [w], _, r1 =>
        have ew : w = .int j := r1.topD
        obtain ⟨b1, b2⟩ := small62_iff.mp hj
        exact ⟨j, by rw [ew], b1, b2, q1 _ H1 _ iter_range (Rep.dummy (Rep.pop r1))⟩
    · exact q1.elim
  · exact q1.elim
theorem qi_range2 {tg a b : Expr} {f : Sm (List T)} {p : Pos} (hg : Gl X "range") (hm : X.mg "range" = none) (h : QA X W [a, b] f) (hs : starEach [a, b] X.env = [(false, eval a X.env), (false, eval b X.env)] := by rfl) (hs2 : starEach [b] X.env = [(false, eval b X.env)] := by rfl) :
    QI X W tg (.Call (.Name "range" p) [a, b] [] pos) (mRange2 f) := by
  refine (pi_range2 hg hm h hs hs2).imp fun σ H R ⟨δ, τ, fs, M, r, q⟩ => ⟨δ, τ, fs, M, r, Res.post_mono (bnd_post q) (fun ts δ1 M1 q1 vs H1 hl r1 => ?_) fun _ _ _ z => z⟩
  split at q1
  · rename_i i j
    split at q1
    · rename_i hj
      match vs, hl, r1 with
      | [w1, w2], _, r1 =>
        have e2 : w2 = .int j := r1.topD
        have e1 : w1 = .int i := (Rep.pop r1).topD
        obtain ⟨a1, a2⟩ := small62_iff.mp hj.1
        obtain ⟨b1, b2⟩ := small62_iff.mp hj.2
        exact ⟨i, j, by rw [e1, e2], ⟨a1, a2, b1, b2⟩, q1 _ H1 _ iter_range (Rep.dummy (Rep.pop (Rep.pop r1)))⟩
    · exact q1.elim
  · exact q1.elim
end DL

end
section
namespace DL
open PySem PySem.Spec L2
open PyProof.Rows (envOfC)

/-! ### defs: as the layer's, with nothing shown meanwhile (guards) -/
structure FnG (P : Program) (w : World) (K : KF) (mg : Str → Option Value) (base : Heap) (k : Nat) (f : Addr) (fd : FuncData) (ps : List Str) (sp : Sp) : Prop where
  len : ∀ vs H Q E, sp vs H Q E → vs.length = ps.length
  run : ∀ {A : Around} {outer : List PySem.Env} {s : Shared} {H : Hp} {args : Args} {us : List Value} {vs : List V} {Q : VK} {E : XK}, Room k A → A.guards = some [] →
    Env0 P w K mg base A outer s H → BindsTo s fd args (ps.zip us) → Vals vs us → sp vs H Q E → codeAny (model P w) A (.call (.ref f) args) (CR (L2.CX P w) outer P w H s Q E) s

/-- what a def means: of its arguments and the memory -/
abbrev Fm := List T → Mem → Res T
def kR (K : KF) (fs : List Fram) (Q : VK) : T → DL.Env → Mem → Prop := fun r _ M' => r.isBor = false ∧ ∀ v H', Rep K H' (⟨[], [], [(v, r)]⟩ :: fs) M' → Q v H'
def xR (K : KF) (fs : List Fram) (E : XK) : XD → DL.Env → Mem → Prop := fun e _ M' => ∀ d H', XAt K H' e d (⟨[], [], []⟩ :: fs) M' → E (.ref (cOf K e.cls)) d H'
def spG (K : KF) (n : Nat) (g : Fm) : Sp := fun vs H Q E => ∃ ts fs M, vs.length = n ∧ ts.length = n ∧ Rep K H (⟨vs.map some, ts.map some, []⟩ :: fs) M ∧ (g ts M).post (kR K fs Q) (xR K fs E)
def mBody (n : Nat) (f : Sm Fl) : Fm := fun ts M =>
  match f (ts.map some ++ List.replicate n none) M with
  | .ok .nx _ M' => .ok (.d .none) [] M'
  | .ok (.rt r) _ M' => .ok r [] M'
  | .ok _ _ _ => .bad
  | .ex e _ M' => .ex e [] M'
  | .bad => .bad
section
variable {P : Program} {w : World} {K : KF} {mg : Str → Option Value} {base : Heap} {k n : Nat} {f : Addr} {fd : FuncData} {ps N : List Str} {sp sp' : Sp} {g g' : Fm}
theorem FnG.mono {j : Nat} (F : FnG P w K mg base j f fd ps sp) (h : j ≤ k) : FnG P w K mg base k f fd ps sp := ⟨F.len, fun hr => F.run (hr.mono h)⟩
theorem FnG.imp (F : FnG P w K mg base k f fd ps sp) (h : ∀ vs H Q E, sp' vs H Q E → sp vs H Q E) : FnG P w K mg base k f fd ps sp' :=
  ⟨fun vs H Q E q => F.len vs H Q E (h _ _ _ _ q), fun hr hg e0 hb hv q => F.run hr hg e0 hb hv (h _ _ _ _ q)⟩
theorem XAt.drop {H : Hp} {x : XD} {d : Option Addr} {σ : St} {δ : DL.Env} {τ : List (V × T)} {fs : List Fram} {M : Mem} (h : XAt K H x d (⟨σ, δ, τ⟩ :: fs) M) : XAt K H x d (⟨[], [], []⟩ :: fs) M := by
  obtain ⟨G, ow, ι, r, q⟩ := h
  exact ⟨G, ow, ι, ⟨r.sub, r.own, r.lenM, r.cells, ⟨rfl, fun i t e => (by cases e), trivial⟩, r.frs.2⟩, q⟩
/-- a def's run, from its body's meaning at this very state -/
theorem fn_run {x qual : Str} {st : Stmt} {m : Sm Fl} (F : Fun K x qual st f fd) (S : FnScope N ps (defScope st)) {A : Around} {outer : List PySem.Env} {s : Shared} {H : Hp} {args : Args} {us : List Value} {vs : List V} {Q : VK} {E : XK} (hr : Room (k + 1) A) (hg : A.guards = some [])
    (e0 : Env0 P w K mg base A outer s H) (hb : BindsTo s fd args (ps.zip us)) (rv : Vals vs us) (hsp : spG K ps.length (mBody (N.length - ps.length) m) vs H Q E)
    (hbody : ∀ cdv : Value, fd.code = cdv → Room k (A.deeper (envOfC qual (defScope st) s.heap.objs.size f cdv)) →
      QSs (cxOf (L2.CX P w) P w K mg base N qual (defScope st) f cdv A outer s H E) (fun c d _ H' => E c d H') (defBody st) m) : codeAny (model P w) A (.call (.ref f) args) (CR (L2.CX P w) outer P w H s Q E) s := by
  obtain ⟨oc, od, kV, doc, pm, an, cdv, ct, osl, rfl, lk, hcd⟩ := F.ex
  obtain ⟨ts, fs, M, hl, hl2, rp, q⟩ := hsp
  have KX : K.In s.heap := e0.mod.kin.keeps fun b o e => (e0.bs b o e).1
  have noLim : s.heap.NoLimit := e0.mod.nolimit.keeps fun b o e => (e0.bs b o e).1
  have kinds : ∀ y ∈ ps.zip us, (defScope st).names.lookup y.1 = some .local ∨ ((defScope st).names.lookup y.1 = some .cell ∧ ((cellsFrom (s.heap.objs.size + 1) (defScope st).names []).lookup y.1).isSome = true) := fun y hy => by
    rcases S.par y.1 (List.of_mem_zip (a := y.1) (b := y.2) hy).1 with z | z
    · exact .inl z
    · exact .inr ⟨z, PySem.W.cellsFrom_some _ _ _ (.inl z)⟩
  refine codeAny_call_function hr.depth (KX _ _ lk) rfl S.co S.gen rfl (PySem.W.codeRec_of KX hcd) (hb _ _ _ _ (wpAny_newFunctionEnv_cells S.kind kinds fun env he s1 x => ?_))
  subst he
  refine ⟨noLim.keeps x.toInCall.keep, codeAny_func ?_⟩
  have hB := hbody cdv rfl (hr.deeper _)
  have I := inv_start (CX := L2.CX P w) (mg := mg) (base := base) (E := E) S hr.hd e0 hl rv x
  have rw : Rep K H (⟨L2.start N vs, ts.map some ++ List.replicate (N.length - ps.length) none, []⟩ :: fs) M := by
    have := rp.wide (N.length - ps.length) NB.nil
    unfold L2.start
    rw [hl]; exact this
  refine wpAny_mono (hB.run [] s1 (L2.start N vs) H { nx := fun _ H' => Q .non H', rt := Q } I ⟨_, [], fs, M, NB.nil, rw, ?_⟩) (fun fl s' hs => ?_) fun e s' hs => hs
  · unfold mBody at q
    cases em : m (ts.map some ++ List.replicate (N.length - ps.length) none) M with
    | ok fl δ' M' =>
      rw [em] at q
      cases fl with
      | nx => exact fun σ' H' r => q.2 _ H' (Rep.finish (r.pushD (x := .none) (v := .non) fun _ _ => rfl) rfl)
      | rt t => exact ⟨q.1, fun v σ' H' r => q.2 v H' (r.finish q.1)⟩
      | bk => exact q.elim
      | ct => exact q.elim
    | ex e δ' M' => rw [em] at q; exact fun d σ' H' r => q d H' r.drop
    | bad => rw [em] at q; exact q.elim
  · have fin : ∀ {σ' : St} {H' : Hp} {v : V} {u : Value}, Inv (cxOf (L2.CX P w) P w K mg base N qual (defScope st) f cdv A outer s H E) [] σ' H' s' → RelV v u → Q v H' → CE outer P w H s Q u s' :=
      fun J r q => ⟨_, _, J.os, J.bare, J.base, J.hok, r, q⟩
    cases fl with
    | ret u => obtain ⟨v, σ', H', J, r, z⟩ := hs; exact fin J r z
    | next => obtain ⟨σ', H', J, z⟩ := hs; exact fin (v := V.non) (u := Value.none) J rfl z
    | brk => obtain ⟨_, _, _, z⟩ := hs; exact z.elim
    | cont => obtain ⟨_, _, _, z⟩ := hs; exact z.elim
/-- THE RULE of a def by its body's meaning -/
theorem fnGc {x qual : Str} {st : Stmt} {m : Sm Fl} (F : Fun K x qual st f fd) (S : FnScope N ps (defScope st))
    (hbody : ∀ (cdv : Value) (A : Around) (outer : List PySem.Env) (s : Shared) (H : Hp) (E : XK), fd.code = cdv → Room k (A.deeper (envOfC qual (defScope st) s.heap.objs.size f cdv)) → A.guards = some [] →
      QSs (cxOf (L2.CX P w) P w K mg base N qual (defScope st) f cdv A outer s H E) (fun c d _ H' => E c d H') (defBody st) m) : FnG P w K mg base (k + 1) f fd ps (spG K ps.length (mBody (N.length - ps.length) m)) :=
  ⟨fun vs H Q E h => (let ⟨_, _, _, a, _⟩ := h; a), fun {A outer s H args us vs Q E} hr hg e0 hb rv hsp => fn_run F S hr hg e0 hb rv hsp fun cdv hc hr' => hbody cdv A outer s H E hc hr' hg⟩
theorem fnG {x qual : Str} {st : Stmt} {m : Sm Fl} (F : Fun K x qual st f fd) (S : FnScope N ps (defScope st))
    (hbody : ∀ (cdv : Value) (A : Around) (outer : List PySem.Env) (s : Shared) (H : Hp) (E : XK), Room k (A.deeper (envOfC qual (defScope st) s.heap.objs.size f cdv)) → A.guards = some [] →
      QSs (cxOf (L2.CX P w) P w K mg base N qual (defScope st) f cdv A outer s H E) (fun c d _ H' => E c d H') (defBody st) m) : FnG P w K mg base (k + 1) f fd ps (spG K ps.length (mBody (N.length - ps.length) m)) :=
  fnGc F S fun cdv A outer s H E _ hr hg => hbody cdv A outer s H E hr hg

end

/-! ### calls -/
section
variable {X : Cx} {W : WX} {k : Nat} {f : Addr} {fd : FuncData} {ps : List Str} {sp : Sp} {x : Str} {p pos : Pos} {e : Expr} {es : List Expr} {g : Fm} {n : Nat}
theorem run_G {pins : List (Addr × Obj)} {σ : St} {H : Hp} {s : Shared} {Q : VK} {us : List Value} {ks : List (Str × Value)} {args : List Value} {vs : List V} (F : FnG X.prog X.w X.K X.mg X.base k f fd ps sp) (hr : Room k X.A) (hg : X.A.guards = some []) (tk : Takes X W)
    (I : Inv X pins σ H s) (hb : BindsTo s fd ⟨args, ks⟩ (ps.zip us)) (r : Vals vs us) (h : sp vs H Q fun c d H' => W c d σ H') : wpAny (model X.prog X.w) X.A (call (.ref f) args ks) (EP X pins σ Q) X.xe s := by
  refine wpAny_call (codeAny_mono (F.run hr hg I.env0 hb r h) fun r s' z => ?_)
  cases r with
  | error e => exact tk e s' (XE.of_call I (fun _ _ _ h => h) z)
  | ok fl =>
    cases fl with
    | ret u => exact I.after z
    | next => exact z.elim
    | brk => exact z.elim
    | cont => exact z.elim
def mCall (g : Fm) (fa : Sm (List T)) : Sm T := bnd fa fun ts => fun δ M =>
  if ts.all (fun t => !t.isBor) = true then
    match g ts M with
    | .ok r _ M' => if r.isBor = true then .bad else .ok r δ M'
    | .ex e _ M' => .ex e δ M'
    | .bad => .bad
  else .bad
theorem call_sp {K : KF} {σ : St} {H : Hp} {δ : DL.Env} {τ : List (V × T)} {fs : List Fram} {M : Mem} {vs : List V} {ts : List T} {Q : VK} (hl : vs.length = ts.length) (hn : ts.length = n) (r : Rep K H (⟨σ, δ, rz vs ts τ⟩ :: fs) M)
    (q : (if ts.all (fun t => !t.isBor) = true then (match g ts M with
      | .ok r _ M' => if r.isBor = true then Res.bad else Res.ok r δ M'
      | .ex e _ M' => .ex e δ M'
      | .bad => .bad) else .bad).post (fun r δ' M' => ∀ v H', Rep K H' (⟨σ, δ', (v, r) :: τ⟩ :: fs) M' → Q v H') (wX K W σ τ fs)) : spG K n g vs H Q fun c d H' => W c d σ H' := by
  split at q
  · rename_i hb
    have nb : ∀ t ∈ ts, t.isBor = false := fun t ht => by simpa using List.all_eq_true.mp hb t ht
    refine ⟨ts, ⟨σ, δ, τ⟩ :: fs, M, hl.trans hn, hn, r.enter hl nb, ?_⟩
    cases e : g ts M with
    | ok r' δ' M' =>
      rw [e] at q
      simp only at q
      split at q
      · exact q.elim
      · rename_i nr
        have nr' : r'.isBor = false := by simpa using nr
        exact ⟨nr', fun v H' z => q v H' (z.leave nr')⟩
    | ex x δ' M' =>
      rw [e] at q
      exact fun d H' z => q d H' (let ⟨G, ow, ι, y, c⟩ := z; ⟨G, ow, ι, ⟨y.sub, y.own, y.lenM, y.cells, y.frs.2⟩, c⟩)
    | bad => rw [e] at q; exact q.elim
  · exact q.elim
end
end DL

end
section
namespace DL
open PySem PySem.Spec L2
section
variable {X : Cx} {W : WX} {k n : Nat} {f : Addr} {fd : FuncData} {ps ks : List Str} {sp : Sp} {x : Str} {p pos : Pos} {e : Expr} {es : List Expr} {kws : List Keyword} {g : Fm} {σ : St} {H : Hp} {Q : VK} {fa : Sm (List T)}
/-- what a caller knows of a def -/
structure Cal (P : Program) (w : World) (K : KF) (mg : Str → Option Value) (base : Heap) (k : Nat) (x : Str) (n : Nat) (g : Fm) : Prop where
  ex : ∃ (f : Addr) (fd : FuncData) (ps : List Str), ps.length = n ∧ FnG P w K mg base k f fd ps (spG K n g) ∧ mg x = some (.ref f) ∧ PySem.W.keepIn K (.ref f) = true ∧ Binds K fd ps []
theorem Cal.mono {P : Program} {w : World} {K : KF} {mg : Str → Option Value} {base : Heap} {j k : Nat} {x : Str} {n : Nat} {g : Fm} (c : Cal P w K mg base j x n g) (h : j ≤ k) : Cal P w K mg base k x n g :=
  let ⟨f, fd, ps, a, F, b⟩ := c.ex; ⟨f, fd, ps, a, F.mono h, b⟩
theorem call_rd (h : tE X.K W (mCall g fa) σ H Q) : tA X.K W fa σ H fun vs H1 => spG X.K n g vs H1 Q (fun c d H' => W c d σ H') ∨ vs.length ≠ n := by
  obtain ⟨δ, τ, fs, M, r, q⟩ := h
  refine ⟨δ, τ, fs, M, r, Res.post_mono (bnd_post q) (fun ts δ1 M1 q1 vs H1 hl r1 => ?_) fun _ _ _ z => z⟩
  by_cases hn : ts.length = n
  · exact .inl (call_sp hl hn r1 q1)
  · exact .inr (fun z => hn (hl ▸ z))
theorem len_args {es : List Expr} {pos : Pos} {pins : List (Addr × Obj)} {σ : St} {s' : Shared} {R : List V → Hp → Prop} {us : List Value} (h : AP X pins σ R us s') : ∃ vs H', Vals vs us ∧ R vs H' := let ⟨vs, H', _, r, q⟩ := h; ⟨vs, H', r, q⟩
/-- f(e, ..): m of arguments as many as parameters -/
theorem qe_call (c : Cal X.prog X.w X.K X.mg X.base k x n g) (hr : Room k X.A) (hgd : X.A.guards = some []) (tk : Takes X W) (hg : Gl X x) (ha : QA X W (e :: es) fa) (hlen : ∀ δ M ts δ' M', fa δ M = .ok ts δ' M' → ts.length = n)
    (hdb : (x == ("__debug__" : Str)) = false := by decide) (he : starEach (e :: es) X.env = (false, eval e X.env) :: starEach es X.env := by rfl) (hpl : (backTo pos (starEach es X.env)).any (·.1) = false := by rfl) :
    QE X W (.Call (.Name x p) (e :: es) [] pos) (mCall g fa) := by
  obtain ⟨f, fd, ps, hp, F, hm, hk, hb⟩ := c.ex
  refine ⟨fun pins s σ H Q I h => wpAny_Call_Name_kw (ld_glob I hg hm ?_ hdb)⟩
  have h2 : tA X.K W fa σ H fun vs H1 => spG X.K n g vs H1 Q fun c d H' => W c d σ H' := by
    obtain ⟨δ, τ, fs, M, r, q⟩ := h
    have q' := bnd_post q
    refine ⟨δ, τ, fs, M, r, ?_⟩
    cases ef : fa δ M with
    | ok ts δ1 M1 =>
      rw [ef] at q'
      exact fun vs H1 hl r1 => call_sp hl (hlen _ _ _ _ _ ef) r1 q'
    | ex a b c => rw [ef] at q'; exact q'
    | bad => rw [ef] at q'; exact q'
  refine PySem.W.callWith_K (h₀ := X.base) I.ok.mod.kin hk (thn (ha.run pos pins s σ H _ I h2) fun us s1 ⟨vs, H1, J, r, q⟩ => ⟨J.kIn, ?_⟩) he hpl
  have hl : (us ++ []).length = ps.length := by rw [List.append_nil, ← r.length]; exact F.len _ _ _ _ q
  have b := hb s1 us J.kIn hl
  rw [List.append_nil] at b
  exact run_G F hr hgd tk J b r q
theorem qe_call0 (c : Cal X.prog X.w X.K X.mg X.base k x 0 g) (hr : Room k X.A) (hgd : X.A.guards = some []) (tk : Takes X W) (hg : Gl X x) (hdb : (x == ("__debug__" : Str)) = false := by decide) : QE X W (.Call (.Name x p) [] [] pos) (mCall g mNil) := by
  obtain ⟨f, fd, ps, hp, F, hm, hk, hb⟩ := c.ex
  refine ⟨fun pins s σ H Q I h => wpAny_Call_Name_kw (ld_glob I hg hm ?_ hdb)⟩
  obtain ⟨δ, τ, fs, M, r, q⟩ := h
  have h2 : spG X.K 0 g [] H Q fun c d H' => W c d σ H' := call_sp (vs := []) (ts := []) rfl rfl r (bnd_post q)
  have b := hb s [] I.kIn (by rw [List.append_nil]; exact hp.symm)
  exact PySem.W.callWith_K0 I.kIn hk (run_G F hr hgd tk I (us := []) (vs := []) b .nil h2)
/-- f(k = e, ..): all by name -/
def perm {α : Type} (π : List Nat) (l : List α) : List α := π.filterMap fun i => l[i]?
theorem vals_perm {vs : List V} {us : List Value} (h : Vals vs us) : ∀ π : List Nat, Vals (perm π vs) (perm π us)
  | [] => .nil
  | i :: π => by
    unfold perm
    cases e : vs[i]? with
    | none => simp only [List.filterMap_cons, e, h.none_of e]; exact vals_perm h π
    | some v =>
      obtain ⟨u, eu, r⟩ := h.get e
      simp only [List.filterMap_cons, e, eu]
      exact .cons r (vals_perm h π)
def mCallK (π : List Nat) (g : Fm) (fa : Sm (List T)) : Sm T := bnd fa fun ts => fun δ M =>
  if ts.all (fun t => match t with | .d _ => true | _ => false) = true then
    match g (perm π ts) M with
    | .ok r _ M' => if r.isBor = true then .bad else .ok r δ M'
    | .ex e _ M' => .ex e δ M'
    | .bad => .bad
  else .bad
abbrev QK (X : Cx) (W : WX) (kws : List Keyword) (f : Sm (List T)) : Prop := PK X kws (tA X.K W f)
theorem _root_.L2.PK.imp {t t' : TA} (h : PK X kws t) (i : ∀ σ H Q, t' σ H Q → t σ H Q) : PK X kws t' := ⟨fun pos pins s σ H Q I q => h.run pos pins s σ H Q I (i _ _ _ q)⟩
theorem qk_nil : QK X W [] mNil := pk_nil.imp fun σ H Q ⟨δ, τ, fs, M, r, q⟩ => q [] H rfl r
theorem qk_cons {nm : Option Str} {kpos : Pos} {f : Sm T} {g : Sm (List T)} (h : QE X W e f) (hs : QK X W kws g) : QK X W (⟨nm, e, kpos⟩ :: kws) (mCons f g) := by
  refine (pk_cons h hs).imp fun σ H Q ⟨δ, τ, fs, M, r, q⟩ => ⟨δ, τ, fs, M, r, Res.post_mono (bnd_post q) (fun a δ1 M1 q1 v H1 r1 => ?_) fun _ _ _ z => z⟩
  refine ⟨δ1, (v, a) :: τ, fs, M1, r1, Res.post_mono (bnd_post q1) (fun ts δ2 M2 q2 vs H2 hl r2 => ?_) fun _ _ _ z => z.push⟩
  exact q2 (v :: vs) H2 (by simp [hl]) r2
end
section
variable {K : KF} {H G : Hp} {ow : Addr → Option Who} {ι : List Addr} {σ : St} {δ : DL.Env} {τ : List (V × T)} {fs : List Fram} {M : Mem}
theorem atL_nth {vs : List V} {ds : List D} (a : AtL K G vs ds) : ∀ π : List Nat, AtL K G (perm π vs) (perm π ds)
  | [] => rfl
  | i :: π => by
    unfold perm
    cases e : ds[i]? with
    | none =>
      have : vs[i]? = none := List.getElem?_eq_none (by rw [a.length]; exact List.getElem?_eq_none_iff.mp e)
      simp only [List.filterMap_cons, e, this]
      exact atL_nth a π
    | some d =>
      obtain ⟨v, ev, r⟩ := a.get e
      simp only [List.filterMap_cons, e, ev]
      exact ⟨v, _, rfl, r, atL_nth a π⟩
theorem rz_stack : ∀ {vs : List V} {ds : List D}, RepG K H G ow ι (⟨σ, δ, τ⟩ :: fs) M → AtL K G vs ds → RepG K H G ow ι (⟨σ, δ, rz vs (ds.map T.d) τ⟩ :: fs) M := by
  intro vs ds
  induction ds generalizing vs τ with
  | nil => intro h a; rw [show vs = [] from a]; exact h
  | cons d ds ih =>
    rintro h ⟨v, r, e, a1, a2⟩
    subst e
    exact ih (h.push (t := .d d) a1) a2
theorem allD_of : ∀ {ts : List T}, ts.all (fun t => match t with | .d _ => true | _ => false) = true → ∃ ds, allD ts = some ds ∧ ts = ds.map T.d
  | [], _ => ⟨[], rfl, rfl⟩
  | t :: ts, h => by
    rw [List.all_cons, Bool.and_eq_true] at h
    obtain ⟨ds, e1, e2⟩ := allD_of h.2
    cases t with
    | d x => exact ⟨x :: ds, by simp [allD, e1], by rw [e2]; rfl⟩
    | _ => cases h.1
theorem perm_map {α β : Type} (f : α → β) (l : List α) : ∀ π : List Nat, perm π (l.map f) = (perm π l).map f
  | [] => rfl
  | i :: π => by
    unfold perm
    have := perm_map f l π
    unfold perm at this
    simp only [List.getElem?_map] at this
    cases e : l[i]? <;> simp [List.filterMap_cons, e, this]
end
section
variable {X : Cx} {W : WX} {k n : Nat} {f : Addr} {fd : FuncData} {ps ks : List Str} {sp : Sp} {x : Str} {p pos : Pos} {e : Expr} {es : List Expr} {kws : List Keyword} {g : Fm} {σ : St} {H : Hp} {Q : VK} {fa : Sm (List T)}
structure CalK (P : Program) (w : World) (K : KF) (mg : Str → Option Value) (base : Heap) (k : Nat) (x : Str) (n : Nat) (ks : List Str) (π : List Nat) (g : Fm) : Prop where
  ex : ∃ (f : Addr) (fd : FuncData) (ps : List Str), ps.length = n ∧ FnG P w K mg base k f fd ps (spG K n g) ∧ mg x = some (.ref f) ∧ PySem.W.keepIn K (.ref f) = true ∧
    ∀ (s : Shared) (ws : List Value), ws.length = n → BindsTo s fd ⟨[], ks.zip ws⟩ (ps.zip (perm π ws))
theorem CalK.mono {P : Program} {w : World} {K : KF} {mg : Str → Option Value} {base : Heap} {j k : Nat} {x : Str} {n : Nat} {ks : List Str} {π : List Nat} {g : Fm} (c : CalK P w K mg base j x n ks π g) (h : j ≤ k) : CalK P w K mg base k x n ks π g :=
  let ⟨f, fd, ps, a, F, b⟩ := c.ex; ⟨f, fd, ps, a, F.mono h, b⟩
theorem qe_callK {π : List Nat} (c : CalK X.prog X.w X.K X.mg X.base k x n ks π g) (hr : Room k X.A) (hgd : X.A.guards = some []) (tk : Takes X W) (hg : Gl X x) (ha : QK X W kws fa) (hlen : ∀ δ M ts δ' M', fa δ M = .ok ts δ' M' → ts.length = n) (hπ : ∀ l : List T, l.length = n → (perm π l).length = n)
    (hall : (backToKw pos (keywordEach kws X.env)).all (·.1.isSome) = true := by rfl) (hks : (backToKw pos (keywordEach kws X.env)).filterMap (·.1) = ks := by rfl)
    (hdb : (x == ("__debug__" : Str)) = false := by decide) (hpl : ((backTo pos (starEach [] X.env)).any (·.1) || (backToKw pos (keywordEach kws X.env)).any (·.1.isNone)) = false := by rfl) :
    QE X W (.Call (.Name x p) [] kws pos) (mCallK π g fa) := by
  obtain ⟨f, fd, ps, hp, F, hm, hk, hb⟩ := c.ex
  refine ⟨fun pins s σ H Q I h => wpAny_Call_Name_kw (ld_glob I hg hm ?_ hdb)⟩
  have h2 : tA X.K W fa σ H fun vs H1 => vs.length = n ∧ spG X.K n g (perm π vs) H1 Q fun c d H' => W c d σ H' := by
    obtain ⟨δ, τ, fs, M, r, q⟩ := h
    have q' := bnd_post q
    refine ⟨δ, τ, fs, M, r, ?_⟩
    cases ef : fa δ M with
    | ok ts δ1 M1 =>
      rw [ef] at q'
      have hn := hlen _ _ _ _ _ ef
      refine fun vs H1 hl r1 => ⟨hl.trans hn, ?_⟩
      have q2 : (if ts.all (fun t => match t with | .d _ => true | _ => false) = true then (match g (perm π ts) M1 with
          | .ok r _ M' => if r.isBor = true then Res.bad else .ok r δ1 M'
          | .ex e _ M' => .ex e δ1 M'
          | .bad => .bad) else Res.bad).post (fun r δ' M' => ∀ v H', Rep X.K H' (⟨σ, δ', (v, r) :: τ⟩ :: fs) M' → Q v H') (wX X.K W σ τ fs) := q'
      split at q2
      · rename_i hd
        obtain ⟨ds, e1, e2⟩ := allD_of hd
        obtain ⟨G, ow, ι, y, al⟩ := r1.pops hl e1
        have r2 : Rep X.K H1 (⟨σ, δ1, rz (perm π vs) (perm π ts) τ⟩ :: fs) M1 := by
          refine ⟨G, ow, ι, ?_⟩
          rw [e2, perm_map]
          exact rz_stack y (atL_nth al π)
        have hl2 : (perm π vs).length = (perm π ts).length := by
          have a := (atL_nth al π).length
          rw [e2, perm_map, List.length_map]; exact a
        refine call_sp hl2 (hπ _ hn) r2 ?_
        rw [if_pos]
        · exact q2
        · rw [e2, perm_map]; simp [T.isBor]
      · exact q2.elim
    | ex a b c => rw [ef] at q'; exact q'
    | bad => rw [ef] at q'; exact q'
  refine PySem.W.callWith_KW0 (h₀ := X.base) I.ok.mod.kin hk hall (thn (ha.run pos pins s σ H _ I h2) fun ws s1 ⟨zs, H1, J, r, hz, q⟩ => ⟨J.kIn, ?_⟩) hpl
  rw [hks]
  have hw : ws.length = n := r.length.symm.trans hz
  exact run_G F hr hgd tk J (hb s1 ws hw) (vals_perm r π) q
end
end DL

end
section
namespace DL
open PySem PySem.Spec L2
open PyProof.Rows (envOfC)
/-! ### a comprehension's block as a frame of its own -/
def wipeE (δ : DL.Env) : List Nat → DL.Env
  | [] => δ
  | v :: vs => (wipeE δ vs).set v none
def mergeE (δ δ' : DL.Env) : List Nat → DL.Env
  | [] => δ'
  | v :: vs => (mergeE δ δ' vs).set v ((δ[v]?).getD none)
theorem wipeE_length (δ : DL.Env) : ∀ vs, (wipeE δ vs).length = δ.length
  | [] => rfl
  | v :: vs => by unfold wipeE; rw [List.length_set, wipeE_length δ vs]
theorem mergeE_length (δ δ' : DL.Env) : ∀ vs, (mergeE δ δ' vs).length = δ'.length
  | [] => rfl
  | v :: vs => by unfold mergeE; rw [List.length_set, mergeE_length δ δ' vs]
theorem wipe_at {σ : St} {i : Nat} : ∀ {vs : List Nat}, (wipe σ vs)[i]? = if i ∈ vs then (σ[i]?).map (fun _ => none) else σ[i]?
  | [] => by simp [wipe]
  | v :: vs => by
    unfold wipe
    by_cases h : v = i
    · subst h
      rw [List.getElem?_set_self']
      simp [wipe_at (vs := vs)]
      split <;> cases σ[v]? <;> rfl
    · rw [List.getElem?_set_ne h, wipe_at (vs := vs)]
      by_cases h2 : i ∈ vs
      · simp [h2]
      · simp [h2, show ¬ i = v from fun e => h e.symm]
theorem wipeE_at {δ : DL.Env} {i : Nat} : ∀ {vs : List Nat}, (wipeE δ vs)[i]? = if i ∈ vs then (δ[i]?).map (fun _ => none) else δ[i]?
  | [] => by simp [wipeE]
  | v :: vs => by
    unfold wipeE
    by_cases h : v = i
    · subst h
      rw [List.getElem?_set_self']
      simp [wipeE_at (vs := vs)]
      split <;> cases δ[v]? <;> rfl
    · rw [List.getElem?_set_ne h, wipeE_at (vs := vs)]
      by_cases h2 : i ∈ vs
      · simp [h2]
      · simp [h2, show ¬ i = v from fun e => h e.symm]
theorem mergeE_at {δ δ' : DL.Env} (hl : δ.length = δ'.length) {i : Nat} : ∀ {vs : List Nat}, (mergeE δ δ' vs)[i]? = if i ∈ vs then δ[i]? else δ'[i]?
  | [] => by simp [mergeE]
  | v :: vs => by
    unfold mergeE
    by_cases h : v = i
    · subst h
      rw [List.getElem?_set_self']
      have e : (mergeE δ δ' vs).length = δ.length := by rw [mergeE_length, hl]
      by_cases hv : v < δ.length
      · have e2 : (mergeE δ δ' vs)[v]? = some ((mergeE δ δ' vs)[v]'(by omega)) := List.getElem?_eq_getElem (by omega)
        have e3 : δ[v]? = some δ[v] := List.getElem?_eq_getElem hv
        rw [e2, e3]; simp
      · have e2 : (mergeE δ δ' vs)[v]? = none := List.getElem?_eq_none (by omega)
        have e3 : δ[v]? = none := List.getElem?_eq_none (by omega)
        rw [e2, e3]; simp
    · rw [List.getElem?_set_ne h, mergeE_at hl (vs := vs)]
      by_cases h2 : i ∈ vs
      · simp [h2]
      · simp [h2, show ¬ i = v from fun e => h e.symm]
def onlyE (δ : DL.Env) (vs : List Nat) : DL.Env := (List.range δ.length).map fun i => if i ∈ vs then (δ[i]?).getD none else none
theorem onlyE_at {δ : DL.Env} {vs : List Nat} {i : Nat} {t : T} (h : (onlyE δ vs)[i]? = some (some t)) : i ∈ vs ∧ δ[i]? = some (some t) := by
  unfold onlyE at h
  rw [List.getElem?_map] at h
  by_cases hi : i < δ.length
  · rw [List.getElem?_range hi] at h
    simp only [Option.map_some, Option.some.injEq] at h
    split at h
    · rename_i hm
      refine ⟨hm, ?_⟩
      rw [List.getElem?_eq_getElem hi] at h ⊢
      simp at h
      rw [h]
    · cases h
  · rw [List.getElem?_eq_none (by simpa using hi)] at h; cases h
theorem onlyE_of {δ : DL.Env} {vs : List Nat} {i : Nat} {t : T} (hm : i ∈ vs) (h : δ[i]? = some (some t)) : (onlyE δ vs)[i]? = some (some t) := by
  unfold onlyE
  have hi := (List.getElem?_eq_some_iff.mp h).1
  rw [List.getElem?_map, List.getElem?_range hi]
  simp [hm, h]
variable {K : KF} {H G : Hp} {ow : Addr → Option Who} {ι : List Addr} {σ : St} {δ : DL.Env} {τ τ1 : List (V × T)} {fs : List Fram} {M : Mem} {v u : V} {t : T}
def reIn (n m : Nat) (vs : List Nat) : Who → Who
  | .tmp k j => if k = n ∧ m ≤ j then .tmp (n + 1) (j - m) else .tmp k j
  | .slot k i => if k = n ∧ i ∉ vs then .slot (n + 1) i else .slot k i
  | w => w
theorem low_reIn {n m : Nat} {vs : List Nat} {w : Who} (h : w.Low n) : reIn n m vs w = w := by
  cases w with
  | slot k i => exact if_neg (fun z => absurd (show k < n from h) (by omega))
  | tmp k j => exact if_neg (fun z => absurd (show k < n from h) (by omega))
  | cell c => rfl
theorem RTs.split {k k' m : Nat} {ow' : Addr → Option Who} {σ' : St} (hn : ∀ j a, ow a = some (.tmp k (m + j)) → ow' a = some (.tmp k' j)) : ∀ {τ1 : List (V × T)}, τ.length = m → NB τ1 → RTs K H G ow ι σ k (τ1 ++ τ) → RTs K H G ow' ι σ' k' τ1
  | [], _, _, _ => trivial
  | q :: τ1, hm, nb, ⟨h1, h2⟩ => by
    refine ⟨h1.keep (Same.refl _) (fun a qa => ⟨?_, rfl⟩) (fun _ _ q => q) (fun i hi _ => ?_), RTs.split hn hm (fun p hp => nb p (by simp [hp])) h2⟩
    · refine hn _ a ?_
      rw [qa]
      have : (τ1.append τ).length = m + τ1.length := by
        show (τ1 ++ τ).length = _
        simp [hm]; omega
      rw [this]
    · have := nb q (by simp)
      rw [hi] at this; cases this
theorem RTs.low {k : Nat} : ∀ {τ1 : List (V × T)}, RTs K H G ow ι σ k (τ1 ++ τ) → RTs K H G ow ι σ k τ
  | [], h => h
  | _ :: _, ⟨_, h⟩ => RTs.low h
theorem Rep.blockIn (vs : List Nat) (h : Rep K H (⟨σ, δ, τ1 ++ τ⟩ :: fs) M) (nb : NB τ1) : Rep K H (⟨wipe σ vs, wipeE δ vs, τ1⟩ :: ⟨σ, onlyE δ vs, τ⟩ :: fs) M := by
  obtain ⟨G, ow, ι, x⟩ := h
  have len : σ.length = δ.length := x.frs.1.len
  refine ⟨G, fun a => (ow a).map (reIn fs.length τ.length vs), ι, ⟨x.sub, fun a w e => ?_, x.lenM, fun n c ec => ?_, ⟨by rw [wipe_length, wipeE_length]; exact len, fun j u ej => ?_, ?_⟩, ⟨by show σ.length = (onlyE δ vs).length; unfold onlyE; simp [len], fun j u ej => ?_, ?_⟩, ?_⟩⟩
  · cases q : ow a with
    | none => rw [q] at e; cases e
    | some w1 => exact x.own a w1 q
  · obtain ⟨a, q1, q2, q3⟩ := x.cells n c ec
    exact ⟨a, q1, by rw [q2]; rfl, q3⟩
  · have ej' : (wipeE δ vs)[j]? = some (some u) := ej
    rw [wipeE_at] at ej'
    split at ej'
    · cases e : δ[j]? <;> (rw [e] at ej'; cases ej')
    · rename_i hj
      obtain ⟨nu, v, e, r⟩ := x.slots_of ej'
      refine ⟨nu, v, by show (wipe σ vs)[j]? = _; rw [wipe_at, if_neg hj]; exact e, r.keep (Same.refl _) (fun a q => ⟨?_, rfl⟩) (fun _ _ q => q) (fun k hk _ => ?_)⟩
      · rw [q]; exact congrArg some (if_pos ⟨rfl, hj⟩ : reIn fs.length τ.length vs (.slot fs.length j) = _)
      · rw [hk] at nu; cases nu
  · refine RTs.split (m := τ.length) (fun j a q => ?_) rfl nb x.frs.1.tmps
    rw [q]
    refine congrArg some ((if_pos ⟨rfl, Nat.le_add_right _ _⟩ : reIn fs.length τ.length vs (.tmp fs.length (τ.length + j)) = _).trans ?_)
    rw [Nat.add_sub_cancel_left]; rfl
  · obtain ⟨hj, ed⟩ := onlyE_at ej
    obtain ⟨nu, v, e, r⟩ := x.slots_of ed
    refine ⟨nu, v, e, r.keep (Same.refl _) (fun a q => ⟨?_, rfl⟩) (fun _ _ q => q) (fun _ _ q => q)⟩
    rw [q]; exact congrArg some (if_neg (fun z => z.2 hj) : reIn fs.length τ.length vs (.slot fs.length j) = _)
  · refine x.frs.1.tmps.low.keep (Same.refl _) (fun j hj a q => ⟨?_, rfl⟩) (fun _ _ q => q) (fun _ _ _ _ q => q)
    rw [q]; exact congrArg some (if_neg (fun z => absurd (show j < τ.length from hj) (by omega)) : reIn fs.length τ.length vs (.tmp fs.length j) = _)
  · refine x.frs.2.keep (Same.refl _) (fun w hl a q => ⟨?_, rfl⟩) (fun _ _ q => q)
    rw [q]; exact congrArg some (low_reIn hl)
def reOut (n m : Nat) (vs : List Nat) : Who → Who
  | .tmp k j => if k = n + 1 ∧ j = 0 then .tmp n m else .tmp k j
  | .slot k i => if k = n + 1 ∧ i ∉ vs then .slot n i else .slot k i
  | w => w
theorem Rep.blockOut {vs : List Nat} {σ1 : St} {δ1 : DL.Env} (h : Rep K H (⟨σ1, δ1, [(v, t)]⟩ :: ⟨σ, onlyE δ vs, τ⟩ :: fs) M) (nt : t.isBor = false) (hσ : ∀ i, i ∉ vs → σ1[i]? = σ[i]?) (hl : δ.length = δ1.length) (hl2 : σ.length = δ.length) : Rep K H (⟨σ, mergeE δ δ1 vs, (v, t) :: τ⟩ :: fs) M := by
  obtain ⟨G, ow, ι, x⟩ := h
  refine ⟨G, fun a => (ow a).map (reOut fs.length τ.length vs), ι, ⟨x.sub, fun a w e => ?_, x.lenM, fun n c ec => ?_, ⟨by rw [mergeE_length]; exact hl2.trans hl, fun j u ej => ?_, ?_, ?_⟩, ?_⟩⟩
  · cases q : ow a with
    | none => rw [q] at e; cases e
    | some w1 => exact x.own a w1 q
  · obtain ⟨a, q1, q2, q3⟩ := x.cells n c ec
    exact ⟨a, q1, by rw [q2]; rfl, q3⟩
  · have ej' : (mergeE δ δ1 vs)[j]? = some (some u) := ej
    rw [mergeE_at hl] at ej'
    split at ej'
    · rename_i hj
      obtain ⟨nu, v, e, r⟩ := x.frs.2.1.slots j u (onlyE_of hj ej')
      refine ⟨nu, v, e, r.keep (Same.refl _) (fun a q => ⟨?_, rfl⟩) (fun _ _ q => q) (fun _ _ q => q)⟩
      rw [q]; exact congrArg some (if_neg (fun z => by omega) : reOut fs.length τ.length vs (.slot fs.length j) = _)
    · rename_i hj
      obtain ⟨nu, v, e, r⟩ := x.frs.1.slots j u ej'
      refine ⟨nu, v, (hσ j hj).symm.trans e, r.keep (Same.refl _) (fun a q => ⟨?_, rfl⟩) (fun _ _ q => q) (fun k hk _ => ?_)⟩
      · rw [q]; exact congrArg some (if_pos ⟨rfl, hj⟩ : reOut fs.length τ.length vs (.slot (fs.length + 1) j) = _)
      · rw [hk] at nu; cases nu
  · refine RT.keep (Same.refl _) (fun a q => ⟨?_, rfl⟩) (fun _ _ q => q) (fun i hi _ => ?_) x.top
    · rw [q]; exact congrArg some (if_pos ⟨rfl, rfl⟩ : reOut fs.length τ.length vs (.tmp (fs.length + 1) 0) = _)
    · have hi' : t = .bor i := hi
      rw [hi'] at nt; cases nt
  · refine x.frs.2.1.tmps.keep (Same.refl _) (fun j hj a q => ⟨?_, rfl⟩) (fun _ _ q => q) (fun _ _ _ _ q => q)
    rw [q]; exact congrArg some (if_neg (fun z => by omega) : reOut fs.length τ.length vs (.tmp fs.length j) = _)
  · refine x.frs.2.2.keep (Same.refl _) (fun w hl a q => ⟨?_, rfl⟩) (fun _ _ q => q)
    rw [q]
    cases w with
    | slot k i => exact congrArg some (if_neg (fun z => absurd (show k < fs.length from hl) (by omega)) : reOut fs.length τ.length vs (.slot k i) = _)
    | tmp k j => exact congrArg some (if_neg (fun z => absurd (show k < fs.length from hl) (by omega)) : reOut fs.length τ.length vs (.tmp k j) = _)
    | cell c => rfl
/-- the slots at vs forgotten -/
theorem Rep.scrub {vs : List Nat} (h : Rep K H (⟨σ, δ, τ⟩ :: fs) M) (nb : NB τ) : Rep K H (⟨wipe σ vs, wipeE δ vs, τ⟩ :: fs) M := by
  obtain ⟨G, ow, ι, x⟩ := h
  refine ⟨G, ow, ι, ⟨x.sub, x.own, x.lenM, x.cells, ⟨by rw [wipe_length, wipeE_length]; exact x.frs.1.len, fun j u ej => ?_, ?_⟩, x.frs.2⟩⟩
  · have ej' : (wipeE δ vs)[j]? = some (some u) := ej
    rw [wipeE_at] at ej'
    split at ej'
    · cases e : δ[j]? <;> (rw [e] at ej'; cases ej')
    · rename_i hj
      obtain ⟨nu, v, e, r⟩ := x.slots_of ej'
      refine ⟨nu, v, by show (wipe σ vs)[j]? = _; rw [wipe_at, if_neg hj]; exact e, r.env fun k hk => ?_⟩
      rw [hk] at nu; cases nu
  · refine x.frs.1.tmps.keep (Same.refl _) (fun _ _ _ q => ⟨q, rfl⟩) (fun _ _ q => q) (fun p hp k hk => ?_)
    have := nb p hp
    rw [hk] at this; cases this
/-- two temporaries exchanged -/
def reSwap (n m : Nat) : Who → Who
  | .tmp k j => if k = n ∧ j = m then .tmp n (m + 1) else if k = n ∧ j = m + 1 then .tmp n m else .tmp k j
  | w => w
theorem Rep.swap {p q : V × T} (h : Rep K H (⟨σ, δ, p :: q :: τ⟩ :: fs) M) : Rep K H (⟨σ, δ, q :: p :: τ⟩ :: fs) M := by
  obtain ⟨G, ow, ι, x⟩ := h
  have y := x.pop.pop
  refine ⟨G, fun a => (ow a).map (reSwap fs.length τ.length), ι, ⟨x.sub, fun a w e => ?_, x.lenM, fun n c ec => ?_, ⟨x.frs.1.len, fun j u ej => ?_, ?_, ?_, ?_⟩, ?_⟩⟩
  · cases z : ow a with
    | none => rw [z] at e; cases e
    | some w1 => exact x.own a w1 z
  · obtain ⟨a, q1, q2, q3⟩ := x.cells n c ec
    exact ⟨a, q1, by rw [q2]; rfl, q3⟩
  · obtain ⟨nu, v, e, r⟩ := y.slots_of ej
    exact ⟨nu, v, e, r.keep (Same.refl _) (fun a z => ⟨by rw [z]; rfl, rfl⟩) (fun _ _ q => q) (fun _ _ q => q)⟩
  · refine x.pop.top.keep (Same.refl _) (fun a z => ⟨?_, rfl⟩) (fun _ _ q => q) (fun _ _ q => q)
    rw [z]; exact congrArg some (if_pos ⟨rfl, rfl⟩ : reSwap fs.length τ.length (.tmp fs.length τ.length) = _)
  · refine x.top.keep (Same.refl _) (fun a z => ⟨?_, rfl⟩) (fun _ _ q => q) (fun _ _ q => q)
    rw [z]; exact congrArg some ((if_neg (fun z => by have := z.2; simp at this) : reSwap fs.length τ.length (.tmp fs.length (τ.length + 1)) = _).trans (if_pos ⟨rfl, rfl⟩))
  · refine y.frs.1.tmps.keep (Same.refl _) (fun j hj a z => ⟨?_, rfl⟩) (fun _ _ q => q) (fun _ _ _ _ q => q)
    have hj' : j < τ.length := hj
    rw [z]; exact congrArg some ((if_neg (fun z => by omega) : reSwap fs.length τ.length (.tmp fs.length j) = _).trans (if_neg (fun z => by omega)))
  · refine y.frs.2.keep (Same.refl _) (fun w hl a z => ⟨?_, rfl⟩) (fun _ _ q => q)
    rw [z]
    cases w with
    | slot k i => rfl
    | tmp k j =>
      have hk : k < fs.length := hl
      exact congrArg some ((if_neg (fun z => by omega) : reSwap fs.length τ.length (.tmp k j) = _).trans (if_neg (fun z => by omega)))
    | cell c => rfl
/-- the list on top grows by the datum above it -/
theorem Rep.snoc {a : Addr} {acc : List D} {y : D} {w : V} {vs : List V} (h : Rep K H (⟨σ, δ, (w, .d y) :: (.ref a, .con (.lst acc)) :: τ⟩ :: fs) M) (ha : H a = some (.lst vs)) : Rep K (upd H a (.lst (vs ++ [w]))) (⟨σ, δ, (.ref a, .con (.lst (acc ++ [y]))) :: τ⟩ :: fs) M := by
  obtain ⟨G, ow, ι, x⟩ := h
  have aw : At K G w y := x.top
  obtain ⟨b, eb, ob, vs', hb, al⟩ := x.pop.top
  cases eb
  rw [ha] at hb; cases hb
  have gb := (x.own a _ ob).1
  refine ⟨G, ow, ι, RepG.push (x.pop.pop.chg (fun w => w = .tmp fs.length τ.length) (fun w e => ⟨_, e, Nat.le_refl _⟩) (fun b w e nb => ⟨e, upd_ne ?_⟩) (Same.refl _) (fun b u e => ?_) (fun b w e => ?_)) ?_⟩
  · intro z; subst z; rw [ob] at e; cases e; exact nb rfl
  · by_cases hba : b = a
    · subst hba; rw [gb] at e; cases e
    · rw [upd_ne hba]; exact x.sub _ _ e
  · refine ⟨(x.own b w e).1, ?_⟩
    by_cases hba : b = a
    · subst hba; exact ⟨_, upd_same⟩
    · rw [upd_ne hba]; exact (x.own b w e).2
  · exact ⟨a, rfl, ob, vs ++ [w], upd_same, al.app (AtL.one aw)⟩
end DL

end
section
namespace DL
open PySem PySem.Spec L2
variable {X : Cx} {W : WX} {K : KF} {H G : Hp} {σ : St} {δ : DL.Env} {τ : List (V × T)} {fs : List Fram} {M : Mem} {v u : V} {t : T} {e : Expr} {pos : Pos}
/-- no exception -/
abbrev WF : WX := fun _ _ _ _ => False
/-- a comprehension's target: what the other names hold stays -/
def tGw (K : KF) (vs : List Nat) (f : T → Sm Unit) : TG := fun v σ H Q => ∃ t δ τ fs M, t.isBor = false ∧ NB τ ∧ Rep K H (⟨σ, δ, (v, t) :: τ⟩ :: fs) M ∧ (f t δ M).post (fun _ δ' M' => ∀ σ' H', wipe σ' vs = wipe σ vs → Rep K H' (⟨σ', δ', τ⟩ :: fs) M' → Q σ' H') fun _ _ _ => False
abbrev QGw (X : Cx) (vs : List Nat) (tg : Expr) (f : T → Sm Unit) : Prop := PG X tg (tGw X.K vs f)
theorem wipe_set {σ : St} {i : Nat} {o : Option V} : ∀ {vs : List Nat}, i ∈ vs → wipe (σ.set i o) vs = wipe σ vs := by
  intro vs hi
  apply List.ext_getElem?
  intro j
  rw [wipe_at, wipe_at]
  by_cases hj : j ∈ vs
  · rw [if_pos hj, if_pos hj]
    by_cases h : i = j
    · subst h
      rw [List.getElem?_set_self']
      cases σ[i]? <;> rfl
    · rw [List.getElem?_set_ne h]
  · rw [if_neg hj, if_neg hj, List.getElem?_set_ne (fun e => hj (by rw [← e]; exact hi))]
def mNm (i : Nat) : T → Sm Unit := fun t δ M => if i < δ.length then .ok () (δ.set i (some t)) M else .bad
theorem qgw_name {i : Nat} {x : Str} {vs : List Nat} (hN : X.N.Nodup) (hi : X.N[i]? = some x) (hv : i ∈ vs) (hx : Loc X.env.scope x) (hf : X.fn x = true ∨ X.env.scope.names.lookup x = some .local) : QGw X vs (.Name x pos) (mNm i) := by
  refine ⟨fun pins s σ H v u Q I r h => (pg_name hN hi hx hf).run pins s σ H v u Q I r ?_⟩
  obtain ⟨t, δ, τ, fs, M, nt, nb, rp, q⟩ := h
  unfold mNm at q
  split at q
  · rename_i hl
    exact q _ H (wipe_set hv) (rp.put nt nb (by rw [rp.len]; exact hl))
  · exact q.elim
def tGws (K : KF) (vs : List Nat) (f : List D → Sm Unit) : TGs := fun us σ H Q => ∃ ds δ τ fs M, us.length = ds.length ∧ NB τ ∧ Rep K H (⟨σ, δ, stack us ds τ⟩ :: fs) M ∧ (f ds δ M).post (fun _ δ' M' => ∀ σ' H', wipe σ' vs = wipe σ vs → Rep K H' (⟨σ', δ', τ⟩ :: fs) M' → Q σ' H') fun _ _ _ => False
abbrev QGws (X : Cx) (vs : List Nat) (ts : List Expr) (f : List D → Sm Unit) : Prop := PGs X ts (tGws X.K vs f)
def mGn : List D → Sm Unit := fun ds => if ds.isEmpty = true then ret () else fail
def mGc (f : T → Sm Unit) (g : List D → Sm Unit) : List D → Sm Unit := fun ds => match ds with
  | [] => fail
  | d :: r => bnd (f (.d d)) fun _ => g r
def mGt (n : Nat) (g : List D → Sm Unit) : T → Sm Unit := fun t => match t with
  | .d (.tuple ds) => if ds.length = n then g ds else fail
  | _ => fail
theorem qgws_nil {vs : List Nat} : QGws X vs [] mGn := by
  refine ⟨fun pins s σ H us uu Q I r h => pgs_nil.run pins s σ H us uu Q I r ?_⟩
  obtain ⟨ds, δ, τ, fs, M, hl, nb, rp, q⟩ := h
  cases ds with
  | nil =>
    cases us with
    | nil => exact ⟨rfl, q σ H rfl rp⟩
    | cons _ _ => simp at hl
  | cons _ _ => exact q.elim
theorem qgws_cons {vs : List Nat} {es : List Expr} {f : T → Sm Unit} {g : List D → Sm Unit} (h1 : QGw X vs e f) (h2 : QGws X vs es g) (hs : (assignEach (e :: es) X.env).map (·.2) = assign e X.env :: (assignEach es X.env).map (·.2)) : QGws X vs (e :: es) (mGc f g) := by
  refine ⟨fun pins s σ H us uu Q I r h => (pgs_cons h1 h2 hs).run pins s σ H us uu Q I r ?_⟩
  obtain ⟨ds, δ, τ, fs, M, hl, nb, rp, q⟩ := h
  cases ds with
  | nil => exact q.elim
  | cons d ds =>
    cases us with
    | nil => simp at hl
    | cons v us =>
      refine ⟨v, us, rfl, .d d, δ, stack us ds τ, fs, M, rfl, nb.stack, rp, ?_⟩
      refine Res.post_mono (bnd_post q) (fun _ δ1 M1 q1 σ1 H1 ew r1 => ?_) fun _ _ _ z => z
      exact ⟨ds, δ1, τ, fs, M1, by simpa using hl, nb, r1, Res.post_mono q1 (fun _ δ2 M2 q2 σ2 H2 ew2 r2 => q2 σ2 H2 (ew2.trans ew) r2) fun _ _ _ z => z⟩
theorem qgw_tup {vs : List Nat} {es : List Expr} {k n : Nat} {g : List D → Sm Unit} (hc : X.calm = true) (h : QGws X vs es g) (hn : (assignEach es X.env).length = n) (hst : (assignEach es X.env).findIdx? (·.1) = none) : QGw X vs (.Tuple es k pos) (mGt n g) := by
  refine ⟨fun pins s σ H v u Q I r h' => (pg_tup hc h hn hst).run pins s σ H v u Q I r ?_⟩
  obtain ⟨t, δ, τ, fs, M, nt, nb, rp, q⟩ := h'
  cases t with
  | d x =>
    cases x with
    | tuple ds =>
      unfold mGt at q
      simp only at q
      split at q
      · rename_i hl
        obtain ⟨G, ow, ι, y⟩ := rp
        obtain ⟨a, us, e, sq, al⟩ := y.top
        have hlen := al.length
        exact ⟨a, us, e, SqT.grow y.sub sq, by omega, ds, δ, τ, fs, M, hlen, nb, ⟨G, ow, ι, y.pop.pushAll al⟩, q⟩
      · exact q.elim
    | _ => exact q.elim
  | _ => exact q.elim

/-! ### [elt for tg in .. if ..] -/
def lcF (vs : List Nat) (tg : T → Sm Unit) (tt : Sm Bool) (te : Sm T) : List D → List D → Sm (List D)
  | [], acc => ret acc
  | d :: ds, acc => fun δ M =>
    match tg (.d d) δ M with
    | .ok _ δ1 M1 => (bnd tt fun b => if b = true then bnd (bnd te mFrz) fun t => (match t with
        | .d y => fun δ2 M2 => lcF vs tg tt te ds (acc ++ [y]) (wipeE δ2 vs) M2
        | _ => fail) else fun δ2 M2 => lcF vs tg tt te ds acc (wipeE δ2 vs) M2) δ1 M1
    | _ => .bad
def lcEnd (δ : DL.Env) (vs : List Nat) (r : Res (List D)) : Res T :=
  match r with
  | .ok acc δ' M' => if δ'.length = δ.length then .ok (.con (.lst acc)) (mergeE δ δ' vs) M' else .bad
  | _ => .bad
def mLc (vs : List Nat) (g : Sm (List D)) (tg : T → Sm Unit) (tt : Sm Bool) (te : Sm T) : Sm T := bnd g fun ds => fun δ M =>
  if ds.length ≤ 16000000 then
    lcEnd δ vs (lcF vs tg tt te ds [] (wipeE δ vs) M)
  else .bad
theorem lcEnd_post {δ : DL.Env} {vs : List Nat} {r : Res (List D)} {k2 : T → DL.Env → Mem → Prop} {x : XD → DL.Env → Mem → Prop} (q : (lcEnd δ vs r).post k2 x) : r.post (fun acc δ' M' => δ'.length = δ.length ∧ k2 (.con (.lst acc)) (mergeE δ δ' vs) M') fun _ _ _ => False := by
  cases r with
  | ok a δ' M => 
    unfold lcEnd at q
    simp only at q
    split at q
    · rename_i h; exact ⟨h, q⟩
    · exact q.elim
  | ex a b c => exact q
  | bad => exact q
/-- the list below the walked thing grows by the datum on top -/
theorem Rep.snoc2 {a : Addr} {acc : List D} {y : D} {w : V} {vs : List V} {tm : V × T} (h : Rep K H (⟨σ, δ, (w, .d y) :: tm :: (.ref a, .con (.lst acc)) :: τ⟩ :: fs) M) (ha : H a = some (.lst vs)) : Rep K (upd H a (.lst (vs ++ [w]))) (⟨σ, δ, tm :: (.ref a, .con (.lst (acc ++ [y]))) :: τ⟩ :: fs) M := by
  obtain ⟨G, ow, ι, x⟩ := h
  have aw : At K G w y := x.top
  obtain ⟨b, eb, ob, vs', hb, al⟩ := x.pop.pop.top
  cases eb
  rw [ha] at hb; cases hb
  have gb := (x.own a _ ob).1
  have rt := x.pop.top
  refine ⟨G, ow, ι, RepG.push (RepG.push (x.pop.pop.pop.chg (fun w => w = .tmp fs.length τ.length) (fun w e => ⟨_, e, Nat.le_refl _⟩) (fun b w e nb => ⟨e, upd_ne ?_⟩) (Same.refl _) (fun b u e => ?_) (fun b w e => ?_)) ?_) ?_⟩
  · intro z; subst z; rw [ob] at e; cases e; exact nb rfl
  · by_cases hba : b = a
    · subst hba; rw [gb] at e; cases e
    · rw [upd_ne hba]; exact x.sub _ _ e
  · refine ⟨(x.own b w e).1, ?_⟩
    by_cases hba : b = a
    · subst hba; exact ⟨_, upd_same⟩
    · rw [upd_ne hba]; exact (x.own b w e).2
  · exact ⟨a, rfl, ob, vs ++ [w], upd_same, al.app (AtL.one aw)⟩
  · refine rt.keep (Same.refl _) (fun b q => ⟨q, upd_ne ?_⟩) (fun _ _ q => q) (fun _ _ q => q)
    intro z; subst z
    rw [ob] at q
    have := Option.some.inj q
    injection this with _ e2
    simp at e2
theorem line16 {n : Nat} (h : n < 16000001) : n < sizeLine := Nat.lt_of_lt_of_le h (by decide)
theorem lc_rd {vs : List Nat} {g : Sm (List D)} {tg : T → Sm Unit} {tt : Sm Bool} {te : Sm T} {Q : VK} (q : tE K W (mLc vs g tg tt te) σ H Q) : tLc (tI K W g) (tGw K vs tg) (tT K WF tt) (tE K WF te) vs σ H Q := by
  obtain ⟨δ, τ, fs, M, r, q⟩ := q
  refine ⟨δ, τ, fs, M, r, Res.post_mono (bnd_post q) (fun ds δ1 M1 q1 J H1 tm ok r1 D hD => ?_) fun _ _ _ z => z⟩
  split at q1
  · rename_i hz
    -- the new list, then the block's frame
    have r2 : Rep K (upd H1 D (.lst [])) (⟨σ, δ1, (.ref D, .con (.lst [])) :: tm :: τ⟩ :: fs) M1 := Rep.newLst (let ⟨G, ow, ι, y⟩ := r1; ⟨G, ow, ι, y, AtL.nil⟩) hD
    have nb0 : NB [tm, (V.ref D, T.con (.lst []))] := NB.cons ok.nb (NB.cons rfl NB.nil)
    have r3 : Rep K (upd H1 D (.lst [])) (⟨wipe σ vs, wipeE δ1 vs, [tm, (.ref D, .con (.lst []))]⟩ :: ⟨σ, onlyE δ1 vs, τ⟩ :: fs) M1 := Rep.blockIn (τ1 := [tm, (.ref D, .con (.lst []))]) vs r2.swap nb0
    have hlen : σ.length = δ1.length := r1.len
    have q2 := lcEnd_post q1
    refine ⟨fun i m H => m = ds.length - i ∧ i ≤ ds.length ∧ ∃ acc δ' M', acc.length ≤ i ∧ Rep K H (⟨wipe σ vs, δ', [tm, (.ref D, .con (.lst acc))]⟩ :: ⟨σ, onlyE δ1 vs, τ⟩ :: fs) M' ∧
      (lcF vs tg tt te (ds.drop i) acc δ' M').post (fun acc δ' M' => δ'.length = δ1.length ∧ ∀ v H', Rep K H' (⟨σ, mergeE δ1 δ' vs, (v, .con (.lst acc)) :: τ⟩ :: fs) M' → Q v H') fun _ _ _ => False,
      ⟨_, rfl, Nat.zero_le _, [], _, _, Nat.le_refl _, r3, q2⟩, ?_⟩
    rintro i m H2 ⟨rfl, hi, acc, δ2, M2, hacc, r4, q4⟩
    obtain ⟨stop, step⟩ := ok.turn i H2 _ δ2 _ _ M2 r4
    by_cases hlt : i < ds.length
    · have ed : ds[i]? = some ds[i] := List.getElem?_eq_getElem hlt
      obtain ⟨go, yld⟩ := step _ ed
      rw [drop_cons' ed] at q4
      refine .inr ⟨go, fun H' => i + 1 ≤ ds.length ∧ ∃ acc δ' M', acc.length ≤ i + 1 ∧ Rep K H' (⟨wipe σ vs, δ', [tm, (.ref D, .con (.lst acc))]⟩ :: ⟨σ, onlyE δ1 vs, τ⟩ :: fs) M' ∧
        (lcF vs tg tt te (ds.drop (i + 1)) acc δ' M').post (fun acc δ' M' => δ'.length = δ1.length ∧ ∀ v H', Rep K H' (⟨σ, mergeE δ1 δ' vs, (v, .con (.lst acc)) :: τ⟩ :: fs) M' → Q v H') fun _ _ _ => False,
        fun H' n => ⟨ds.length - (i + 1), by omega, rfl, n.1, n.2⟩, fun x H' y => ?_⟩
      have r5 := yld x H' y
      have nb : NB [tm, (V.ref D, T.con (.lst acc))] := NB.cons ok.nb (NB.cons rfl NB.nil)
      unfold lcF at q4
      refine ⟨.d ds[i], δ2, [tm, (.ref D, .con (.lst acc))], _, M2, rfl, nb, r5, ?_⟩
      cases et : tg (.d ds[i]) δ2 M2 with
      | ex a b c => simp only [et] at q4; exact q4.elim
      | bad => simp only [et] at q4; exact q4.elim
      | ok _ δ3 M3 =>
        simp only [et] at q4
        refine fun σ3 H3 ew r6 => ⟨?_, δ3, [tm, (.ref D, .con (.lst acc))], _, M3, r6, Res.post_mono (bnd_post q4) (fun b δ4 M4 q5 H4 r7 => ?_) fun _ _ _ z => z.elim⟩
        · rw [ew]
          apply List.ext_getElem?
          intro j
          simp only [wipe_at]
          split
          · cases σ[j]? <;> rfl
          · rfl
        have ew2 : wipe σ3 vs = wipe σ vs := by
          rw [ew]
          apply List.ext_getElem?
          intro j
          simp only [wipe_at]
          split
          · cases σ[j]? <;> rfl
          · rfl
        cases b with
        | false =>
          have r8 := r7.scrub (vs := vs) nb
          rw [ew2] at r8
          exact ⟨hlt, acc, _, M4, by omega, r8, q5⟩
        | true =>
          simp only [if_true] at q5 ⊢
          have q6 := bnd_post (bnd_post q5)
          refine ⟨δ4, [tm, (.ref D, .con (.lst acc))], _, M4, r7, Res.post_mono (bnd_post (bnd_post q5)) (fun tv δ5 M5 q7 w H5 r8 => ?_) fun _ _ _ z => z.elim⟩
          cases ef : mFrz tv δ5 M5 with
          | ex a b c => rw [ef] at q7; exact q7.elim
          | bad => rw [ef] at q7; exact q7.elim
          | ok t2 δ6 M6 =>
            rw [ef] at q7
            have r9 := r8.frz ef
            cases t2 with
            | d y =>
              have hDl : ∃ us, H5 D = some (.lst us) ∧ us.length = acc.length := by
                obtain ⟨G, ow, ι, z⟩ := r9
                obtain ⟨b, eb, _, us, hb, al⟩ := z.pop.pop.top
                cases eb
                exact ⟨us, hb, al.length⟩
              obtain ⟨us, hus, hul⟩ := hDl
              refine ⟨us, hus, line16 (by omega), hlt, acc ++ [y], _, M6, by simp; omega, ?_, q7⟩
              have r10 := (r9.snoc2 hus).scrub (vs := vs) (NB.cons ok.nb (NB.cons rfl NB.nil))
              rw [ew2] at r10
              exact r10
            | _ => exact q7.elim
    · refine .inl ⟨stop (by omega), ?_⟩
      rw [List.drop_eq_nil_of_le (by omega)] at q4
      unfold lcF at q4
      exact q4.2 _ H2 (Rep.blockOut (σ1 := wipe σ vs) (Rep.swap r4).nip rfl (fun j hj => by rw [wipe_at, if_neg hj]) q4.1.symm hlen)
  · exact q1.elim
end DL

end
section
namespace DL
open PySem PySem.Spec L2
variable {X : Cx} {W : WX} {K : KF} {H G : Hp} {σ : St} {δ : DL.Env} {τ : List (V × T)} {fs : List Fram} {M : Mem} {v u : V} {t : T} {e : Expr} {pos : Pos}
theorem _root_.L2.PTs.imp {ifs : List Expr} {t t' : TT} (h : PTs X ifs t) (i : ∀ σ H Q, t' σ H Q → t σ H Q) : PTs X ifs t' := ⟨fun pins s σ H Q I q => h.run pins s σ H Q I (i _ _ _ q)⟩
abbrev QTs (X : Cx) (ifs : List Expr) (f : Sm Bool) : Prop := PTs X ifs (tT X.K WF f)
theorem qts_nil : QTs X [] (ret true) := pts_nil.imp fun σ H Q ⟨δ, τ, fs, M, r, q⟩ => q H r
theorem qts_one {c : Expr} {f : Sm Bool} (h : QT X WF c f) : QTs X [c] f := pts_one h
theorem qe_lc {elt tg iter : Expr} {ifs : List Expr} {scope : Scope} {own : List (Str × Nat)} {g : Sm (List D)} {f : T → Sm Unit} {tt : Sm Bool} {te : Sm T} (hc : X.calm = true) (hN : X.N.Nodup) (hi : QI X W tg iter g) (ok : BlkOk X.N X.env.scope scope own)
    (hg : ∀ (s : Shared) (H : Hp) (C : Addr) (cl : List (Str × Addr)) (fp : List Addr), QGw (X.blk s H scope (compEnvC scope cl C X.env) fp) (own.map (·.2)) tg f)
    (ht : ∀ (s : Shared) (H : Hp) (C : Addr) (cl : List (Str × Addr)) (fp : List Addr), QTs (X.blk s H scope (compEnvC scope cl C X.env) fp) ifs tt)
    (he : ∀ (s : Shared) (H : Hp) (C : Addr) (cl : List (Str × Addr)) (fp : List Addr), QE (X.blk s H scope (compEnvC scope cl C X.env) fp) WF elt te) (hs : ∀ x, foldedSetIterable iter X.env x = pure x := by intro _; rfl) :
    QE X W (.ListComp elt [⟨tg, iter, ifs, 0⟩] scope pos) (mLc (own.map (·.2)) g f tt te) :=
  (pe_lc hc hN hi ok hg ht he hs).imp fun _ _ _ q => lc_rd q
/-- name = [..] on one line -/
theorem qs_setLc {i : Nat} {y : Str} {py : Pos} {elt tg iter : Expr} {ifs : List Expr} {scope : Scope} {own : List (Str × Nat)} {spos : Pos} {g : Sm (List D)} {f : T → Sm Unit} {tt : Sm Bool} {te : Sm T} (hc : X.calm = true) (hN : X.N.Nodup) (hy : X.N[i]? = some y) (hyl : X.env.scope.names.lookup y = some .local)
    (hsw : swapsWith (.ListComp elt [⟨tg, iter, ifs, 0⟩] scope pos) (some (.Name y py)) spos.line X.env = pure true) (hi : QI X W tg iter g) (ok : BlkOk X.N X.env.scope scope own)
    (hg : ∀ (s : Shared) (H : Hp) (C : Addr) (cl : List (Str × Addr)) (fp : List Addr), QGw (X.blk s H scope (compEnvC scope cl C X.env) fp) (own.map (·.2)) tg f)
    (ht : ∀ (s : Shared) (H : Hp) (C : Addr) (cl : List (Str × Addr)) (fp : List Addr), QTs (X.blk s H scope (compEnvC scope cl C X.env) fp) ifs tt)
    (he : ∀ (s : Shared) (H : Hp) (C : Addr) (cl : List (Str × Addr)) (fp : List Addr), QE (X.blk s H scope (compEnvC scope cl C X.env) fp) WF elt te) (hs : ∀ x, foldedSetIterable iter X.env x = pure x := by intro _; rfl) :
    QS X W (.Assign [.Name y py] (.ListComp elt [⟨tg, iter, ifs, 0⟩] scope pos) spos) (mSet i (mLc (own.map (·.2)) g f tt te)) := by
  refine (ps_setLc (g := tGw X.K (own.map (·.2)) f) (tt := tT X.K WF tt) (te := tE X.K WF te) hc hN hy hyl hsw hi ok hg ht he hs).imp fun D σ H ⟨δ, τ, fs, M, nb, r, q⟩ => ?_
  refine lc_rd (W := W) ⟨δ, τ, fs, M, r, Res.post_mono (bnd_post q) (fun t δ1 M1 q1 v H1 r1 => ?_) fun _ _ _ z => xw z⟩
  obtain ⟨r', δ2, M2, e2, q2⟩ := mOwn_post (bnd_post q1)
  obtain ⟨r2, nb2⟩ := r1.own e2
  split at q2
  · rename_i hl
    exact q2 _ H1 (r2.put nb2 nb (by rw [r2.len]; exact hl))
  · exact q2.elim

/-! ### built-in functions -/
def mBlt (F : List T → Sm T) (fa : Sm (List T)) : Sm T := bnd fa F
/-- a built-in by what it says of the temporaries -/
def BltD (X : Cx) (W : WX) (r : List V → Hp → VK → Prop) (F : List T → Sm T) : Prop := ∀ (σ : St) (δ : DL.Env) (τ : List (V × T)) (fs : List Fram) (M : Mem) (H : Hp) (Q : VK) (vs : List V) (ts : List T), vs.length = ts.length → Rep X.K H (⟨σ, δ, rz vs ts τ⟩ :: fs) M →
  (F ts δ M).post (fun r δ' M' => ∀ v H', Rep X.K H' (⟨σ, δ', (v, r) :: τ⟩ :: fs) M' → Q v H') (fun _ _ _ => False) → r vs H Q
theorem blt_rd {r : List V → Hp → VK → Prop} {F : List T → Sm T} {fa : Sm (List T)} {Q : VK} (hF : BltD X W r F) (nx : ∀ ts δ M e δ' M', F ts δ M ≠ .ex e δ' M') (q : tE X.K W (mBlt F fa) σ H Q) : tCB r (tA X.K W fa) σ H Q := by
  obtain ⟨δ, τ, fs, M, rp, q⟩ := q
  exact ⟨δ, τ, fs, M, rp, Res.post_mono (bnd_post q) (fun ts δ1 M1 q1 vs H1 hl r1 => hF σ δ1 τ fs M1 H1 Q vs ts hl r1 (Res.noex q1 (nx ts δ1 M1))) fun _ _ _ z => z⟩
section
variable {x : Str} {p : Pos} {es : List Expr} {id T' : String} {r : List V → Hp → VK → Prop} {F : List T → Sm T} {fa : Sm (List T)}
theorem qe_blt (hc : CallR X (.builtin id) r) (hF : BltD X W r F) (nx : ∀ ts δ M e δ' M', F ts δ M ≠ .ex e δ' M') (hg : Gl X x) (hm : X.mg x = none) (hv : bootBuiltins x = some (.builtin id)) (ha : QA X W (e :: es) fa) (hn : x ≠ "__name__" := by decide) (hdb : (x == ("__debug__" : Str)) = false := by decide)
    (he : starEach (e :: es) X.env = (false, eval e X.env) :: starEach es X.env := by rfl) (hpl : (backTo pos (starEach es X.env)).any (·.1) = false := by rfl) : QE X W (.Call (.Name x p) (e :: es) [] pos) (mBlt F fa) :=
  (pe_callB hc hg hm hv ha hn hdb he hpl).imp fun _ _ _ q => blt_rd hF nx q
theorem qe_ty (hc : CallR X (.type T') r) (hF : BltD X W r F) (nx : ∀ ts δ M e δ' M', F ts δ M ≠ .ex e δ' M') (hg : Gl X x) (hm : X.mg x = none) (hv : bootBuiltins x = some (.type T')) (ha : QA X W (e :: es) fa) (hn : x ≠ "__name__" := by decide) (hdb : (x == ("__debug__" : Str)) = false := by decide)
    (he : starEach (e :: es) X.env = (false, eval e X.env) :: starEach es X.env := by rfl) (hpl : (backTo pos (starEach es X.env)).any (·.1) = false := by rfl) : QE X W (.Call (.Name x p) (e :: es) [] pos) (mBlt F fa) :=
  (pe_callTy hc hg hm hv ha hn hdb he hpl).imp fun _ _ _ q => blt_rd hF nx q
end
theorem opt_noex {α : Type} {o : Option α} {δ : DL.Env} {M : Mem} {e : XD} {δ' : DL.Env} {M' : Mem} : opt o δ M ≠ .ex e δ' M' := by
  intro h; unfold opt at h; split at h <;> cases h
/-- the answer a plain datum, of the arguments' data -/
def vws : List T → DL.Env → Mem → Option (List D)
  | [], _, _ => some []
  | t :: ts, δ, M => (vw t δ M).bind fun d => (vws ts δ M).map (d :: ·)
def mPl (F : List D → Option D) : List T → Sm T := fun ts δ M => opt (((vws ts δ M).bind F).bind fun z => if plain z = true then some (T.d z) else Option.none) δ M
theorem mPl_noex {F : List D → Option D} : ∀ ts δ M e δ' M', mPl F ts δ M ≠ .ex e δ' M' := fun _ _ _ _ _ _ => opt_noex
theorem rz_vw : ∀ {vs : List V} {ts : List T} {ds : List D}, vs.length = ts.length → Rep K H (⟨σ, δ, rz vs ts τ⟩ :: fs) M → vws ts δ M = some ds → ∃ G ow ι, RepG K H G ow ι (⟨σ, δ, τ⟩ :: fs) M ∧ vs.length = ds.length ∧ ∀ (i : Nat) (d : D), ds[i]? = some d → ∃ v, vs[i]? = some v ∧ AtV K H G v d := by
  intro vs ts ds hl h hd
  obtain ⟨G, ow, ι, x⟩ := h
  obtain ⟨h1, h2⟩ := rts_rz hl x.frs.1.tmps
  have y : RepG K H G ow ι (⟨σ, δ, τ⟩ :: fs) M := ⟨x.sub, x.own, x.lenM, x.cells, ⟨x.frs.1.len, x.frs.1.slots, h1⟩, x.frs.2⟩
  refine ⟨G, ow, ι, y, ?_⟩
  have h3 : ∀ (j : Nat) (t : T), ts[j]? = some t → ∃ v, vs[j]? = some v ∧ ∃ w, RT K H G ow ι σ w v t := fun j t e => by
    obtain ⟨v, a, b⟩ := h2 j t e
    exact ⟨v, a, _, b⟩
  clear h1 h2 x
  induction ts generalizing vs ds with
  | nil =>
    cases hd
    exact ⟨hl, fun i d e => by simp at e⟩
  | cons t ts ih =>
    cases vs with
    | nil => simp at hl
    | cons v vs =>
      unfold vws at hd
      cases ev : vw t δ M with
      | none => rw [ev] at hd; cases hd
      | some d0 =>
        cases es : vws ts δ M with
        | none => rw [ev, es] at hd; cases hd
        | some ds' =>
          rw [ev, es] at hd
          cases hd
          obtain ⟨a, b⟩ := ih (vs := vs) (by simpa using hl) es fun j t e => h3 (j + 1) t (by simpa using e)
          refine ⟨by simp [a], fun i d e => ?_⟩
          cases i with
          | zero =>
            simp at e
            subst e
            obtain ⟨v', e1, w, r⟩ := h3 0 t rfl
            simp at e1
            subst e1
            exact ⟨v, rfl, y.vw r ev⟩
          | succ i =>
            obtain ⟨v', e1, r⟩ := b i d (by simpa using e)
            exact ⟨v', by simpa using e1, r⟩
theorem pl_bltD {r : List V → Hp → VK → Prop} {F : List D → Option D} (h : ∀ (H : Hp) (Q : VK) (vs : List V) (ds : List D) (z : D), vs.length = ds.length → (∀ (i : Nat) (d : D), ds[i]? = some d → ∃ v, vs[i]? = some v ∧ At X.K H v d) → F ds = some z → (∀ w, (∀ G, At X.K G w z) → Q w H) → r vs H Q) : BltD X W r (mPl F) := by
  intro σ δ τ fs M H Q vs ts hl rp q
  obtain ⟨t, et, q⟩ := opt_post q
  cases ed : vws ts δ M with
  | none => rw [ed] at et; cases et
  | some ds =>
    rw [ed] at et
    simp only [Option.bind_some] at et
    cases ef : F ds with
    | none => rw [ef] at et; cases et
    | some z =>
      rw [ef] at et
      simp only [Option.bind_some] at et
      split at et
      · cases et
        obtain ⟨G, ow, ι, y, hl2, hv⟩ := rz_vw hl rp ed
        refine h H Q vs ds z hl2 (fun i d e => ?_) ef fun w hw => q w H ⟨G, ow, ι, y.push (hw G)⟩
        obtain ⟨v, e1, a⟩ := hv i d e
        exact ⟨v, e1, a.at y.sub⟩
      · cases et
theorem one_arg {vs : List V} {d : D} (hl : vs.length = [d].length) (h : ∀ (i : Nat) (d' : D), [d][i]? = some d' → ∃ v, vs[i]? = some v ∧ At K H v d') : ∃ v, vs = [v] ∧ At K H v d := by
  match vs, hl with
  | [v], _ =>
    obtain ⟨v', e, a⟩ := h 0 d rfl
    simp at e
    subst e
    exact ⟨v, rfl, a⟩
theorem two_arg {vs : List V} {d d2 : D} (hl : vs.length = [d, d2].length) (h : ∀ (i : Nat) (d' : D), [d, d2][i]? = some d' → ∃ v, vs[i]? = some v ∧ At K H v d') : ∃ v u, vs = [v, u] ∧ At K H v d ∧ At K H u d2 := by
  match vs, hl with
  | [v, u], _ =>
    obtain ⟨v', e, a⟩ := h 0 d rfl
    obtain ⟨u', e2, a2⟩ := h 1 d2 rfl
    simp at e e2
    subst e e2
    exact ⟨v, u, rfl, a, a2⟩
/-- len -/
def fLen : List D → Option D
  | [.list ds] => some (.int ds.length)
  | [.tuple ds] => some (.int ds.length)
  | [.str x] => if x.length ≤ sizeLine then some (.int x.length) else Option.none
  | _ => Option.none
theorem b_len : BltD X W (fun xs H Q => ∃ x n, xs = [x] ∧ LenV X.K x H n ∧ Q (.int n) H) (mPl fLen) := by
  refine pl_bltD fun H Q vs ds z hl hv ef k => ?_
  match ds, ef with
  | [.list ds], ef =>
    cases ef
    obtain ⟨v, rfl, a, us, e, q, al⟩ := one_arg hl hv
    refine ⟨v, us.length, rfl, ?_, k _ fun G => by show V.int _ = V.int _; rw [al.length]⟩
    subst e
    exact .inl ⟨us, SqL.of q, rfl⟩
  | [.tuple ds], ef =>
    cases ef
    obtain ⟨v, rfl, a, us, e, q, al⟩ := one_arg hl hv
    refine ⟨v, us.length, rfl, ?_, k _ fun G => by show V.int _ = V.int _; rw [al.length]⟩
    subst e
    exact .inr ⟨us, q, rfl⟩
  | [.str x], ef =>
    unfold fLen at ef
    simp only at ef
    split at ef
    · rename_i hz
      cases ef
      obtain ⟨v, rfl, a⟩ := one_arg hl hv
      have a' : v = .str x := a
      subst a'
      exact ⟨_, x.length, rfl, ⟨hz, rfl⟩, k _ fun G => rfl⟩
    · cases ef
/-- abs, max, min of two, int -/
def fAbs : List D → Option D
  | [.int i] => some (.int (if i < 0 then -i else i))
  | _ => Option.none
theorem b_abs : BltD X W (fun xs H Q => ∃ i, xs = [.int i] ∧ Q (.int (if i < 0 then -i else i)) H) (mPl fAbs) := by
  refine pl_bltD fun H Q vs ds z hl hv ef k => ?_
  match ds, ef with
  | [.int i], ef =>
    cases ef
    obtain ⟨v, rfl, a⟩ := one_arg hl hv
    exact ⟨i, by rw [show v = .int i from a], k _ fun G => rfl⟩
def fMax : List D → Option D
  | [.int i, .int j] => some (.int (if j > i then j else i))
  | _ => Option.none
def fMin : List D → Option D
  | [.int i, .int j] => some (.int (if j < i then j else i))
  | _ => Option.none
theorem b_max : BltD X W (fun xs H Q => ∃ i j, xs = [.int i, .int j] ∧ Q (.int (if j > i then j else i)) H) (mPl fMax) := by
  refine pl_bltD fun H Q vs ds z hl hv ef k => ?_
  match ds, ef with
  | [.int i, .int j], ef =>
    cases ef
    obtain ⟨v, u, rfl, a, b⟩ := two_arg hl hv
    exact ⟨i, j, by rw [show v = .int i from a, show u = .int j from b], k _ fun G => rfl⟩
theorem b_min : BltD X W (fun xs H Q => ∃ i j, xs = [.int i, .int j] ∧ Q (.int (if j < i then j else i)) H) (mPl fMin) := by
  refine pl_bltD fun H Q vs ds z hl hv ef k => ?_
  match ds, ef with
  | [.int i, .int j], ef =>
    cases ef
    obtain ⟨v, u, rfl, a, b⟩ := two_arg hl hv
    exact ⟨i, j, by rw [show v = .int i from a, show u = .int j from b], k _ fun G => rfl⟩
def fInt : List D → Option D
  | [.int i] => some (.int i)
  | [.bool b] => some (.int (if b then 1 else 0))
  | [.str x] => if x.length ≤ 640 then (PySem.intText? x).map PyData.int else Option.none
  | _ => Option.none
theorem b_int : BltD X W (fun xs H Q => ((∃ i, xs = [.int i] ∧ Q (.int i) H) ∨ ∃ k, xs = [.bl k] ∧ Q (.int (if k then 1 else 0)) H) ∨ ∃ a n, xs = [.str a] ∧ PySem.intText? a = some n ∧ a.length ≤ 640 ∧ Q (.int n) H) (mPl fInt) := by
  refine pl_bltD fun H Q vs ds z hl hv ef k => ?_
  match ds, ef with
  | [.int i], ef =>
    cases ef
    obtain ⟨v, rfl, a⟩ := one_arg hl hv
    exact .inl (.inl ⟨i, by rw [show v = .int i from a], k _ fun G => rfl⟩)
  | [.bool i], ef =>
    cases ef
    obtain ⟨v, rfl, a⟩ := one_arg hl hv
    exact .inl (.inr ⟨i, by rw [show v = .bl i from a], k _ fun G => rfl⟩)
  | [.str x], ef =>
    unfold fInt at ef
    simp only at ef
    split at ef
    · rename_i hz
      cases en : PySem.intText? x with
      | none => rw [en] at ef; cases ef
      | some n =>
        rw [en] at ef
        cases ef
        obtain ⟨v, rfl, a⟩ := one_arg hl hv
        exact .inr ⟨x, n, by rw [show v = .str x from a], en, hz, k _ fun G => rfl⟩
    · cases ef
/-- all, any of truth values -/
def bools : List D → Option (List Bool)
  | [] => some []
  | .bool b :: r => (bools r).map (b :: ·)
  | _ => Option.none
theorem bools_at : ∀ {ds : List D} {bs : List Bool} {vs : List V}, bools ds = some bs → AtL K H vs ds → vs = bs.map V.bl
  | [], bs, vs, e, a => by cases e; exact a
  | .bool b :: r, bs, vs, e, ⟨v, r', ev, a1, a2⟩ => by
    unfold bools at e
    cases er : bools r with
    | none => rw [er] at e; cases e
    | some bs' =>
      rw [er] at e
      cases e
      subst ev
      rw [bools_at er a2, show v = .bl b from a1]; rfl
  | .none :: _, _, _, e, _ => by cases e
  | .int _ :: _, _, _, e, _ => by cases e
  | .str _ :: _, _, _, e, _ => by cases e
  | .list _ :: _, _, _, e, _ => by cases e
  | .tuple _ :: _, _, _, e, _ => by cases e
  | .dict _ :: _, _, _, e, _ => by cases e
def fAll : List D → Option D
  | [.list ds] => (bools ds).map fun bs => .bool (bs.all id)
  | _ => Option.none
def fAny : List D → Option D
  | [.list ds] => (bools ds).map fun bs => .bool (bs.any id)
  | _ => Option.none
theorem b_all : BltD X W (rAll X.K) (mPl fAll) := by
  refine pl_bltD fun H Q vs ds z hl hv ef k => ?_
  match ds, ef with
  | [.list ds], ef =>
    have ef : (bools ds).map (fun bs => PyData.bool (bs.all id)) = some z := ef
    cases eb : bools ds with
    | none => rw [eb] at ef; cases ef
    | some bs =>
      rw [eb] at ef
      cases ef
      obtain ⟨v, rfl, a, us, e, q, al⟩ := one_arg hl hv
      have := bools_at eb al
      subst this e
      exact ⟨a, bs, rfl, SqL.of q, k _ fun G => rfl⟩
theorem b_any : BltD X W (rAny X.K) (mPl fAny) := by
  refine pl_bltD fun H Q vs ds z hl hv ef k => ?_
  match ds, ef with
  | [.list ds], ef =>
    have ef : (bools ds).map (fun bs => PyData.bool (bs.any id)) = some z := ef
    cases eb : bools ds with
    | none => rw [eb] at ef; cases ef
    | some bs =>
      rw [eb] at ef
      cases ef
      obtain ⟨v, rfl, a, us, e, q, al⟩ := one_arg hl hv
      have := bools_at eb al
      subst this e
      exact ⟨a, bs, rfl, SqL.of q, k _ fun G => rfl⟩
end DL

end
section
namespace DL
open PySem PySem.Spec L2
variable {X : Cx} {W : WX} {K : KF} {H G : Hp} {ow : Addr → Option Who} {ι : List Addr} {σ : St} {δ : DL.Env} {τ : List (V × T)} {fs : List Fram} {M : Mem} {v u : V} {t : T} {e e' : Expr} {pos : Pos}

/-! ### two operands, any answer -/
/-- the answer of an operator by the data of its operands -/
def mOpT (F : D → D → Option T) (f g : Sm T) : Sm T := bnd f fun x => bnd g fun y => fun δ M =>
  opt ((vw x δ M).bind fun a => (vw y δ M).bind fun b => F a b) δ M
def OpT (X : Cx) (r : R2) (F : D → D → Option T) : Prop := ∀ (σ : St) (δ : DL.Env) (τ : List (V × T)) (fs : List Fram) (M : Mem) (v u : V) (H G : Hp) (ow : Addr → Option Who) (ι : List Addr) (Q : VK) (a b : D) (z : T), RepG X.K H G ow ι (⟨σ, δ, τ⟩ :: fs) M → AtV X.K H G v a → AtV X.K H G u b → F a b = some z →
  (∀ w H', Rep X.K H' (⟨σ, δ, (w, z) :: τ⟩ :: fs) M → Q w H') → r v u H Q
theorem two_opsT {Q : VK} {f g : Sm T} {F : D → D → Option T} {r : R2} (hF : OpT X r F) (h : tE X.K W (mOpT F f g) σ H Q) : tE X.K W f σ H fun x H1 => tE X.K W g σ H1 fun y H2 => r x y H2 Q := by
  obtain ⟨δ, τ, fs, M, rp, q⟩ := h
  refine ⟨δ, τ, fs, M, rp, Res.post_mono (bnd_post q) (fun a δ1 M1 q1 v H1 r1 => ?_) fun _ _ _ z => z⟩
  refine ⟨δ1, (v, a) :: τ, fs, M1, r1, Res.post_mono (bnd_post q1) (fun b δ2 M2 q2 u H2 r2 => ?_) fun _ _ _ z => z.push⟩
  obtain ⟨z, ez, q3⟩ := opt_post q2
  obtain ⟨G, ow, ι, x⟩ := r2
  cases ea : vw a δ2 M2 with
  | none => rw [ea] at ez; cases ez
  | some da =>
    cases eb : vw b δ2 M2 with
    | none => rw [ea, eb] at ez; cases ez
    | some db =>
      rw [ea, eb] at ez
      exact hF σ δ2 τ fs M2 v u H2 G ow ι Q da db z x.pop.pop (x.vw x.pop.top ea) (x.vw x.top eb) ez q3
theorem OpT.or {r r' : R2} {F : D → D → Option T} (h : ∀ a b, (∀ z, F a b = some z → True) → True) : True := trivial
theorem qe_opT {op : Operator} {r : R2} {F : D → D → Option T} {f g : Sm T} (ho : OpR X (binaryOp op) r) (hF : OpT X r F) (h : QE X W e f) (h' : QE X W e' g) : QE X W (.BinOp e op e' pos) (mOpT F f g) :=
  (pe_op ho h h').imp fun _ _ _ q => two_opsT hF q
theorem RepG.tup (x : RepG K H G ow ι (⟨σ, δ, τ⟩ :: fs) M) {vs : List V} {ds : List D} (a : AtL K G vs ds) {p : Addr} (hp : H p = none) : Rep K (upd H p (.tup vs)) (⟨σ, δ, (.ref p, .d (.tuple ds)) :: τ⟩ :: fs) M := Rep.newTup ⟨G, ow, ι, x, a⟩ hp
theorem RepG.lst (x : RepG K H G ow ι (⟨σ, δ, τ⟩ :: fs) M) {vs : List V} {ds : List D} (a : AtL K G vs ds) {p : Addr} (hp : H p = none) : Rep K (upd H p (.lst vs)) (⟨σ, δ, (.ref p, .con (.lst ds)) :: τ⟩ :: fs) M := Rep.newLst ⟨G, ow, ι, x, a⟩ hp
theorem k1m {n : Nat} (h : n ≤ 1000000) : n ≤ sizeLine := Nat.le_trans h (by decide)
/-- + -/
def fAdd : D → D → Option T
  | .int i, .int j => some (.d (.int (i + j)))
  | .str a, .str b => if a.length + b.length ≤ 1000000 then some (.d (.str (a ++ b))) else Option.none
  | .list a, .list b => if a.length + b.length ≤ 1000000 then some (.con (.lst (a ++ b))) else Option.none
  | .tuple a, .tuple b => if a.length + b.length ≤ 1000000 then some (.d (.tuple (a ++ b))) else Option.none
  | _, _ => Option.none
theorem nil_iff {vs : List V} {ds : List D} (a : AtL K G vs ds) : vs = [] ↔ ds = [] := by
  have := a.length
  constructor
  · intro h; rw [h] at this; exact List.eq_nil_of_length_eq_zero this.symm
  · intro h; rw [h] at this; exact List.eq_nil_of_length_eq_zero this
theorem opt_add : OpT X (fun x y H Q => (((rI0 fun i j => .int (i + j)) x y H Q ∨ ∃ i j, x = .str i ∧ y = .str j ∧ i.length + j.length ≤ sizeLine ∧ Q (.str (i ++ j)) H) ∨ rCat x y H Q) ∨ rCatA X.K x y H Q) fAdd := by
  intro σ δ τ fs M v u H G ow ι Q a b z x ha hb ef q
  match a, b, ef with
  | .int i, .int j, ef =>
    cases ef
    exact .inl (.inl (.inl ⟨i, j, ha, hb, q _ H ⟨G, ow, ι, x.push (t := .d (.int (i + j))) rfl⟩⟩))
  | .str i, .str j, ef =>
    unfold fAdd at ef
    simp only at ef
    split at ef
    · rename_i hz
      cases ef
      exact .inl (.inl (.inr ⟨i, j, ha, hb, k1m hz, q _ H ⟨G, ow, ι, x.push (t := .d (.str (i ++ j))) rfl⟩⟩))
    · cases ef
  | .list i, .list j, ef =>
    unfold fAdd at ef
    simp only at ef
    split at ef
    · rename_i hz
      cases ef
      obtain ⟨p, vs, e1, h1, a1⟩ := ha
      obtain ⟨p2, us, e2, h2, a2⟩ := hb
      exact .inl (.inr ⟨p, p2, vs, us, e1, e2, h1, h2, by rw [a1.length, a2.length]; exact k1m hz, fun w hw => q _ _ (x.lst (a1.app a2) hw)⟩)
    · cases ef
  | .tuple i, .tuple j, ef =>
    unfold fAdd at ef
    simp only at ef
    split at ef
    · rename_i hz
      cases ef
      obtain ⟨p, vs, e1, h1, a1⟩ := ha
      obtain ⟨p2, us, e2, h2, a2⟩ := hb
      refine .inr ⟨p, p2, vs, us, e1, e2, SqT.grow x.sub h1, SqT.grow x.sub h2, by rw [a1.length, a2.length]; exact k1m hz, fun hn => ?_, fun _ hn => ?_, fun _ _ w hw => q _ _ (x.tup (a1.app a2) hw)⟩
      · have : i = [] := (nil_iff a1).mp hn
        subst this
        exact q _ H ⟨G, ow, ι, x.push (t := .d (.tuple j)) ⟨p2, us, rfl, h2, a2⟩⟩
      · have : j = [] := (nil_iff a2).mp hn
        subst this
        rw [List.append_nil] at q
        exact q _ H ⟨G, ow, ι, x.push (t := .d (.tuple i)) ⟨p, vs, rfl, h1, a1⟩⟩
    · cases ef
theorem qe_add {f g : Sm T} (h : QE X W e f) (h' : QE X W e' g) : QE X W (.BinOp e .Add e' pos) (mOpT fAdd f g) := qe_opT (((op_add.or op_add_str).or op_cat).or op_catA) opt_add h h'

/-! ### * -/
theorem op_mulS : OpR X (binaryOp .Mult) (fun x y H Q => ∃ z n, x = .str z ∧ y = .int n ∧ MulOk z n ∧ Q (.str (Txt.mul z n)) H) := by
  intro pins s σ H x y v u Q I rx ry h
  obtain ⟨z, n, rfl, rfl, hm, q⟩ := h
  obtain ⟨t, rfl⟩ := rx
  obtain ⟨t', rfl⟩ := ry
  exact SB.mul hm fun t2 k => ⟨.str _, H, I.tok _, ⟨_, rfl⟩, q⟩
theorem tuple_mul0 (l : Addr) (items : Array Value) (n : Nat) (dd : Option Addr) (sl : Array (Option Value)) (x : Int) (u : Tok) (c0 : (decide (x < -(2 ^ 63)) || decide (x ≥ 2 ^ 63)) = false) (c1 : (items.isEmpty || x == 1) = false) (c2 : (decide (x ≤ 0) || items.isEmpty) = true) :
    Meets (Builtin.«tuple.__mul__» ⟨[.ref l, .int x u], []⟩) (fun _ R s => s.heap.get? l = some { cls := .type "tuple", dict := dd, data := .seq items n, slots := sl } ∧
      R (.ok (.ret (Value.ref s.heap.objs.size))) { s with heap := s.heap.push { cls := Value.type "tuple", data := Data.seq #[] }, toks := s.toks }) :=
  .of_wp fun prog w A R s h => by
    obtain ⟨hp, g, d, tk, os⟩ := s
    obtain ⟨hl, h⟩ := h
    have f1 := AutoSeq1.idx_int
    wp_walk using wpAny_loadPart' hl
    repeat (first
      | (refine wpAny_ite_false (decide_eq_false (by rw [c0]; exact Bool.false_ne_true)) ?_; wp_walk using wpAny_loadPart' hl)
      | (refine wpAny_ite_false (decide_eq_false (by rw [c1]; exact Bool.false_ne_true)) ?_; wp_walk using wpAny_loadPart' hl)
      | (refine wpAny_ite_true (decide_eq_true c2) ?_; wp_walk using wpAny_loadPart' hl))
    exact ⟨_, rfl, h⟩
theorem tuple_mul1 (l : Addr) (items : Array Value) (n : Nat) (dd : Option Addr) (sl : Array (Option Value)) (x : Int) (u : Tok) (c0 : (decide (x < -(2 ^ 63)) || decide (x ≥ 2 ^ 63)) = false) (c1 : (items.isEmpty || x == 1) = true) :
    Meets (Builtin.«tuple.__mul__» ⟨[.ref l, .int x u], []⟩) (fun _ R s => s.heap.get? l = some { cls := .type "tuple", dict := dd, data := .seq items n, slots := sl } ∧ R (.ok (.ret (Value.ref l))) s) :=
  .of_wp fun prog w A R s h => by
    obtain ⟨hp, g, d, tk, os⟩ := s
    obtain ⟨hl, h⟩ := h
    have f1 := AutoSeq1.idx_int
    wp_walk using wpAny_loadPart' hl
    repeat (first
      | (refine wpAny_ite_false (decide_eq_false (by rw [c0]; exact Bool.false_ne_true)) ?_; wp_walk using wpAny_loadPart' hl)
      | (refine wpAny_ite_true (decide_eq_true c1) ?_; wp_walk using wpAny_loadPart' hl))
    exact ⟨_, rfl, h⟩
def rRepA (K : KF) : R2 := fun x y H Q => ∃ l k xs, x = .ref l ∧ y = .int k ∧ SqT K H l xs ∧ -1000 ≤ k ∧ k ≤ 1000 ∧ xs.length ≤ 1000 ∧ (xs = [] ∨ k = 1 → Q (.ref l) H) ∧
  (xs ≠ [] → k ≠ 1 → ∀ p, H p = none → Q (.ref p) (upd H p (.tup (List.replicate k.toNat xs).flatten)))
theorem op_repA : OpR X (binaryOp .Mult) (rRepA X.K) := by
  intro pins s σ H x y v u Q I rx ry h
  obtain ⟨l, k, xs, rfl, rfl, hT, k1, k2, hz, q1, q2⟩ := h
  have c0 : (decide (k < -(2 ^ 63)) || decide (k ≥ 2 ^ 63)) = false := by
    rw [decide_eq_false (by omega), decide_eq_false (by omega)] <;> rfl
  by_cases h1 : xs = [] ∨ k = 1
  · obtain rfl : v = Value.ref l := rx
    obtain ⟨t, rfl⟩ := ry
    obtain ⟨its, r, ⟨⟨cls, dd, data, sl⟩, ho, hc, n, hd⟩, hs⟩ := I.tuple hT
    simp only at hc hd
    subst hc hd
    have c1 : (its.toArray.isEmpty || k == 1) = true := by
      rcases h1 with h1 | h1
      · subst h1; cases r; rfl
      · subst h1; simp
    exact wpAny_binaryOp_repeat_ref (T := "tuple") (U := "int") (by decide) ⟨_, ho, rfl⟩ (fun s' => typeIs_int s' k t) noFill_tuple_mul PySem.F.fills_int_mul PySem.F.slot_int_rmul repeat_tuple PySem.F.slot_int_index.lookup
      (call_meets PySem.F.slot_int_rmul (typeIs_int s k t) PySem.F.entry_int_rmul (PySem.F.args_int_rmul_2 _ _) (int_rmul_tuple k t l its.toArray n dd sl)
        ⟨ho, rfl, ⟨_, ho, rfl⟩, call_meets PySem.F.slot_tuple_mul ⟨_, ho, rfl⟩ PySem.F.entry_tuple_mul (PySem.F.args_tuple_mul_2 _ _) (tuple_mul1 l its.toArray n dd sl k t c0 c1) ⟨ho, ⟨.ref l, H, I, rfl, q1 h1⟩⟩⟩)
  · have hne : xs ≠ [] := fun z => h1 (.inl z)
    have hk1 : k ≠ 1 := fun z => h1 (.inr z)
    by_cases h2 : 2 ≤ k
    · exact op_repT pins s σ H _ _ v u Q I rx ry ⟨l, k, xs, rfl, rfl, hT, hne, h2, k2, hz, q2 hne hk1⟩
    · obtain rfl : v = Value.ref l := rx
      obtain ⟨t, rfl⟩ := ry
      obtain ⟨its, r, ⟨⟨cls, dd, data, sl⟩, ho, hc, n, hd⟩, hs⟩ := I.tuple hT
      simp only at hc hd
      subst hc hd
      have hi : its.toArray.isEmpty = false := by
        cases r with
        | nil => exact absurd rfl hne
        | cons _ _ => rfl
      have c1 : (its.toArray.isEmpty || k == 1) = false := by
        rw [hi, Bool.false_or]; exact beq_eq_false_iff_ne.mpr hk1
      have c2 : (decide (k ≤ 0) || its.toArray.isEmpty) = true := by
        rw [decide_eq_true (by omega)]; rfl
      have e0 : (List.replicate k.toNat xs).flatten = [] := by
        rw [show k.toNat = 0 by omega]; rfl
      have q3 := q2 hne hk1
      rw [e0] at q3
      refine wpAny_binaryOp_repeat_ref (T := "tuple") (U := "int") (by decide) ⟨_, ho, rfl⟩ (fun s' => typeIs_int s' k t) noFill_tuple_mul PySem.F.fills_int_mul PySem.F.slot_int_rmul repeat_tuple PySem.F.slot_int_index.lookup
        (call_meets PySem.F.slot_int_rmul (typeIs_int s k t) PySem.F.entry_int_rmul (PySem.F.args_int_rmul_2 _ _) (int_rmul_tuple k t l its.toArray n dd sl)
          ⟨ho, rfl, ⟨_, ho, rfl⟩, call_meets PySem.F.slot_tuple_mul ⟨_, ho, rfl⟩ PySem.F.entry_tuple_mul (PySem.F.args_tuple_mul_2 _ _) (tuple_mul0 l its.toArray n dd sl k t c0 c1 c2) ⟨ho, ?_⟩⟩)
      refine ⟨.ref s.heap.objs.size, _, I.laid (t' := s.toks) (o := .tup []) (fun b ob z => Heap.get?_push_of_some _ z) (Nat.le_refl _) ?_, rfl, q3 _ (I.hok.fresh (Nat.le_refl _))⟩
      exact ⟨Nat.zero_le _, [], .nil, PyProof.Rows.IsTup.new _ _⟩
theorem AtL.rep {vs : List V} {ds : List D} (a : AtL K G vs ds) : ∀ n : Nat, AtL K G (List.replicate n vs).flatten (List.replicate n ds).flatten
  | 0 => rfl
  | n + 1 => by
    rw [List.replicate_succ, List.replicate_succ, List.flatten_cons, List.flatten_cons]
    exact a.app (AtL.rep a n)
def mulOkS (x : Str) (n : Int) : Bool := decide (0 ≤ n) && decide (n ≤ 1000) && decide (x.length ≤ 1000)
theorem mulOkS_ok {x : Str} {n : Int} (h : mulOkS x n = true) : MulOk x n := by
  unfold mulOkS at h
  simp only [Bool.and_eq_true, decide_eq_true_eq] at h
  obtain ⟨⟨h0, h1⟩, h2⟩ := h
  refine ⟨by rw [decide_eq_false (by omega), decide_eq_false (by omega)] <;> rfl, fun hn _ => ?_, fun _ _ => ?_⟩
  · have hp : 0 < n := by omega
    have : (1000 : Int) ≤ (2 ^ 63 - 1) / n := by
      rw [Int.le_ediv_iff_mul_le hp]; omega
    omega
  · unfold Builtin.Str.tooLong
    have a1 : x.length * n.toNat ≤ 1000 * 1000 := Nat.mul_le_mul h2 (by omega)
    rw [decide_eq_false]
    exact Nat.not_lt.mpr (Nat.le_trans a1 (by decide))
def fMul : D → D → Option T
  | .int i, .int j => if mulOk i j = true then some (.d (.int (i * j))) else Option.none
  | .str a, .int j => if mulOkS a j = true then some (.d (.str (Txt.mul a j))) else Option.none
  | .list a, .int j => if -1000 ≤ j ∧ j ≤ 1000 ∧ a.length ≤ 1000 then some (.con (.lst (List.replicate j.toNat a).flatten)) else Option.none
  | .tuple a, .int j => if -1000 ≤ j ∧ j ≤ 1000 ∧ a.length ≤ 1000 then some (.d (.tuple (List.replicate j.toNat a).flatten)) else Option.none
  | _, _ => Option.none
theorem opt_mul : OpT X (fun x y H Q => ((((rI CMul fun i j => .int (i * j)) x y H Q ∨ (rI CMulW fun i j => .int (i * j)) x y H Q) ∨ ∃ z n, x = .str z ∧ y = .int n ∧ MulOk z n ∧ Q (.str (Txt.mul z n)) H) ∨ rRep x y H Q) ∨ rRepA X.K x y H Q) fMul := by
  intro σ δ τ fs M v u H G ow ι Q a b z x ha hb ef q
  match a, b, ef with
  | .int i, .int j, ef =>
    unfold fMul at ef
    simp only at ef
    split at ef
    · rename_i hm
      cases ef
      unfold mulOk at hm
      simp only [Bool.or_eq_true, decide_eq_true_eq] at hm
      have qq := q (.int (i * j)) H ⟨G, ow, ι, x.push (t := .d (.int (i * j))) rfl⟩
      rcases hm with (hm | hm) | hm
      · exact .inl (.inl (.inl (.inl ⟨i, j, ha, hb, .inl (by omega), qq⟩)))
      · exact .inl (.inl (.inl (.inl ⟨i, j, ha, hb, .inr (by omega), qq⟩)))
      · exact .inl (.inl (.inl (.inr ⟨i, j, ha, hb, hm, qq⟩)))
    · cases ef
  | .str i, .int j, ef =>
    unfold fMul at ef
    simp only at ef
    split at ef
    · rename_i hm
      cases ef
      exact .inl (.inl (.inr ⟨i, j, ha, hb, mulOkS_ok hm, q _ H ⟨G, ow, ι, x.push (t := .d (.str (Txt.mul i j))) rfl⟩⟩))
    · cases ef
  | .list i, .int j, ef =>
    unfold fMul at ef
    simp only at ef
    split at ef
    · rename_i hz
      cases ef
      obtain ⟨p, vs, e1, h1, a1⟩ := ha
      refine .inl (.inr ⟨p, j, vs, e1, hb, h1, by omega, by omega, ?_, fun w hw => q _ _ (x.lst (a1.rep _) hw)⟩)
      rw [a1.length]
      have : i.length * j.toNat ≤ 1000 * 1000 := Nat.mul_le_mul hz.2.2 (by omega)
      exact k1m this
    · cases ef
  | .tuple i, .int j, ef =>
    unfold fMul at ef
    simp only at ef
    split at ef
    · rename_i hz
      cases ef
      obtain ⟨p, vs, e1, h1, a1⟩ := ha
      refine .inr ⟨p, j, vs, e1, hb, SqT.grow x.sub h1, hz.1, hz.2.1, by rw [a1.length]; exact hz.2.2, fun hn => ?_, fun _ _ w hw => q _ _ (x.tup (a1.rep _) hw)⟩
      have e0 : (List.replicate j.toNat i).flatten = i := by
        rcases hn with hn | hn
        · rw [(nil_iff a1).mp hn]; simp
        · rw [hn]; simp
      rw [e0] at q
      exact q _ H ⟨G, ow, ι, x.push (t := .d (.tuple i)) ⟨p, vs, rfl, h1, a1⟩⟩
    · cases ef
theorem qe_mult {f g : Sm T} (h : QE X W e f) (h' : QE X W e' g) : QE X W (.BinOp e .Mult e' pos) (mOpT fMul f g) := qe_opT ((((op_mul.or op_mulW).or op_mulS).or op_rep).or op_repA) opt_mul h h'

/-! ### subscripts -/
def atD (ds : List D) (i : Int) : Option D := atI ds i
def fIx : D → D → Option T
  | .list ds, .int i => (atI ds i).map T.d
  | .tuple ds, .int i => (atI ds i).map T.d
  | .str z, .int i => if z.length ≤ sizeLine then (atI z.cps.toList i).map fun c => T.d (.str ⟨#[c]⟩) else Option.none
  | _, _ => Option.none
theorem atI_at {vs : List V} {ds : List D} {i : Int} {d : D} (a : AtL K G vs ds) (h : atI ds i = some d) : ∃ v, atI vs i = some v ∧ At K G v d := by
  unfold atI at h ⊢
  rw [a.length]
  cases e : ixN ds.length i with
  | none => rw [e] at h; cases h
  | some j =>
    rw [e] at h
    obtain ⟨v, e1, e2⟩ := a.get (i := j) h
    exact ⟨v, e1, e2⟩
theorem opt_ix : OpT X (rIx X.K) fIx := by
  intro σ δ τ fs M v u H G ow ι Q a b z x ha hb ef q
  match a, b, ef with
  | .list ds, .int i, ef =>
    have ef : (atI ds i).map T.d = some z := ef
    cases e : atI ds i with
    | none => rw [e] at ef; cases ef
    | some d =>
      rw [e] at ef
      cases ef
      obtain ⟨p, vs, e1, h1, a1⟩ := ha
      obtain ⟨w, ew, aw⟩ := atI_at a1 e
      exact .inl ⟨p, vs, i, w, e1, hb, SqL.of h1, ew, q w H ⟨G, ow, ι, x.push (t := .d d) aw⟩⟩
  | .tuple ds, .int i, ef =>
    have ef : (atI ds i).map T.d = some z := ef
    cases e : atI ds i with
    | none => rw [e] at ef; cases ef
    | some d =>
      rw [e] at ef
      cases ef
      obtain ⟨p, vs, e1, h1, a1⟩ := ha
      obtain ⟨w, ew, aw⟩ := atI_at a1 e
      exact .inr (.inl ⟨p, vs, i, w, e1, hb, SqT.grow x.sub h1, ew, q w H ⟨G, ow, ι, x.push (t := .d d) aw⟩⟩)
  | .str y, .int i, ef =>
    unfold fIx at ef
    simp only at ef
    split at ef
    · rename_i hz
      cases e : atI y.cps.toList i with
      | none => rw [e] at ef; cases ef
      | some c =>
        rw [e] at ef
        cases ef
        exact .inr (.inr ⟨y, i, c, ha, hb, hz, e, q _ H ⟨G, ow, ι, x.push (t := .d (.str ⟨#[c]⟩)) rfl⟩⟩)
    · cases ef
theorem qe_ix {f g : Sm T} (h : QE X W e f) (h' : QE X W e' g) (hs : PlainIx e' := by exact fun _ _ => rfl) : QE X W (.Subscript e e' pos) (mOpT fIx f g) := (pe_ix ix_seq h h' hs).imp fun _ _ _ q => two_opsT opt_ix q
/-- the script's item -/
def mScrIx (f g : Sm T) : Sm T := bnd f fun x => bnd g fun y => opt (match x, y with
  | .scr ns, .d (.int i) => (atI ns i).map fun n => T.d (.int n)
  | _, _ => Option.none)
theorem atI_map {α β : Type} (F : α → β) (l : List α) (i : Int) : atI (l.map F) i = (atI l i).map F := by
  unfold atI
  rw [List.length_map]
  cases ixN l.length i with
  | none => rfl
  | some j => simp
theorem qe_scrIx {f g : Sm T} (h : QE X W e f) (h' : QE X W e' g) (hs : PlainIx e' := by exact fun _ _ => rfl) : QE X W (.Subscript e e' pos) (mScrIx f g) := by
  refine (pe_ix ix_list h h' hs).imp fun σ H Q ⟨δ, τ, fs, M, rp, q⟩ => ?_
  refine ⟨δ, τ, fs, M, rp, Res.post_mono (bnd_post q) (fun a δ1 M1 q1 v H1 r1 => ?_) fun _ _ _ z => z⟩
  refine ⟨δ1, (v, a) :: τ, fs, M1, r1, Res.post_mono (bnd_post q1) (fun b δ2 M2 q2 u H2 r2 => ?_) fun _ _ _ z => z.push⟩
  obtain ⟨z, ez, q3⟩ := opt_post q2
  match a, b, ez with
  | .scr ns, .d (.int i), ez =>
    obtain ⟨G, ow, ι, x⟩ := r2
    cases e : atI ns i with
    | none => simp [e] at ez
    | some n =>
      simp [e] at ez
      subst ez
      obtain ⟨p, e1, sq⟩ := x.pop.top
      have e2 : u = .int i := x.top
      exact ⟨p, ns.map V.int, i, .int n, e1, e2, x.sub.seq sq, by rw [atI_map, e]; rfl, q3 _ H2 ⟨G, ow, ι, x.pop.pop.push (t := .d (.int n)) rfl⟩⟩
def mScrLen : List T → Sm T := fun ts => opt (match ts with
  | [.scr ns] => some (.d (.int ns.length))
  | _ => Option.none)
theorem b_scrLen : BltD X W (fun xs H Q => ∃ x n, xs = [x] ∧ LenV X.K x H n ∧ Q (.int n) H) mScrLen := by
  intro σ δ τ fs M H Q vs ts hl rp q
  obtain ⟨t, et, q⟩ := opt_post q
  match ts, et, vs, hl, rp with
  | [.scr ns], et, [v], _, rp =>
    cases et
    obtain ⟨G, ow, ι, x⟩ := rp
    obtain ⟨p, e1, sq⟩ := x.top
    have e1' : v = .ref p := e1
    refine ⟨v, ns.length, rfl, ?_, q _ H ⟨G, ow, ι, x.pop.push (t := .d (.int ns.length)) rfl⟩⟩
    subst e1'
    exact .inl ⟨ns.map V.int, x.sub.seq sq, by simp⟩
end DL

end
section
namespace DL
open PySem PySem.Spec L2
variable {X : Cx} {W : WX} {K : KF} {H G : Hp} {ow : Addr → Option Who} {ι : List Addr} {σ : St} {δ : DL.Env} {τ : List (V × T)} {fs : List Fram} {M : Mem} {v u : V} {t : T} {e e' : Expr} {pos : Pos}
/-! ### list(..), tuple(..) -/
def mBT (F : D → Option T) : List T → Sm T := fun ts δ M => opt (match ts with
  | [t] => (vw t δ M).bind F
  | _ => Option.none) δ M
theorem mBT_noex {F : D → Option T} : ∀ ts δ M e δ' M', mBT F ts δ M ≠ .ex e δ' M' := fun _ _ _ _ _ _ => opt_noex
theorem mScrLen_noex : ∀ ts δ M e δ' M', mScrLen ts δ M ≠ .ex e δ' M' := fun _ _ _ _ _ _ => opt_noex
def fTuple : D → Option T
  | .list ds => some (.d (.tuple ds))
  | .tuple ds => some (.d (.tuple ds))
  | _ => Option.none
def fList : D → Option T
  | .list ds => some (.con (.lst ds))
  | .tuple ds => some (.con (.lst ds))
  | _ => Option.none
theorem mBT_post {F : D → Option T} {ts : List T} {vs : List V} {k : T → DL.Env → Mem → Prop} {x : XD → DL.Env → Mem → Prop} (hl : vs.length = ts.length) (rp : Rep K H (⟨σ, δ, rz vs ts τ⟩ :: fs) M) (q : (mBT F ts δ M).post k x) :
    ∃ v d z G ow ι, vs = [v] ∧ RepG K H G ow ι (⟨σ, δ, τ⟩ :: fs) M ∧ AtV K H G v d ∧ F d = some z ∧ k z δ M := by
  obtain ⟨z, ez, q2⟩ := opt_post q
  clear q
  match ts, vs, hl, rp, ez with
  | [t], [v], _, rp, ez =>
    obtain ⟨G, ow, ι, x⟩ := rp
    have ez : (vw t δ M).bind F = some z := ez
    cases ev : vw t δ M with
    | none => rw [ev] at ez; cases ez
    | some d =>
      rw [ev] at ez
      exact ⟨v, d, z, G, ow, ι, rfl, x.pop, x.vw x.top ev, ez, q2⟩
theorem b_tuple : BltD X W (fun xs H Q => ∃ p ys, xs = [.ref p] ∧ ((SqL X.K H p ys ∧ ∀ l, H l = none → Q (.ref l) (upd H l (.tup ys))) ∨ (SqT X.K H p ys ∧ Q (.ref p) H))) (mBT fTuple) := by
  intro σ δ τ fs M H Q vs ts hl rp q
  obtain ⟨v, d, z, G, ow, ι, rfl, x, av, ef, q⟩ := mBT_post hl rp q
  match d, ef with
  | .list ds, ef =>
    cases ef
    obtain ⟨a, us, e, h, al⟩ := av
    exact ⟨a, us, by rw [e], .inl ⟨SqL.of h, fun w hw => q _ _ (x.tup al hw)⟩⟩
  | .tuple ds, ef =>
    cases ef
    obtain ⟨a, us, e, h, al⟩ := av
    exact ⟨a, us, by rw [e], .inr ⟨SqT.grow x.sub h, q _ H ⟨G, ow, ι, x.push (t := .d (.tuple ds)) ⟨a, us, rfl, h, al⟩⟩⟩⟩
theorem b_list : BltD X W (fun xs H Q => ∃ p ys, xs = [.ref p] ∧ (SqL X.K H p ys ∨ SqT X.K H p ys) ∧ ∀ l, H l = none → Q (.ref l) (upd H l (.lst ys))) (mBT fList) := by
  intro σ δ τ fs M H Q vs ts hl rp q
  obtain ⟨v, d, z, G, ow, ι, rfl, x, av, ef, q⟩ := mBT_post hl rp q
  match d, ef with
  | .list ds, ef =>
    cases ef
    obtain ⟨a, us, e, h, al⟩ := av
    exact ⟨a, us, by rw [e], .inl (SqL.of h), fun w hw => q _ _ (x.lst al hw)⟩
  | .tuple ds, ef =>
    cases ef
    obtain ⟨a, us, e, h, al⟩ := av
    exact ⟨a, us, by rw [e], .inr (SqT.grow x.sub h), fun w hw => q _ _ (x.lst al hw)⟩

/-! ### repr -/
mutual
theorem plain_noDict : ∀ d : D, d.plain = true → d.hasDict = false
  | .none, _ => rfl
  | .bool _, _ => rfl
  | .int _, _ => rfl
  | .str _, _ => rfl
  | .list xs, h => by simp only [PyData.hasDict]; exact plain_noDictAll xs (by simpa [PyData.plain] using h)
  | .tuple xs, h => by simp only [PyData.hasDict]; exact plain_noDictAll xs (by simpa [PyData.plain] using h)
  | .dict _, h => by simp [PyData.plain] at h
theorem plain_noDictAll : ∀ xs : List D, PyData.plainAll xs = true → PyData.hasDictAll xs = false
  | [], _ => rfl
  | x :: xs, h => by
    have h' : x.plain = true ∧ PyData.plainAll xs = true := by simpa [PyData.plainAll] using h
    simp only [PyData.hasDictAll, plain_noDict x h'.1, plain_noDictAll xs h'.2, Bool.or_self]
end
def showOk (d : D) : Bool := d.plain && d.showable && decide (d.depth ≤ 64) && decide (d.shown.length ≤ sizeLine)
def rRepr (K : KF) : List V → Hp → VK → Prop := fun xs H Q => ∃ v d, xs = [v] ∧ At K H v d ∧ showOk d = true ∧ Q (.str d.shown) H
theorem call_repr {k : Nat} (hr : Room k X.A) (hg : X.A.guards = some []) : CallR X (.builtin "repr") (rRepr X.K) := by
  intro pins s σ H xs us Q I rs h
  obtain ⟨v, d, rfl, av, ok, q⟩ := h
  obtain ⟨u, rfl, r⟩ := vals1 rs
  unfold showOk at ok
  simp only [Bool.and_eq_true, decide_eq_true_eq] at ok
  obtain ⟨⟨⟨c1, c2⟩, c3⟩, c4⟩ := ok
  obtain ⟨as, rd⟩ := Dp.reads I d v u (At.dp d v av c1) r
  have hu := hr.un
  match d, av, rd, c2, c4, q with
  | .none, av, rd, c2, c4, q => cases rd; exact PySem.P.repr_of_none ⟨.str _, H, I.tok _, ⟨_, rfl⟩, by simpa [PyData.shown] using q⟩
  | .bool b, av, rd, c2, c4, q => cases rd; exact PySem.P.repr_of_bool ⟨.str _, H, I.tok _, ⟨_, rfl⟩, by simpa [PyData.shown] using q⟩
  | .int i, av, rd, c2, c4, q => cases rd; exact PySem.P.repr_of_int (by simpa [PyData.showable] using c2) ⟨.str _, H, I.tok _, ⟨_, rfl⟩, by simpa [PyData.shown] using q⟩
  | .str z, av, rd, c2, c4, q => cases rd; exact PySem.P.repr_of_str ⟨.str _, H, I.tok _, ⟨_, rfl⟩, by simpa [PyData.shown] using q⟩ (by simpa [PyData.shown] using c4)
  | .list ds, ⟨a, _, e, _, _⟩, rd, c2, c4, q =>
    subst e
    obtain rfl : u = Value.ref a := r
    exact repr_of_reads' rd c2 (PyData.noDict_hsm (plain_noDict _ c1)) hg (by omega) (fun _ _ e => e) (fun h' u tk hk => ⟨.str _, H, I.kept (t' := tk) hk, ⟨_, rfl⟩, q⟩) c4
  | .tuple ds, ⟨a, _, e, _, _⟩, rd, c2, c4, q =>
    subst e
    obtain rfl : u = Value.ref a := r
    exact repr_of_reads' rd c2 (PyData.noDict_hsm (plain_noDict _ c1)) hg (by omega) (fun _ _ e => e) (fun h' u tk hk => ⟨.str _, H, I.kept (t' := tk) hk, ⟨_, rfl⟩, q⟩) c4
  | .dict kvs, av, rd, c2, c4, q => simp [PyData.plain] at c1
def fRepr : List D → Option D
  | [d] => if showOk d = true then some (.str d.shown) else Option.none
  | _ => Option.none
theorem b_repr : BltD X W (rRepr X.K) (mPl fRepr) := by
  refine pl_bltD fun H Q vs ds z hl hv ef k => ?_
  match ds, ef with
  | [d], ef =>
    have ef : (if showOk d = true then some (PyData.str d.shown) else Option.none) = some z := ef
    split at ef
    · rename_i ok
      cases ef
      obtain ⟨v, rfl, a⟩ := one_arg hl hv
      exact ⟨v, d, rfl, a, ok, k _ fun G => rfl⟩
    · cases ef

/-! ### a container that is changed -/
def conOf (o : T) (δ : DL.Env) (M : Mem) : Option C :=
  match o with
  | .bor i => match δ[i]? with
    | some (some (.con c)) => some c
    | _ => Option.none
  | .ref n => (M[n]?).bind C.real
  | _ => Option.none
def putE (o : T) (c : C) (δ : DL.Env) : DL.Env :=
  match o with
  | .bor i => δ.set i (some (.con c))
  | _ => δ
def putM (o : T) (c : C) (M : Mem) : Mem :=
  match o with
  | .ref n => M.set n c
  | _ => M
theorem RepG.mod {o : T} {c : C} {w : Who} (x : RepG K H G ow ι (⟨σ, δ, τ⟩ :: fs) M) (r : RT K H G ow ι σ w v o) (hc : conOf o δ M = some c) : ∃ a, v = .ref a ∧ RC K H G a c ∧
    ∀ c' ho, RC K (upd H a ho) G a c' → RepG K (upd H a ho) G ow ι (⟨σ, putE o c' δ, τ⟩ :: fs) (putM o c' M) := by
  -- whoever owns a is the one changed; all others stay
  have go : ∀ (a : Addr) (w0 : Who), ow a = some w0 → ∀ ho, Same G (upd H a ho) ∧ (∀ b u, ow b = some u → G b = none ∧ ∃ o, upd H a ho b = some o) ∧ ∀ b u, ow b = some u → u ≠ w0 → upd H a ho b = H b := fun a w0 ha ho => by
    refine ⟨fun b u e => ?_, fun b u e => ⟨(x.own b u e).1, ?_⟩, fun b u e nu => upd_ne fun z => ?_⟩
    · have : b ≠ a := fun z => by rw [z, (x.own a w0 ha).1] at e; cases e
      rw [upd_ne this]; exact x.sub _ _ e
    · by_cases hb : b = a
      · rw [hb]; exact ⟨_, upd_same⟩
      · rw [upd_ne hb]; exact (x.own b u e).2
    · rw [z, ha] at e; cases e; exact nu rfl
  cases o with
  | bor i =>
    have hv : σ[i]? = some (some v) := r
    unfold conOf at hc
    simp only at hc
    split at hc
    · rename_i c0 qe
      cases hc
      obtain ⟨_, v', e1, rt⟩ := x.slots_of qe
      rw [hv] at e1; cases e1
      obtain ⟨a, ev, oa, rc⟩ := rt
      refine ⟨a, ev, rc, fun c' ho rc' => ?_⟩
      obtain ⟨s1, s2, s3⟩ := go a _ oa ho
      refine ⟨s1, s2, x.lenM, fun n c2 ec => ?_, ⟨by show σ.length = _; simp [putE]; exact x.frs.1.len, fun j u ej => ?_, ?_⟩, ?_⟩
      · obtain ⟨b, q1, q2, q3⟩ := x.cells n c2 ec
        exact ⟨b, q1, q2, q3.keep (Same.refl _) (s3 b _ q2 (fun z => nomatch z))⟩
      · have ej' : (δ.set i (some (.con c')))[j]? = some (some u) := ej
        by_cases hj : j = i
        · subst hj
          rw [List.getElem?_set_self (List.getElem?_eq_some_iff.mp qe).1] at ej'
          cases ej'
          exact ⟨rfl, v, hv, a, ev, oa, rc'⟩
        · rw [List.getElem?_set_ne (Ne.symm hj)] at ej'
          obtain ⟨nu, v2, e2, r2⟩ := x.slots_of ej'
          exact ⟨nu, v2, e2, r2.keep (Same.refl _) (fun b q => ⟨q, s3 b _ q (fun z => by cases z; exact hj rfl)⟩) (fun _ _ q => q) (fun _ _ q => q)⟩
      · exact x.frs.1.tmps.keep (Same.refl _) (fun j _ b q => ⟨q, s3 b _ q (fun z => nomatch z)⟩) (fun _ _ q => q) (fun _ _ _ _ q => q)
      · exact x.frs.2.keep (Same.refl _) (fun w hl b q => ⟨q, s3 b _ q (fun z => by subst z; exact absurd (show fs.length < fs.length from hl) (by omega))⟩) (fun _ _ q => q)
    · cases hc
  | ref n =>
    obtain ⟨a, ev, ea⟩ := r
    obtain ⟨hm, hre⟩ := real_of (o := M[n]?) hc
    obtain ⟨b, q1, oa, rcm⟩ := x.cells n c hm
    have rc := (rcm.r hre).2
    rw [ea] at q1; cases q1
    refine ⟨a, ev, rc, fun c' ho rc' => ?_⟩
    obtain ⟨s1, s2, s3⟩ := go a _ oa ho
    refine ⟨s1, s2, by show _ = (M.set n c').length; simp [x.lenM], fun k c2 ec => ?_, ⟨x.frs.1.len, fun j u ej => ?_, ?_⟩, ?_⟩
    · have ec' : (M.set n c')[k]? = some c2 := ec
      by_cases hk : k = n
      · subst hk
        rw [List.getElem?_set_self (List.getElem?_eq_some_iff.mp hm).1] at ec'
        cases ec'
        exact ⟨a, ea, oa, rc'.m⟩
      · rw [List.getElem?_set_ne (Ne.symm hk)] at ec'
        obtain ⟨b, p1, p2, p3⟩ := x.cells k c2 ec'
        exact ⟨b, p1, p2, p3.keep (Same.refl _) (s3 b _ p2 (fun z => by cases z; exact hk rfl))⟩
    · obtain ⟨nu, v2, e2, r2⟩ := x.slots_of ej
      exact ⟨nu, v2, e2, r2.keep (Same.refl _) (fun b q => ⟨q, s3 b _ q (fun z => nomatch z)⟩) (fun _ _ q => q) (fun _ _ q => q)⟩
    · exact x.frs.1.tmps.keep (Same.refl _) (fun j _ b q => ⟨q, s3 b _ q (fun z => nomatch z)⟩) (fun _ _ q => q) (fun _ _ _ _ q => q)
    · exact x.frs.2.keep (Same.refl _) (fun w hl b q => ⟨q, s3 b _ q (fun z => by subst z; exact hl)⟩) (fun _ _ q => q)
  | d x => cases hc
  | v x => cases hc
  | con c => cases hc
  | deep c => cases hc
  | scr ns => cases hc
  | exn x => cases hc
  | st φ => cases hc
  | ext φ => cases hc
  | fz x => cases hc

/-! ### o[i] = e -/
def mStore (fo fi : Sm T) : T → Sm Unit := fun t => bnd (mFrz t) fun y => bnd fo fun o => bnd fi fun i => fun δ M =>
  match y, conOf o δ M, i with
  | .d y, some (.lst xs), .d (.int i) => (match ixN xs.length i with
    | some j => .ok () (putE o (.lst (xs.set j y)) δ) (putM o (.lst (xs.set j y)) M)
    | Option.none => .bad)
  | _, _, _ => .bad
theorem qg_store {o i : Expr} {fo fi : Sm T} (ho : QE X WF o fo) (hi : QE X WF i fi)
    (ha : ∀ v, assign (.Subscript o i pos) X.env v = (do
      let ov ← holding [v] (eval o X.env)
      let iv ← holding [v, ov] (eval i X.env)
      standAt pos
      holding [v, ov, iv] (setItem ov iv v)
      release [v, ov, iv] []) := by intro _; rfl) : QG X (.Subscript o i pos) (mStore fo fi) := by
  refine ⟨fun pins s σ H v u Q I r h => (pg_sub ho hi set_list ha).run pins s σ H v u Q I r ?_⟩
  obtain ⟨t, δ, τ, fs, M, nt, nb, rp, q⟩ := h
  have q := bnd_post q
  cases ef : mFrz t δ M with
  | ex a b c => rw [ef] at q; exact q.elim
  | bad => rw [ef] at q; exact q.elim
  | ok y δ1 M1 =>
    rw [ef] at q
    have r1 := rp.frz ef
    refine ⟨δ1, (v, y) :: τ, fs, M1, r1, Res.post_mono (bnd_post q) (fun ot δ2 M2 q2 ov H2 r2 => ?_) fun _ _ _ z => z.elim⟩
    refine ⟨δ2, (ov, ot) :: (v, y) :: τ, fs, M2, r2, Res.post_mono (bnd_post q2) (fun it δ3 M3 q3 iv H3 r3 => ?_) fun _ _ _ z => z.elim⟩
    split at q3
    · rename_i y' xs k e1
      obtain ⟨G, ow, ι, x⟩ := r3
      obtain ⟨a, ea, ⟨us, ha2, al⟩, go⟩ := x.mod x.pop.top e1
      have ek : iv = .int k := x.top
      have ay : At X.K G v y' := x.pop.pop.top
      cases ej : ixN xs.length k with
      | none => rw [ej] at q3; exact q3.elim
      | some j =>
        rw [ej] at q3
        refine ⟨a, us, k, j, ea, ek, ha2, by rw [al.length]; exact ej, q3 σ _ ?_⟩
        exact ⟨G, ow, ι, (go (.lst (xs.set j y')) (.lst (us.set j v)) ⟨us.set j v, upd_same, al.set ay⟩).pop.pop.pop⟩
    · exact q3.elim

/-! ### methods that change a list -/
/-- o.m(e, ..): o a list's name -/
def isLst (o : T) (δ : DL.Env) (M : Mem) : Bool :=
  match conOf o δ M with
  | some (.lst _) => true
  | _ => false
def mMeth (fo : Sm T) (fa : Sm (List T)) (F : List D → List D → Option (List D × D)) : Sm T := bnd fo fun o => fun δ M =>
  if isLst o δ M = true then (bnd fa fun ts => fun δ M =>
    match conOf o δ M with
    | some (.lst xs) => (match (allD ts).bind fun ds => F xs ds with
      | some (xs', z) => .ok (.d z) (putE o (.lst xs') δ) (putM o (.lst xs') M)
      | Option.none => .bad)
    | _ => .bad) δ M else .bad
def MethD (K : KF) (r : V → List V → Hp → VK → Prop) (F : List D → List D → Option (List D × D)) : Prop := ∀ (H G : Hp) (a : Addr) (us vs : List V) (xs ds xs' : List D) (z : D) (Q : VK), Same G H → H a = some (.lst us) → AtL K G us xs → AtL K G vs ds → F xs ds = some (xs', z) →
  (∀ us' w, AtL K G us' xs' → At K G w z → Q w (upd H a (.lst us'))) → r (.ref a) vs H Q
theorem pops_mem {p : V × T} : ∀ {vs : List V} {ts : List T} {τ : List (V × T)}, RepG K H G ow ι (⟨σ, δ, rz vs ts τ⟩ :: fs) M → vs.length = ts.length → RepG K H G ow ι (⟨σ, δ, τ⟩ :: fs) M := by
  intro vs ts τ x hl
  obtain ⟨h1, h2⟩ := rts_rz hl x.frs.1.tmps
  exact ⟨x.sub, x.own, x.lenM, x.cells, ⟨x.frs.1.len, x.frs.1.slots, h1⟩, x.frs.2⟩
theorem meth_end {r : V → List V → Hp → VK → Prop} {F : List D → List D → Option (List D × D)} {Q : VK} {ov : V} {o : T} {vs : List V} {ts : List T} {x' : XD → DL.Env → Mem → Prop} (hF : MethD K r F) (hl : vs.length = ts.length) (rp : Rep K H (⟨σ, δ, rz vs ts ((ov, o) :: τ)⟩ :: fs) M)
    (q : (match conOf o δ M with
    | some (.lst xs) => (match (allD ts).bind fun ds => F xs ds with
      | some (xs', z) => Res.ok (T.d z) (putE o (.lst xs') δ) (putM o (.lst xs') M)
      | Option.none => .bad)
    | _ => .bad).post (fun r δ' M' => ∀ v H', Rep K H' (⟨σ, δ', (v, r) :: τ⟩ :: fs) M' → Q v H') x') : r ov vs H Q := by
  cases ec : conOf o δ M with
  | none => rw [ec] at q; exact q.elim
  | some c =>
    rw [ec] at q
    cases c with
    | dct _ => exact q.elim
    | tab _ => exact q.elim
    | obj _ _ => exact q.elim
    | dcn _ => exact q.elim
    | lst xs =>
      simp only at q
      cases ed : allD ts with
      | none => rw [ed] at q; exact q.elim
      | some ds =>
        rw [ed] at q
        simp only [Option.bind_some] at q
        cases ef : F xs ds with
        | none => rw [ef] at q; exact q.elim
        | some p =>
          obtain ⟨xs', z⟩ := p
          rw [ef] at q
          obtain ⟨G, ow, ι, x, al⟩ := rp.pops hl ed
          obtain ⟨a, ea, ⟨us, ha, au⟩, go⟩ := x.mod x.top ec
          have ea' : ov = .ref a := ea
          subst ea'
          refine hF H G a us vs xs ds xs' z Q x.sub ha au al ef fun us' w a1 a2 => q w _ ?_
          exact ⟨G, ow, ι, (go (.lst xs') (.lst us') ⟨us', upd_same, a1⟩).pop.push (t := .d z) a2⟩
theorem lst_ty {o : T} {ov : V} (rp : Rep K H (⟨σ, δ, (ov, o) :: τ⟩ :: fs) M) (h : isLst o δ M = true) : tyV K "list" ov H := by
  unfold isLst at h
  split at h
  · rename_i xs e
    obtain ⟨G, ow, ι, x⟩ := rp
    obtain ⟨a, ea, ⟨us, ha, _⟩, _⟩ := x.mod x.top e
    have ea' : ov = .ref a := ea
    subst ea'
    exact .inl ⟨rfl, us, SqL.of ha⟩
  · cases h
section
variable {name : Str} {id : String} {r : V → List V → Hp → VK → Prop} {F : List D → List D → Option (List D × D)} {o : Expr} {es : List Expr} {apos cpos : Pos} {fo : Sm T} {fa : Sm (List T)}
theorem qe_meth (slot : Slot "list" name id) (hty : typeOf (.builtin id) = pure (.type "method_descriptor")) (hm : MtR X id r) (hF : MethD X.K r F) (ho : QE X W o fo) (ha : QA X W (e :: es) fa)
    (hbase : attributeBase o name X.env (eval o X.env) = eval o X.env := by rfl)
    (hfew : ((backTo cpos (starEach (e :: es) X.env)).all (fun x => !x.1) && (backToKw cpos (keywordEach [] X.env)).all (fun x => x.1.isSome)
      && decide ((e :: es).length + ([] : List Keyword).length + (if ([] : List Keyword).isEmpty then 0 else 1) < 30)) = true := by rfl)
    (hline : (apos.endLine == cpos.line) = true := by rfl) (hs : starEach (e :: es) X.env = (false, eval e X.env) :: starEach es X.env := by rfl) (hplain : (backTo cpos (starEach es X.env)).any (·.1) = false := by rfl) :
    QE X W (.Call (.Attribute o name apos) (e :: es) [] cpos) (mMeth fo fa F) := by
  refine (pe_bm PySem.F.plainAttrs_list slot hty hm ho ha hbase hfew hline hs hplain).imp fun σ H Q ⟨δ, τ, fs, M, rp, q⟩ => ⟨δ, τ, fs, M, rp, Res.post_mono (bnd_post q) (fun ot δ1 M1 q1 ov H1 r1 => ?_) fun _ _ _ z => z⟩
  split at q1
  · rename_i hl
    exact ⟨lst_ty r1 hl, δ1, (ov, ot) :: τ, fs, M1, r1, Res.post_mono (bnd_post q1) (fun ts δ2 M2 q2 vs H2 hl2 r2 => meth_end hF hl2 r2 q2) fun _ _ _ z => z.push⟩
  · exact q1.elim
theorem qe_meth0 (slot : Slot "list" name id) (hty : typeOf (.builtin id) = pure (.type "method_descriptor")) (hm : MtR X id r) (hF : MethD X.K r F) (ho : QE X W o fo)
    (hbase : attributeBase o name X.env (eval o X.env) = eval o X.env := by rfl) (hline : (apos.endLine == cpos.line) = true := by rfl) : QE X W (.Call (.Attribute o name apos) [] [] cpos) (mMeth fo mNil F) := by
  refine (pe_bm0 PySem.F.plainAttrs_list slot hty hm ho hbase hline).imp fun σ H Q ⟨δ, τ, fs, M, rp, q⟩ => ⟨δ, τ, fs, M, rp, Res.post_mono (bnd_post q) (fun ot δ1 M1 q1 ov H1 r1 => ?_) fun _ _ _ z => z⟩
  split at q1
  · rename_i hl
    exact ⟨lst_ty r1 hl, meth_end (vs := []) (ts := []) hF rfl r1 q1⟩
  · exact q1.elim
end
def fAppend (xs : List D) : List D → Option (List D × D)
  | [y] => if xs.length < 16000000 then some (xs ++ [y], .none) else Option.none
  | _ => Option.none
def fExtend (xs : List D) : List D → Option (List D × D)
  | [.list ys] => if xs.length + ys.length ≤ 16000000 then some (xs ++ ys, .none) else Option.none
  | _ => Option.none
def fPop (xs : List D) : List D → Option (List D × D)
  | [] => (xs[xs.length - 1]?).map fun y => (xs.dropLast, y)
  | _ => Option.none
def fPopAt (xs : List D) : List D → Option (List D × D)
  | [.int i] => if small62 i = true then (seqIndex? i xs.length).bind fun k => (xs[k]?).map fun y => (xs.eraseIdx k, y) else Option.none
  | _ => Option.none
theorem line16' {n : Nat} (h : n ≤ 16000000) : n ≤ sizeLine := Nat.le_trans h (by decide)
theorem m_append : MethD K rAppend fAppend := by
  intro H G a us vs xs ds xs' z Q s ha au av ef q
  match ds, ef with
  | [y], ef =>
    unfold fAppend at ef
    simp only at ef
    split at ef
    · rename_i hz
      cases ef
      obtain ⟨w, r, e, aw, ar⟩ := av
      cases ar
      subst e
      exact ⟨a, us, w, rfl, rfl, ha, line16 (by rw [au.length]; omega), q _ _ (au.app (AtL.one aw)) rfl⟩
    · cases ef
theorem m_extend : MethD K rExtend fExtend := by
  intro H G a us vs xs ds xs' z Q s ha au av ef q
  match ds, ef with
  | [.list ys], ef =>
    unfold fExtend at ef
    simp only at ef
    split at ef
    · rename_i hz
      cases ef
      obtain ⟨w, r, e, aw, ar⟩ := av
      cases ar
      subst e
      obtain ⟨b, ws, e2, hb, ab⟩ := aw
      subst e2
      exact ⟨a, b, us, ws, rfl, rfl, ha, s _ _ hb, line16' (by rw [au.length, ab.length]; omega), q _ _ (au.app ab) rfl⟩
    · cases ef
theorem AtL.dropLast {vs : List V} {ds : List D} (a : AtL K G vs ds) : AtL K G vs.dropLast ds.dropLast := by
  rw [List.dropLast_eq_take, List.dropLast_eq_take, a.length]
  exact AtL.take _ a
theorem m_pop : MethD K rPop fPop := by
  intro H G a us vs xs ds xs' z Q s ha au av ef q
  match ds, ef with
  | [], ef =>
    cases av
    have ef : ((xs[xs.length - 1]?).map fun y => (xs.dropLast, y)) = some (xs', z) := ef
    cases e : xs[xs.length - 1]? with
    | none => rw [e] at ef; cases ef
    | some y =>
      rw [e] at ef
      cases ef
      obtain ⟨w, ew, aw⟩ := au.get e
      exact ⟨a, us, w, rfl, rfl, ha, by rw [au.length]; exact ew, q _ _ au.dropLast aw⟩
theorem AtL.eraseIdx {vs : List V} {ds : List D} (a : AtL K G vs ds) (k : Nat) : AtL K G (vs.eraseIdx k) (ds.eraseIdx k) := by
  rw [List.eraseIdx_eq_take_drop_succ, List.eraseIdx_eq_take_drop_succ]
  exact (AtL.take _ a).app (AtL.drop _ a)
theorem m_popAt : MethD K rPopAt fPopAt := by
  intro H G a us vs xs ds xs' z Q s ha au av ef q
  match ds, ef with
  | [.int i], ef =>
    unfold fPopAt at ef
    simp only at ef
    split at ef
    · rename_i hz
      obtain ⟨b1, b2⟩ := small62_iff.mp hz
      obtain ⟨w, r, e, aw, ar⟩ := av
      cases ar
      subst e
      have aw : w = .int i := aw
      subst aw
      cases ek : seqIndex? i xs.length with
      | none => rw [ek] at ef; cases ef
      | some k =>
        rw [ek] at ef
        simp only [Option.bind_some] at ef
        cases ey : xs[k]? with
        | none => rw [ey] at ef; cases ef
        | some y =>
          rw [ey] at ef
          cases ef
          obtain ⟨w2, ew, aw2⟩ := au.get ey
          exact ⟨a, us, i, k, w2, rfl, rfl, ha, by omega, by omega, by rw [au.length]; exact ek, ew, q _ _ (au.eraseIdx k) aw2⟩
    · cases ef
end DL

end
section
namespace DL
open PySem PySem.Spec L2 PyProof.Rows
/-- a law's run: from the def's promise at the heap behind the top -/
theorem law_run {P : Program} {w : World} {K : KF} {mg mb : PySem.Str → Option Value} {k : Nat} {fa a : Addr} {fd : FuncData} {x : PySem.Str} {g : Fm} {s₁ : Shared} {vs : List Value} {ns : List Int}
    (KX : K.In s₁.heap) (hns : s₁.heap.Ns mainGlobals mg) (hb : s₁.heap.Ns builtinsNs mb) (hbb : ∀ x : PySem.Str, x ≠ "__name__" → mb x = bootBuiltins x) (lim : s₁.heap.NoLimit) (gens : s₁.gens = #[])
    (ha : s₁.heap.get? a = some { cls := .type "list", data := .seq vs.toArray }) (hi : IntsAre vs ns) (hl : ns.length ≤ sizeLine) (room : Room k callerA)
    (F : ∀ base : Heap, K.In base → base.Ns mainGlobals mg → FnG P w K mg base k fa fd [x] (spG K 1 g)) (bind : ∀ (s : Shared) (u : Value), BindsTo s fd ⟨[u], []⟩ [(x, u)])
    (hg : ∃ δ M, g [.scr ns] [] = .ok (.d (.bool true)) δ M) :
    codeAny (model P w) callerA (.call (.ref fa) ⟨[.ref a], []⟩) (fun r s' => r = .ok (.ret (.bool true)) ∧ OldK s₁.heap s'.heap ∧ s'.os = s₁.os ∧ AllBare s'.gens) s₁ := by
  have rv := vals_ints hi
  have core : ∀ H : Hp, Only H → SqL K H a (ns.map V.int) → HOk P w H s₁.heap → (∀ b, H b ≠ none → b = a ∧ K.lookup a = none) →
      codeAny (model P w) callerA (.call (.ref fa) ⟨[.ref a], []⟩) (fun r s' => r = .ok (.ret (.bool true)) ∧ OldK s₁.heap s'.heap ∧ s'.os = s₁.os ∧ AllBare s'.gens) s₁ := by
    intro H hO hS hok hA
    have un : ∀ {b : Addr} {o : Obj}, s₁.heap.get? b = some o → (∀ es ep, o.data ≠ .dict es ep → False) → H b = none := fun {b o} e hd => by
      cases z : H b with
      | none => rfl
      | some u =>
        obtain ⟨eb, _⟩ := hA b (by rw [z]; exact nofun)
        rw [eb, ha] at e
        cases e
        exact (hd #[] 0 (by intro zz; cases zz)).elim
    have ns_of : ∀ {b : Addr} {m : PySem.Str → Option Value}, s₁.heap.Ns b m → (hidT s₁.heap H).Ns b m := fun {b m} ⟨o, es, ep, e, d, r⟩ => by
      refine ⟨o, es, ep, hidT_get e ?_, d, r⟩
      cases z : H b with
      | none => rfl
      | some u =>
        obtain ⟨eb, _⟩ := hA b (by rw [z]; exact nofun)
        rw [eb, ha] at e
        cases e
        cases d
    have kin : K.In (hidT s₁.heap H) := fun b o e => hidT_get (KX b o e) (by
      cases z : H b with
      | none => rfl
      | some u =>
        obtain ⟨eb, hk⟩ := hA b (by rw [z]; exact nofun)
        rw [eb, hk] at e; cases e)
    have mod : Mod K mg (hidT s₁.heap H) := ⟨kin, ns_of hns, ⟨mb, ns_of hb, hbb⟩, (let ⟨mc, h1, h2⟩ := lim; ⟨mc, ns_of h1, h2⟩)⟩
    have e0 : Env0 P w K mg (hidT s₁.heap H) callerA [] s₁ H := ⟨rfl, mod, fun b o e => of_hidT e, Nat.le_of_eq (hidT_size _ _), trivial, fun b hb => (nomatch hb), hok, AllBare.of_eq gens⟩
    have rep : Rep K H [⟨[some (.ref a)], [some (.scr ns)], []⟩] [] := by
      refine ⟨H, fun _ => none, [], ⟨Same.refl _, fun _ _ e => (nomatch e), rfl, fun n c e => (by simp at e), ⟨rfl, fun i t e => ?_, trivial⟩, trivial⟩⟩
      cases i with
      | zero =>
        simp at e
        subst e
        exact ⟨rfl, _, rfl, a, rfl, hS⟩
      | succ i => simp at e
    have sp : spG K 1 g [.ref a] H (fun v _ => v = .bl true) (fun _ _ _ => False) := by
      obtain ⟨δ, M, eg⟩ := hg
      refine ⟨[.scr ns], [], [], rfl, rfl, rep, ?_⟩
      rw [eg]
      exact ⟨rfl, fun v H' r => r.topD⟩
    refine codeAny_mono ((F _ kin (ns_of hns)).run (us := [.ref a]) (vs := [.ref a]) room rfl e0 (bind s₁ (.ref a)) (.cons rfl .nil) sp) fun r s' h => ?_
    cases r with
    | error e => exact absurd h (fun z => by obtain ⟨_, _, _, _, _, _, _, _, _, _, _, _, z⟩ := z; exact z)
    | ok fl =>
      cases fl with
      | next => exact h.elim
      | brk => exact h.elim
      | cont => exact h.elim
      | ret u =>
        obtain ⟨v, H', os, bare, keep, hok', r', q⟩ := h
        have q' : v = .bl true := q
        subst q'
        obtain rfl : u = Value.bool true := r'
        refine ⟨rfl, OldK.of_keep fun b o e => ?_, os, bare⟩
        cases z : H b with
        | none => exact keep.keep b o e z (fun z => nomatch z) (fun z => nomatch z)
        | some u =>
          rcases hO b with z2 | ⟨ob, xs, z2⟩
          · rw [z] at z2; cases z2
          · obtain ⟨e1, _⟩ := hok b _ z2
            obtain ⟨e2, _⟩ := hok' b _ (keep.frzs b ob _ z2)
            rw [e] at e1; cases e1
            exact e2
  have lenV := hi.length
  cases hk : K.lookup a with
  | some o =>
    have e := KX a o hk
    rw [ha] at e
    cases e
    exact core (fun _ => none) (fun _ => .inl rfl) (.inr ⟨_, vs.toArray, _, hk, rfl, rfl, rfl, by rw [List.size_toArray, lenV]; exact hl, by simpa using rv⟩) (fun b u z => nomatch z) fun b z => absurd rfl z
  | none =>
    have at_a : ∀ {b : Addr} {u : HO}, (if b = a then some (HO.frz { cls := .type "list", data := .seq vs.toArray } (.lst (ns.map V.int))) else none) = some u → b = a ∧ u = HO.frz { cls := .type "list", data := .seq vs.toArray } (.lst (ns.map V.int)) := fun {b u} z => by
      by_cases hb : b = a
      · rw [if_pos hb] at z; exact ⟨hb, (Option.some.inj z).symm⟩
      · rw [if_neg hb] at z; cases z
    refine core (fun b => if b = a then some (.frz { cls := .type "list", data := .seq vs.toArray } (.lst (ns.map V.int))) else none) (fun b => ?_) (.inl (.inr ⟨_, if_pos rfl⟩)) (fun b u z => ?_) fun b z => ⟨?_, hk⟩
    · by_cases hb : b = a
      · exact .inr ⟨_, _, if_pos hb⟩
      · exact .inl (if_neg hb)
    · obtain ⟨eb, eu⟩ := at_a z
      subst eb eu
      exact ⟨ha, by rw [List.length_map]; exact hl, vs, _, rv, ha⟩
    · by_cases hb : b = a
      · exact hb
      · exact absurd (if_neg hb) z
/-- the goal that the head leaves -/
theorem law_walk {l : PySem.W.OpenLaw} {k : Nat} {q : Program} {loose : List PySem.Str} {XP : (PySem.Str → Option Value) → Heap → Prop} {YP : World → Heap → Prop} {d : DefRec} {K : Params → KF} {x : PySem.Str} {g : World → Fm}
    (hn : l.most = some 63) (hdf : d.params.defaults = []) (hr : Room k callerA) (hY : ∀ (w : World) (h : Heap), YP w h → (K w.params).In h)
    (F : ∀ (w : World) (mg : PySem.Str → Option Value) (fa : Addr) (h : Heap), (K w.params).In h → h.Ns mainGlobals mg → mg d.name = some (.ref fa) →
      ∃ fd : FuncData, (∀ (s : Shared) (u : Value), BindsTo s fd ⟨[u], []⟩ [(x, u)]) ∧ ∀ base : Heap, (K w.params).In base → base.Ns mainGlobals mg → FnG l.prog w (K w.params) mg base k fa fd [x] (spG (K w.params) 1 (g w)))
    (hg : ∀ (w : World) (ns : List Int), ns.length ≤ 63 → ∃ δ M, g w [.scr ns] [] = .ok (.d (.bool true)) δ M) :
    PySem.W.WalkO q loose XP YP l.row.toRowW d [] (fun f vs => PySem.call f vs) := by
  refine Att.attach_call hn hdf fun w s₀ s₁ mg mb fa o pm cd doc a vs ns G Y ho hd hcd hmg hobj hints hlen hgen => ?_
  obtain ⟨fd, hb, hF⟩ := F w mg fa _ (hY w _ Y) G.T.g hmg
  exact law_run (hY w _ Y) G.T.g G.T.b G.T.builtins G.T.nolimit hgen hobj hints (Nat.le_trans hlen (by decide)) hr hF hb (hg w ns hlen)
end DL

end
section
namespace DL
open PySem PySem.Spec L2
variable {X : Cx} {W : WX} {K : KF} {H G : Hp} {ow : Addr → Option Who} {ι : List Addr} {σ : St} {δ : DL.Env} {τ : List (V × T)} {fs : List Fram} {M : Mem} {v u : V} {t : T} {e e' e'' : Expr} {pos : Pos}

/-! ### lengths of argument lists -/
def LenA (fa : Sm (List T)) (n : Nat) : Prop := ∀ δ M ts δ' M', fa δ M = .ok ts δ' M' → ts.length = n
theorem len_nil : ∀ δ M ts δ' M', mNil δ M = .ok ts δ' M' → ts.length = 0 := by
  intro δ M ts δ' M' h; cases h; rfl
theorem len_cons {f : Sm T} {fa : Sm (List T)} {n : Nat} (h : ∀ δ M ts δ' M', fa δ M = .ok ts δ' M' → ts.length = n) : ∀ δ M ts δ' M', mCons f fa δ M = .ok ts δ' M' → ts.length = n + 1 := by
  intro δ M ts δ' M' e
  unfold mCons bnd at e
  cases e1 : f δ M with
  | ok a δ1 M1 =>
    simp only [e1] at e
    cases e2 : fa δ1 M1 with
    | ok b δ2 M2 =>
      simp only [e2] at e
      cases e
      simp [h _ _ _ _ _ e2]
    | ex a b c => simp only [e2] at e; cases e
    | bad => simp only [e2] at e; cases e
  | ex a b c => simp only [e1] at e; cases e
  | bad => simp only [e1] at e; cases e

/-! ### the built-in names -/
theorem boot_fn_len : bootBuiltins "len" = some (.builtin "len") := by decide +kernel
theorem boot_fn_abs : bootBuiltins "abs" = some (.builtin "abs") := by decide +kernel
theorem boot_fn_all : bootBuiltins "all" = some (.builtin "all") := by decide +kernel
theorem boot_fn_any : bootBuiltins "any" = some (.builtin "any") := by decide +kernel
theorem boot_fn_repr : bootBuiltins "repr" = some (.builtin "repr") := by decide +kernel
theorem boot_fn_max : bootBuiltins "max" = some (.builtin "max") := by decide +kernel
theorem boot_fn_min : bootBuiltins "min" = some (.builtin "min") := by decide +kernel
theorem boot_ty_int : bootBuiltins "int" = some (.type "int") := by decide +kernel
theorem boot_ty_tuple : bootBuiltins "tuple" = some (.type "tuple") := by decide +kernel
theorem boot_ty_list : bootBuiltins "list" = some (.type "list") := by decide +kernel

/-! ### chains -/
section
variable {op op' : CmpOp} {F F' : D → D → Option D} {f g h : Sm T}
theorem qe_chain (c : CD X op F) (c' : CD X op' F') (h1 : QE X W e f) (h2 : QE X W e' g) (h3 : QE X W e'' h) (hm : lastMarks [op, op'] [e', e''] = false := by with_unfolding_all rfl) : QE X W (.Compare e [op, op'] [e', e''] pos) (mChain F F' f g h) := by
  obtain ⟨r, a, b⟩ := c
  obtain ⟨r', a', b'⟩ := c'
  exact (pe_chain a a' h1 h2 h3 hm).imp fun _ _ _ q => chain_of b b' q
theorem qt_chain (c : CD X op F) (c' : CD X op' F') (h1 : QE X W e f) (h2 : QE X W e' g) (h3 : QE X W e'' h) (hm : lastMarks [op, op'] [e', e''] = false := by with_unfolding_all rfl) : QT X W (.Compare e [op, op'] [e', e''] pos) (mTest (mChain F F' f g h)) := by
  obtain ⟨r, a, b⟩ := c
  obtain ⟨r', a', b'⟩ := c'
  exact (pt_chain a a' h1 h2 h3 hm).imp fun _ _ _ q => chain_of b b' (test_of q)
end
theorem qs_retN : QS X W (.Return none pos) (mRet (mD .none)) := by
  refine ps_retN.imp fun D σ H ⟨δ, τ, fs, M, nb, r, q⟩ => ?_
  exact q.2 _ σ H (r.pushD (x := .none) (v := .non) fun _ _ => rfl)

/-! ### evaluating -/
section
variable {α β : Type}
@[simp] theorem e_ret {a : α} : ret a δ M = .ok a δ M := rfl
@[simp] theorem e_fail : (fail : Sm α) δ M = .bad := rfl
@[simp] theorem e_bnd {f : Sm α} {g : α → Sm β} : bnd f g δ M = (match f δ M with
    | .ok a δ' M' => g a δ' M'
    | .ex x δ' M' => .ex x δ' M'
    | .bad => .bad) := rfl
@[simp] theorem e_seq {f g : Sm Fl} : mSeq f g δ M = bnd f (fun fl => match fl with
  | .nx => g
  | fl => ret fl) δ M := rfl
@[simp] theorem e_if {c : Sm Bool} {f g : Sm α} : mIf c f g δ M = bnd c (fun b => if b = true then f else g) δ M := rfl
@[simp] theorem e_iteT {f g : Sm α} : (if true = true then f else g) = f := rfl
@[simp] theorem e_iteF {f g : Sm α} : (if false = true then f else g) = g := rfl
@[simp] theorem e_test {f : Sm T} : mTest f δ M = bnd f (fun t => fun δ M => match vw t δ M with
  | some (.bool b) => .ok b δ M
  | _ => .bad) δ M := rfl
@[simp] theorem e_notT {f : Sm Bool} : mNotT f δ M = bnd f (fun b => ret (!b)) δ M := rfl
@[simp] theorem e_andT {f g : Sm Bool} : mAndT f g δ M = bnd f (fun b => if b = true then g else ret false) δ M := rfl
@[simp] theorem e_orT {f g : Sm Bool} : mOrT f g δ M = bnd f (fun b => if b = true then ret true else g) δ M := rfl
@[simp] theorem e_op2 {F : D → D → Option D} {f g : Sm T} : mOp2 F f g δ M = bnd f (fun x => bnd g fun y => fun δ M => opt (((vw x δ M).bind fun a => (vw y δ M).bind fun b => F a b).bind fun z => if plain z = true then some (T.d z) else Option.none) δ M) δ M := rfl
@[simp] theorem e_opT {F : D → D → Option T} {f g : Sm T} : mOpT F f g δ M = bnd f (fun x => bnd g fun y => fun δ M => opt ((vw x δ M).bind fun a => (vw y δ M).bind fun b => F a b) δ M) δ M := rfl
@[simp] theorem e_name {i : Nat} : mName i δ M = (match δ[i]? with
  | some (some (.d x)) => .ok (.d x) δ M
  | some (some (.v x)) => .ok (.v x) δ M
  | some (some (.ref n)) => .ok (.ref n) δ M
  | some (some (.scr ns)) => .ok (.scr ns) δ M
  | some (some (.exn x)) => .ok (.exn x) δ M
  | some (some (.fz x)) => .ok (.fz x) δ M
  | some (some (.con _)) => .ok (.bor i) δ M
  | some (some (.deep _)) => .ok (.bor i) δ M
  | _ => .bad) := rfl
@[simp] theorem e_set {i : Nat} {f : Sm T} : mSet i f δ M = bnd f (fun t => bnd (mOwn t) fun r => fun δ M => if i < δ.length then .ok .nx (δ.set i (some r)) M else .bad) δ M := rfl
@[simp] theorem e_setC {i : Nat} {f : Sm T} : mSetC i f δ M = bnd f (fun t => fun δ M => match t with
  | .con c => if i < δ.length then .ok .nx (δ.set i (some (.ref M.length))) (M ++ [c]) else .bad
  | _ => .bad) δ M := rfl
@[simp] theorem e_cell {f : Sm T} : mCell f δ M = bnd f (fun t => fun δ M => match t with
  | .con c => .ok (.ref M.length) δ (M ++ [c])
  | _ => .bad) δ M := rfl
@[simp] theorem e_retS {f : Sm T} : mRet f δ M = bnd f (fun t => bnd (mOwn t) fun r => ret (.rt r)) δ M := rfl
@[simp] theorem e_expr {f : Sm T} : mExpr f δ M = bnd f (fun _ => ret .nx) δ M := rfl
@[simp] theorem e_do {g : Sm Unit} : mDo g δ M = (match g δ M with
  | .ok _ δ' M' => .ok .nx δ' M'
  | _ => .bad) := rfl
@[simp] theorem e_tgt {g : Sm Unit} {h : Sm Fl} : mTgt g h δ M = (match g δ M with
  | .ok _ δ' M' => h δ' M'
  | _ => .bad) := rfl
@[simp] theorem e_asg {f : Sm T} {g : T → Sm Unit} : mAsg f g δ M = bnd f (fun t => bnd (mOwn t) fun r => mDo (g r)) δ M := rfl
@[simp] theorem e_nm {i : Nat} {t : T} : mNm i t δ M = if i < δ.length then .ok () (δ.set i (some t)) M else .bad := rfl
@[simp] theorem e_gn : mGn [] δ M = .ok () δ M := rfl
@[simp] theorem e_gc {f : T → Sm Unit} {g : List D → Sm Unit} {d : D} {r : List D} : mGc f g (d :: r) δ M = bnd (f (.d d)) (fun _ => g r) δ M := rfl
@[simp] theorem e_gt' {n : Nat} {g : List D → Sm Unit} {ds : List D} : mGt n g (.d (.tuple ds)) δ M = if ds.length = n then g ds δ M else .bad := by
  unfold mGt; simp only; split <;> rfl
@[simp] theorem e_store {fo fi : Sm T} {t : T} : mStore fo fi t δ M = bnd (mFrz t) (fun y => bnd fo fun o => bnd fi fun i => fun δ M =>
  match y, conOf o δ M, i with
  | .d y, some (.lst xs), .d (.int i) => (match ixN xs.length i with
    | some j => .ok () (putE o (.lst (xs.set j y)) δ) (putM o (.lst (xs.set j y)) M)
    | Option.none => .bad)
  | _, _, _ => .bad) δ M := rfl
@[simp] theorem e_cons {f : Sm T} {g : Sm (List T)} : mCons f g δ M = bnd f (fun t => bnd g fun ts => ret (t :: ts)) δ M := rfl
@[simp] theorem e_tup {f : Sm (List T)} : mTup f δ M = bnd f (fun ts => opt ((allD ts).bind fun ds => if ds.length ≤ 1000 then some (.d (.tuple ds)) else Option.none)) δ M := rfl
@[simp] theorem e_lst {f : Sm (List T)} : mLst f δ M = bnd f (fun ts => opt ((allD ts).bind fun ds => if ds.length ≤ 1000 then some (.con (.lst ds)) else Option.none)) δ M := rfl
@[simp] theorem e_allN : allD [] = some [] := rfl
@[simp] theorem e_allC {x : D} {r : List T} : allD (.d x :: r) = (allD r).map (x :: ·) := rfl
@[simp] theorem e_vwsN : vws [] δ M = some [] := rfl
@[simp] theorem e_vwsC {t : T} {ts : List T} : vws (t :: ts) δ M = (vw t δ M).bind fun d => (vws ts δ M).map (d :: ·) := rfl
@[simp] theorem e_blt {F : List T → Sm T} {fa : Sm (List T)} : mBlt F fa δ M = bnd fa F δ M := rfl
@[simp] theorem e_pl {F : List D → Option D} {ts : List T} : mPl F ts δ M = opt (((vws ts δ M).bind F).bind fun z => if plain z = true then some (T.d z) else Option.none) δ M := rfl
@[simp] theorem e_bt {F : D → Option T} {t : T} : mBT F [t] δ M = opt ((vw t δ M).bind F) δ M := rfl
@[simp] theorem e_scrLen {ns : List Int} : mScrLen [.scr ns] δ M = .ok (.d (.int ns.length)) δ M := rfl
@[simp] theorem e_scrIx {f g : Sm T} : mScrIx f g δ M = bnd f (fun x => bnd g fun y => opt (match x, y with
  | .scr ns, .d (.int i) => (atI ns i).map fun n => T.d (.int n)
  | _, _ => Option.none)) δ M := rfl
@[simp] theorem e_call {g : Fm} {fa : Sm (List T)} : mCall g fa δ M = bnd fa (fun ts => fun δ M =>
  if ts.all (fun t => !t.isBor) = true then
    match g ts M with
    | .ok r _ M' => if r.isBor = true then .bad else .ok r δ M'
    | .ex e _ M' => .ex e δ M'
    | .bad => .bad
  else .bad) δ M := rfl
@[simp] theorem e_callK {π : List Nat} {g : Fm} {fa : Sm (List T)} : mCallK π g fa δ M = bnd fa (fun ts => fun δ M =>
  if ts.all (fun t => match t with | .d _ => true | _ => false) = true then
    match g (perm π ts) M with
    | .ok r _ M' => if r.isBor = true then .bad else .ok r δ M'
    | .ex e _ M' => .ex e δ M'
    | .bad => .bad
  else .bad) δ M := rfl
@[simp] theorem e_perm {α : Type} {i : Nat} {π : List Nat} {l : List α} : perm (i :: π) l = (match l[i]? with | some x => x :: perm π l | Option.none => perm π l) := by
  unfold perm
  rw [List.filterMap_cons]
  cases l[i]? <;> rfl
@[simp] theorem e_perm0 {α : Type} {l : List α} : perm [] l = [] := rfl
@[simp] theorem e_for {g : Sm (List D)} {tg : T → Sm Unit} {b : Sm Fl} : mFor g tg b δ M = bnd g (forF tg b) δ M := rfl
@[simp] theorem e_seqIt {f : Sm T} : mSeqIt f δ M = bnd (bnd f mFrz) (fun t => match t with
  | .d (.list ds) => ret ds
  | .d (.tuple ds) => ret ds
  | _ => fail) δ M := rfl
@[simp] theorem e_range1 {f : Sm (List T)} : mRange1 f δ M = bnd f (fun ts => match ts with
  | [.d (.int j)] => if small62 j = true then ret ((List.range j.toNat).map fun k => .int (0 + (k : Nat))) else fail
  | _ => fail) δ M := rfl
@[simp] theorem e_range2 {f : Sm (List T)} : mRange2 f δ M = bnd f (fun ts => match ts with
  | [.d (.int i), .d (.int j)] => if small62 i = true ∧ small62 j = true then ret ((List.range (j - i).toNat).map fun k => .int (i + (k : Nat))) else fail
  | _ => fail) δ M := rfl
@[simp] theorem e_while {n : Nat} {c : Sm Bool} {b : Sm Fl} : mWhile n c b = whileF c b n := rfl
@[simp] theorem e_tupF {ds : List D} : fTuple (.list ds) = some (.d (.tuple ds)) := rfl
@[simp] theorem e_tupF2 {ds : List D} : fTuple (.tuple ds) = some (.d (.tuple ds)) := rfl
@[simp] theorem e_lstF {ds : List D} : fList (.list ds) = some (.con (.lst ds)) := rfl
@[simp] theorem e_lstF2 {ds : List D} : fList (.tuple ds) = some (.con (.lst ds)) := rfl
@[simp] theorem e_lenL {ds : List D} : fLen [.list ds] = some (.int ds.length) := rfl
@[simp] theorem e_lenT {ds : List D} : fLen [.tuple ds] = some (.int ds.length) := rfl
theorem e_max {i j : Int} : fMax [.int i, .int j] = some (.int (if j > i then j else i)) := rfl
theorem e_min {i j : Int} : fMin [.int i, .int j] = some (.int (if j < i then j else i)) := rfl
theorem e_abs {i : Int} : fAbs [.int i] = some (.int (if i < 0 then -i else i)) := rfl
@[simp] theorem e_intI {i : Int} : fInt [.int i] = some (.int i) := rfl
@[simp] theorem e_intB {i : Bool} : fInt [.bool i] = some (.int (if i then 1 else 0)) := rfl
theorem e_addT {a b : List D} (h : a.length + b.length ≤ 1000000) : fAdd (.tuple a) (.tuple b) = some (.d (.tuple (a ++ b))) := by unfold fAdd; simp [h]
theorem e_addL {a b : List D} (h : a.length + b.length ≤ 1000000) : fAdd (.list a) (.list b) = some (.con (.lst (a ++ b))) := by unfold fAdd; simp [h]
theorem e_mulT {a : List D} {j : Int} (h0 : -1000 ≤ j) (h1 : j ≤ 1000) (h : a.length ≤ 1000) : fMul (.tuple a) (.int j) = some (.d (.tuple (List.replicate j.toNat a).flatten)) := by unfold fMul; simp [h, h0, h1]
theorem e_mulL {a : List D} {j : Int} (h0 : -1000 ≤ j) (h1 : j ≤ 1000) (h : a.length ≤ 1000) : fMul (.list a) (.int j) = some (.con (.lst (List.replicate j.toNat a).flatten)) := by unfold fMul; simp [h, h0, h1]
@[simp] theorem e_body {n : Nat} {f : Sm Fl} {ts : List T} : mBody n f ts M = (match f (ts.map some ++ List.replicate n Option.none) M with
  | .ok .nx _ M' => .ok (.d .none) [] M'
  | .ok (.rt r) _ M' => .ok r [] M'
  | .ok _ _ _ => .bad
  | .ex e _ M' => .ex e [] M'
  | .bad => .bad) := rfl
@[simp] theorem e_opt {a : α} : opt (some a) δ M = .ok a δ M := rfl
@[simp] theorem e_mD {x : D} : mD x δ M = .ok (.d x) δ M := rfl
@[simp] theorem e_mNil : mNil δ M = .ok [] δ M := rfl
@[simp] theorem e_frz {x : D} : mFrz (.d x) δ M = .ok (.d x) δ M := rfl
@[simp] theorem e_frzR {n : Nat} : mFrz (.ref n) δ M = .ok (.ref n) δ M := rfl
@[simp] theorem e_frzS {n : List Int} : mFrz (.scr n) δ M = .ok (.scr n) δ M := rfl
@[simp] theorem e_frzZ {x : List (D × D)} : mFrz (.fz x) δ M = .ok (.fz x) δ M := rfl
@[simp] theorem e_ownZ {x : List (D × D)} : mOwn (.fz x) δ M = .ok (.fz x) δ M := rfl
@[simp] theorem e_borZ {x : List (D × D)} : (T.fz x).isBor = false := rfl
@[simp] theorem e_frzX {x : XD} : mFrz (.exn x) δ M = .ok (.exn x) δ M := rfl
@[simp] theorem e_ownX {x : XD} : mOwn (.exn x) δ M = .ok (.exn x) δ M := rfl
@[simp] theorem e_borX {x : XD} : (T.exn x).isBor = false := rfl
@[simp] theorem e_ownS {n : List Int} : mOwn (.scr n) δ M = .ok (.scr n) δ M := rfl
@[simp] theorem e_frzC {xs : List D} : mFrz (.con (.lst xs)) δ M = .ok (.d (.list xs)) δ M := rfl
@[simp] theorem e_frzK {xs : List (D × D)} : mFrz (.con (.dct xs)) δ M = .ok (.d (.dict xs)) δ M := rfl
@[simp] theorem e_vwD {x : D} : vw (.d x) δ M = some x := rfl
@[simp] theorem e_vwC {c : C} : vw (.con c) δ M = c.sD := rfl
@[simp] theorem e_vwR {n : Nat} : vw (.ref n) δ M = (M[n]?).bind C.sD := rfl
@[simp] theorem e_sDl {xs : List D} : (C.lst xs).sD = some (.list xs) := rfl
@[simp] theorem e_sDd {xs : List (D × D)} : (C.dct xs).sD = some (.dict xs) := rfl
@[simp] theorem e_rel {xs : List D} : (C.lst xs).real = some (.lst xs) := rfl
@[simp] theorem e_red {xs : List (D × D)} : (C.dct xs).real = some (.dct xs) := rfl
@[simp] theorem e_ownD {x : D} : mOwn (.d x) δ M = .ok (.d x) δ M := rfl
@[simp] theorem e_ownR {n : Nat} : mOwn (.ref n) δ M = .ok (.ref n) δ M := rfl
@[simp] theorem e_ownC {c : C} : mOwn (.con c) δ M = .ok (.con c) δ M := rfl
@[simp] theorem e_borD {x : D} : (T.d x).isBor = false := rfl
@[simp] theorem e_borR {n : Nat} : (T.ref n).isBor = false := rfl
@[simp] theorem e_borC {c : C} : (T.con c).isBor = false := rfl
@[simp] theorem e_borS {n : List Int} : (T.scr n).isBor = false := rfl
@[simp] theorem e_plI {i : Int} : plain (.int i) = true := rfl
@[simp] theorem e_plB {i : Bool} : plain (.bool i) = true := rfl
@[simp] theorem e_plS {i : Str} : plain (.str i) = true := rfl
@[simp] theorem e_plN : plain .none = true := rfl
@[simp] theorem e_conR {n : Nat} : conOf (.ref n) δ M = (M[n]?).bind C.real := rfl
@[simp] theorem e_putER {n : Nat} {c : C} : putE (.ref n) c δ = δ := rfl
@[simp] theorem e_putMR {n : Nat} {c : C} : putM (.ref n) c M = M.set n c := rfl
@[simp] theorem e_sub {i j : Int} : fSub (.int i) (.int j) = some (.int (i - j)) := rfl
@[simp] theorem e_lt {i j : Int} : fLt (.int i) (.int j) = some (.bool (decide (i < j))) := rfl
@[simp] theorem e_le {i j : Int} : fLe (.int i) (.int j) = some (.bool (decide (i ≤ j))) := rfl
@[simp] theorem e_gt {i j : Int} : fGt (.int i) (.int j) = some (.bool (decide (j < i))) := rfl
@[simp] theorem e_ge {i j : Int} : fGe (.int i) (.int j) = some (.bool (decide (j ≤ i))) := rfl
@[simp] theorem e_add {i j : Int} : fAdd (.int i) (.int j) = some (.d (.int (i + j))) := rfl
@[simp] theorem e_ixL {ds : List D} {i : Int} : fIx (.list ds) (.int i) = (atI ds i).map T.d := rfl
@[simp] theorem e_ixT {ds : List D} {i : Int} : fIx (.tuple ds) (.int i) = (atI ds i).map T.d := rfl
@[simp] theorem e_atI0 {α : Type} {x : α} {l : List α} : atI (x :: l) 0 = some x := by simp [atI, ixN]
@[simp] theorem e_atI1 {α : Type} {x y : α} {l : List α} : atI (x :: y :: l) 1 = some y := by
  have h : (1 : Int) < (l.length : Int) + 1 + 1 := by omega
  simp [atI, ixN, h]
@[simp] theorem e_atI2 {α : Type} {x y z : α} {l : List α} : atI (x :: y :: z :: l) 2 = some z := by
  have h : (2 : Int) < (l.length : Int) + 1 + 1 + 1 := by omega
  simp [atI, ixN, h]
theorem e_mod {i j : Int} (h : 0 < j) : fMod (.int i) (.int j) = some (.int (i % j)) := by simp [fMod, iiF, h]
theorem log_lt {j : Int} (h : 0 < j) (h2 : j < 2 ^ 1000) : j.natAbs.log2 < 9000 := by
  have : j.natAbs < 2 ^ 1000 := by omega
  exact Nat.lt_trans ((Nat.log2_lt (by omega)).mpr this) (by decide)
theorem e_div {i j : Int} (h : 0 < j) (h2 : j < 2 ^ 128) : fDiv (.int i) (.int j) = some (.int (i / j)) := by simp [fDiv, iiF, divOk, h, log_lt h (Int.lt_trans h2 (by decide))]
theorem e_mul {i j : Int} (h : i.natAbs < 2 ^ 64 ∨ j.natAbs < 2 ^ 64) : fMul (.int i) (.int j) = some (.d (.int (i * j))) := by
  unfold fMul
  simp only
  rw [if_pos]
  unfold mulOk
  simp only [Bool.or_eq_true, decide_eq_true_eq]
  exact .inl h
theorem e_pow {i j : Int} (h : 0 ≤ j) (h2 : j ≤ 64) (h3 : i.natAbs < 2 ^ 1000) : fPow (.int i) (.int j) = some (.int (i ^ j.toNat)) := by
  unfold fPow iiF
  simp only
  rw [if_pos]
  unfold powOk
  simp only [Bool.and_eq_true, decide_eq_true_eq]
  refine ⟨h, ?_⟩
  have hb : Builtin.Int.intBits i ≤ 1000 := by
    unfold Builtin.Int.intBits
    split
    · omega
    · rename_i hi
      have : i.natAbs ≠ 0 := fun z => hi (by have : i = 0 := by omega
                                             rw [this]; rfl)
      exact (Nat.log2_lt this).mpr h3
  have h4 : (Builtin.Int.intBits i : Int) * j ≤ 1000 * 64 := Int.mul_le_mul (by omega) h2 h (by omega)
  exact Int.le_trans h4 (by decide)
end
end DL

end
section
namespace DL
open PySem PySem.Spec L2
variable {δ : DL.Env} {M : Mem}

/-! ### small data: what repr and == take -/
structure Small (k w : Nat) (d : D) : Prop where
  lay : d.canLay0 = true
  sh : d.showable = true
  short : d.intsShort 13 = true
  depth : d.depth ≤ k
  weight : d.weight ≤ w
theorem Small.mono {k w k' w' : Nat} {d : D} (h : Small k w d) (hk : k ≤ k') (hw : w ≤ w') : Small k' w' d := ⟨h.lay, h.sh, h.short, Nat.le_trans h.depth hk, Nat.le_trans h.weight hw⟩
theorem Small.int {i : Int} (h : i.natAbs < 10 ^ 12) : Small 0 40 (.int i) := by
  have hl : i.natAbs.log2 < 40 ∨ i = 0 := by
    by_cases h0 : i = 0
    · exact .inr h0
    · exact .inl ((Nat.log2_lt (by omega)).mpr (Nat.lt_trans h (by decide)))
  have hl2 : i.natAbs.log2 < 40 := by
    rcases hl with hl | hl
    · exact hl
    · subst hl; decide
  refine ⟨rfl, by simp [PyData.showable]; omega, ?_, Nat.le_refl _, ?_⟩
  · have := PyData.intsShortAll_ints [i] (fun n hn => by simp at hn; subst hn; exact h)
    simpa [PyData.intsShortAll] using this
  · simp only [PyData.weight]
    split <;> omega
theorem Small.bool {b : Bool} : Small 0 0 (.bool b) := ⟨rfl, by simp [PyData.showable], by simp [PyData.intsShort], by simp [PyData.depth], by simp [PyData.weight]⟩
theorem Small.none : Small 0 0 .none := ⟨rfl, by simp [PyData.showable], by simp [PyData.intsShort], by simp [PyData.depth], by simp [PyData.weight]⟩
theorem Small.str {s : Str} {n : Nat} (h : PyData.strOk s = true) (hn : s.length ≤ n) : Small 0 n (.str s) := ⟨by simpa [PyData.canLay0] using h, by simp [PyData.showable], by simp [PyData.intsShort], by simp [PyData.depth], by simp only [PyData.weight]; exact hn⟩
theorem small_all {k w : Nat} : ∀ {xs : List D}, (∀ x ∈ xs, Small k w x) → PyData.canLayAll0 xs = true ∧ PyData.showableAll xs = true ∧ PyData.intsShortAll 13 xs = true ∧ PyData.depthAll xs ≤ k ∧ PyData.weightAll xs ≤ xs.length * (w + 1)
  | [], _ => ⟨rfl, rfl, rfl, Nat.zero_le _, Nat.zero_le _⟩
  | x :: xs, h => by
    obtain ⟨a, b, c, e, f⟩ := small_all (xs := xs) fun y hy => h y (List.mem_cons_of_mem _ hy)
    obtain ⟨a', b', c', e', f'⟩ := h x List.mem_cons_self
    refine ⟨by simp [PyData.canLayAll0, a, a'], by simp [PyData.showableAll, b, b'], by simp [PyData.intsShortAll, c, c'], by simp only [PyData.depthAll]; omega, ?_⟩
    simp only [PyData.weightAll, List.length_cons]
    rw [Nat.add_mul]
    omega
theorem Small.tup {k w n : Nat} {xs : List D} (h : ∀ x ∈ xs, Small k w x) (hn : xs.length ≤ n) : Small (k + 1) (n * (w + 1)) (.tuple xs) := by
  obtain ⟨a, b, c, e, f⟩ := small_all h
  exact ⟨by simpa [PyData.canLay0] using a, by simpa [PyData.showable] using b, by simpa [PyData.intsShort] using c, by simp only [PyData.depth]; omega, by simp only [PyData.weight]; exact Nat.le_trans f (Nat.mul_le_mul_right _ hn)⟩
theorem Small.lst {k w n : Nat} {xs : List D} (h : ∀ x ∈ xs, Small k w x) (hn : xs.length ≤ n) : Small (k + 1) (n * (w + 1)) (.list xs) := by
  obtain ⟨a, b, c, e, f⟩ := small_all h
  exact ⟨by simpa [PyData.canLay0] using a, by simpa [PyData.showable] using b, by simpa [PyData.intsShort] using c, by simp only [PyData.depth]; omega, by simp only [PyData.weight]; exact Nat.le_trans f (Nat.mul_le_mul_right _ hn)⟩
theorem Small.ok {k w : Nat} {d : D} (h : Small k w d) (hk : k ≤ 64) (hw : w ≤ 2 ^ 20) : showOk d = true := by
  have h1 : PyData.layable0 d = true := by
    show (PyData.canLay0 d && decide (PyData.depth d ≤ 64) && decide (PyData.weight d ≤ 2 ^ 20)) = true
    rw [h.lay, decide_eq_true (Nat.le_trans h.depth hk), decide_eq_true (Nat.le_trans h.weight hw)]; rfl
  unfold showOk
  rw [PyData.plain_of_canLay0 _ h.lay, h.sh, decide_eq_true (Nat.le_trans h.depth hk), decide_eq_true (PyData.shown_fits_of_layable0 (B := 13) (by decide) (by decide) h1 h.short)]; rfl
theorem Small.eq {k w k' w' : Nat} {d e : D} (h : Small k w d) (h' : Small k' w' e) (hk : min k k' ≤ 64) : eqOk d e = true := by
  unfold eqOk
  have : min d.depth e.depth ≤ 64 := by
    have := h.depth
    have := h'.depth
    omega
  rw [PyData.plain_of_canLay0 _ h.lay, PyData.plain_of_canLay0 _ h'.lay, decide_eq_true this]; rfl
@[simp] theorem e_eqS {x y : Str} : fEq (.str x) (.str y) = some (.bool (x == y)) := by simp [fEq, eqOk, PyData.plain, PyData.depth, PyData.eqv]
@[simp] theorem e_neS {x y : Str} : fNe (.str x) (.str y) = some (.bool (!(x == y))) := by simp [fNe, eqOk, PyData.plain, PyData.depth, PyData.eqv]
@[simp] theorem e_eqI {x y : Int} : fEq (.int x) (.int y) = some (.bool (x == y)) := by simp [fEq, eqOk, PyData.plain, PyData.depth, PyData.eqv]
@[simp] theorem e_neI {x y : Int} : fNe (.int x) (.int y) = some (.bool (!(x == y))) := by simp [fNe, eqOk, PyData.plain, PyData.depth, PyData.eqv]
@[simp] theorem e_eqB {x y : Bool} : fEq (.bool x) (.bool y) = some (.bool (x == y)) := by simp [fEq, eqOk, PyData.plain, PyData.depth, PyData.eqv]
@[simp] theorem e_neB {x y : Bool} : fNe (.bool x) (.bool y) = some (.bool (!(x == y))) := by simp [fNe, eqOk, PyData.plain, PyData.depth, PyData.eqv]
theorem e_repr {d : D} (h : showOk d = true) : fRepr [d] = some (.str d.shown) := by unfold fRepr; simp [h]

/-! ### loops -/
/-- a comprehension: a fact of each item, a state's relation -/
theorem lcF_spec {vs : List Nat} {tg : T → Sm Unit} {te : Sm T} {P : D → Prop} {I : List D → Mem → Prop} {δ0 : DL.Env}
    (step : ∀ d ds M, I (d :: ds) M → ∃ δ1 M1 y δ2 M2, tg (.d d) δ0 M = .ok () δ1 M1 ∧ (bnd te mFrz) δ1 M1 = .ok (.d y) δ2 M2 ∧ P y ∧ I ds M2 ∧ wipeE δ2 vs = δ0) :
    ∀ (ds acc : List D) (M : Mem), I ds M → ∃ ys M', lcF vs tg (ret true) te ds acc δ0 M = .ok (acc ++ ys) δ0 M' ∧ ys.length = ds.length ∧ (∀ y ∈ ys, P y) ∧ I [] M'
  | [], acc, M, h => ⟨[], M, by simp [lcF], rfl, fun _ hy => (nomatch hy), h⟩
  | d :: ds, acc, M, h => by
    obtain ⟨δ1, M1, y, δ2, M2, e1, e2, py, i2, ew⟩ := step d ds M h
    obtain ⟨ys, M', e3, hl, hp, hi⟩ := lcF_spec step ds (acc ++ [y]) M2 i2
    refine ⟨y :: ys, M', ?_, by simp [hl], fun z hz => ?_, hi⟩
    · unfold lcF
      simp only [e1]
      unfold bnd at e2
      cases ete : te δ1 M1 with
      | ok a δ3 M3 =>
        simp only [ete] at e2
        simp only [bnd, ret, if_pos, ete, e2, ew, e3, List.append_assoc, List.singleton_append]
      | ex a b c => simp only [ete] at e2; cases e2
      | bad => simp only [ete] at e2; cases e2
    · rcases List.mem_cons.mp hz with e | hz
      · rw [e]; exact py
      · exact hp z hz
theorem mLc_spec {vs : List Nat} {g : Sm (List D)} {tg : T → Sm Unit} {te : Sm T} {P : D → Prop} {I : List D → Mem → Prop} {δ1 : DL.Env} {M1 : Mem} {ds : List D} (hg : g δ M = .ok ds δ1 M1) (hl : ds.length ≤ 16000000) (hi : I ds M1)
    (step : ∀ d ds M, I (d :: ds) M → ∃ δ2 M2 y δ3 M3, tg (.d d) (wipeE δ1 vs) M = .ok () δ2 M2 ∧ (bnd te mFrz) δ2 M2 = .ok (.d y) δ3 M3 ∧ P y ∧ I ds M3 ∧ wipeE δ3 vs = wipeE δ1 vs) :
    ∃ ys M', mLc vs g tg (ret true) te δ M = .ok (.con (.lst ys)) (mergeE δ1 (wipeE δ1 vs) vs) M' ∧ ys.length = ds.length ∧ (∀ y ∈ ys, P y) ∧ I [] M' := by
  obtain ⟨ys, M', e, h1, h2, h3⟩ := lcF_spec step ds [] M1 hi
  refine ⟨ys, M', ?_, h1, h2, h3⟩
  unfold mLc bnd
  simp only [hg, if_pos hl, e, lcEnd, wipeE_length, if_pos, List.nil_append]
/-- for: what holds before each turn -/
theorem forF_spec {tg : T → Sm Unit} {b : Sm Fl} {I : List D → DL.Env → Mem → Prop}
    (step : ∀ d ds δ M, I (d :: ds) δ M → ∃ δ1 M1, mTgt (tg (.d d)) b δ M = .ok .nx δ1 M1 ∧ I ds δ1 M1) :
    ∀ (ds : List D) (δ : DL.Env) (M : Mem), I ds δ M → ∃ δ' M', forF tg b ds δ M = .ok .nx δ' M' ∧ I [] δ' M'
  | [], δ, M, h => ⟨δ, M, rfl, h⟩
  | d :: ds, δ, M, h => by
    obtain ⟨δ1, M1, e, i1⟩ := step d ds δ M h
    obtain ⟨δ', M', e2, i2⟩ := forF_spec step ds δ1 M1 i1
    refine ⟨δ', M', ?_, i2⟩
    unfold forF
    unfold mTgt at e ⊢
    cases et : tg (.d d) δ M with
    | ok a δ2 M2 =>
      simp only [et] at e ⊢
      unfold bnd
      simp only [e]
      exact e2
    | ex a b c => simp only [et] at e; cases e
    | bad => simp only [et] at e; cases e
/-- while: a measure, what holds before each turn, what holds behind -/
theorem whileF_spec {c : Sm Bool} {b : Sm Fl} {I : Nat → DL.Env → Mem → Prop} {F : DL.Env → Mem → Prop}
    (step : ∀ k δ M, I k δ M → (∃ δ1 M1, c δ M = .ok false δ1 M1 ∧ F δ1 M1) ∨ ∃ j δ1 M1 δ2 M2, j < k ∧ c δ M = .ok true δ1 M1 ∧ b δ1 M1 = .ok .nx δ2 M2 ∧ I j δ2 M2) :
    ∀ (n k : Nat) (δ : DL.Env) (M : Mem), I k δ M → k < n → ∃ δ' M', whileF c b n δ M = .ok .nx δ' M' ∧ F δ' M'
  | 0, k, _, _, _, h => absurd h (Nat.not_lt_zero _)
  | n + 1, k, δ, M, h, hn => by
    rcases step k δ M h with ⟨δ1, M1, e, f⟩ | ⟨j, δ1, M1, δ2, M2, hj, e, e2, i2⟩
    · exact ⟨δ1, M1, by unfold whileF bnd; simp only [e]; rfl, f⟩
    · obtain ⟨δ', M', e3, f⟩ := whileF_spec step n j δ2 M2 i2 (by omega)
      refine ⟨δ', M', ?_, f⟩
      unfold whileF bnd
      simp only [e, if_pos, bnd, e2, e3]
end DL

end
section
namespace DL
open PySem PySem.Spec L2
variable {X : Cx} {W : WX} {K : KF} {H G : Hp} {ow : Addr → Option Who} {ι : List Addr} {σ : St} {δ : DL.Env} {τ : List (V × T)} {fs : List Fram} {M : Mem} {v u : V} {t : T} {e e' e2 : Expr} {pos : Pos}

/-! ### a, b = x, y at plain names -/
theorem qe_own {f : Sm T} (h : QE X W e f) : QE X W e (bnd f mOwn) := by
  refine h.imp fun σ H Q ⟨δ, τ, fs, M, r, q⟩ => ⟨δ, τ, fs, M, r, Res.post_mono (bnd_post q) (fun a δ' M' q2 v H' r2 => ?_) fun _ _ _ z => z⟩
  cases e2 : mOwn a δ' M' with
  | ok b δ2 M2 => rw [e2] at q2; exact q2 v H' (r2.own e2).1
  | ex x δ2 M2 => exact (mOwn_noex e2).elim
  | bad => rw [e2] at q2; exact q2.elim
def mPar2 (i j : Nat) (fa : Sm (List T)) : Sm Fl := bnd fa fun ts => fun δ M => match ts with
  | [t, u] => if t.isBor = false ∧ u.isBor = false ∧ i < δ.length ∧ j < δ.length then .ok .nx ((δ.set i (some t)).set j (some u)) M else .bad
  | _ => .bad
def mPar3 (i j l : Nat) (fa : Sm (List T)) : Sm Fl := bnd fa fun ts => fun δ M => match ts with
  | [t, u, y] => if t.isBor = false ∧ u.isBor = false ∧ y.isBor = false ∧ i < δ.length ∧ j < δ.length ∧ l < δ.length then .ok .nx (((δ.set i (some t)).set j (some u)).set l (some y)) M else .bad
  | _ => .bad
section
variable {i j l : Nat} {x y z : Str} {a b c : Expr} {fa : Sm (List T)} {px py pz pt : Pos} {kt k2 pt2}
theorem qs_par2 (hc : X.calm = true) (hN : X.N.Nodup) (hi : X.N[i]? = some x) (hj : X.N[j]? = some y) (hij : i ≠ j) (hx : X.env.scope.names.lookup x = some .local) (hy : X.env.scope.names.lookup y = some .local) (ha : QA X W [a, b] fa)
    (hw : swappedStores [.Tuple [.Name x px, .Name y py] kt pt] (.Tuple [a, b] k2 pt2) X.env = pure (some [x, y])) (hs : swapsWithSole [.Tuple [.Name x px, .Name y py] kt pt] (.Tuple [a, b] k2 pt2) pos.line X.env = pure false := by rfl) :
    QS X W (.Assign [.Tuple [.Name x px, .Name y py] kt pt] (.Tuple [a, b] k2 pt2) pos) (mPar2 i j fa) := by
  refine (ps_par hc hN hi hj hij hx hy ha hw hs).imp fun D σ H ⟨δ, τ, fs, M, nb, r, q⟩ => ⟨δ, τ, fs, M, r, Res.post_mono (bnd_post q) (fun ts δ1 M1 q1 vs H1 hl r1 => ?_) fun _ _ _ z => xw z⟩
  match ts, vs, hl, r1, q1 with
  | [t, u], [v, w], _, r1, q1 =>
    simp only at q1
    split at q1
    · rename_i h
      obtain ⟨h1, h2, h3, h4⟩ := h
      refine ⟨v, w, rfl, q1 _ H1 ?_⟩
      have p1 := Rep.put (t := u) (v := w) r1 h2 (NB.cons h1 nb) (by rw [Rep.len r1]; exact h4)
      have p2 := Rep.put (t := t) (v := v) p1 h1 nb (by rw [Rep.len p1]; simpa using h3)
      rw [List.set_comm _ _ hij, List.set_comm _ _ hij]
      exact p2
    · exact q1.elim
theorem qs_par3 (hc : X.calm = true) (hN : X.N.Nodup) (hi : X.N[i]? = some x) (hj : X.N[j]? = some y) (hl : X.N[l]? = some z) (hij : i ≠ j) (hil : i ≠ l) (hjl : j ≠ l)
    (hx : X.env.scope.names.lookup x = some .local) (hy : X.env.scope.names.lookup y = some .local) (hz : X.env.scope.names.lookup z = some .local) (ha : QA X W [a, b, c] fa)
    (hw : swappedStores [.Tuple [.Name x px, .Name y py, .Name z pz] kt pt] (.Tuple [a, b, c] k2 pt2) X.env = pure (some [x, y, z]))
    (hs : swapsWithSole [.Tuple [.Name x px, .Name y py, .Name z pz] kt pt] (.Tuple [a, b, c] k2 pt2) pos.line X.env = pure false := by rfl) :
    QS X W (.Assign [.Tuple [.Name x px, .Name y py, .Name z pz] kt pt] (.Tuple [a, b, c] k2 pt2) pos) (mPar3 i j l fa) := by
  refine (ps_par3 hc hN hi hj hl hij hil hjl hx hy hz ha hw hs).imp fun D σ H ⟨δ, τ, fs, M, nb, r, q⟩ => ⟨δ, τ, fs, M, r, Res.post_mono (bnd_post q) (fun ts δ1 M1 q1 vs H1 hl r1 => ?_) fun _ _ _ z => xw z⟩
  match ts, vs, hl, r1, q1 with
  | [t, u, o], [v, w, n], _, r1, q1 =>
    simp only at q1
    split at q1
    · rename_i h
      obtain ⟨h1, h2, h2', h3, h4, h5⟩ := h
      refine ⟨v, w, n, rfl, q1 _ H1 ?_⟩
      have p1 := Rep.put (t := o) (v := n) r1 h2' (NB.cons h2 (NB.cons h1 nb)) (by rw [Rep.len r1]; exact h5)
      have p2 := Rep.put (t := u) (v := w) p1 h2 (NB.cons h1 nb) (by rw [Rep.len p1]; simpa using h4)
      have p3 := Rep.put (t := t) (v := v) p2 h1 nb (by rw [Rep.len p2]; simpa using h3)
      have f : ∀ {α : Type} (s : List α) (p q r : α), ((s.set i p).set j q).set l r = ((s.set l r).set j q).set i p := fun s p q r => by
        rw [List.set_comm _ _ hij, List.set_comm _ _ hil, List.set_comm _ _ hjl]
      rw [f, f]
      exact p3
    · exact q1.elim
end
@[simp] theorem e_par2 {i j : Nat} {fa : Sm (List T)} : mPar2 i j fa δ M = bnd fa (fun ts => fun δ M => match ts with
  | [t, u] => if t.isBor = false ∧ u.isBor = false ∧ i < δ.length ∧ j < δ.length then .ok .nx ((δ.set i (some t)).set j (some u)) M else .bad
  | _ => .bad) δ M := rfl
@[simp] theorem e_par3 {i j l : Nat} {fa : Sm (List T)} : mPar3 i j l fa δ M = bnd fa (fun ts => fun δ M => match ts with
  | [t, u, y] => if t.isBor = false ∧ u.isBor = false ∧ y.isBor = false ∧ i < δ.length ∧ j < δ.length ∧ l < δ.length then .ok .nx (((δ.set i (some t)).set j (some u)).set l (some y)) M else .bad
  | _ => .bad) δ M := rfl

/-! ### zip -/
def zipD (xs ys : List D) : List D := (xs.zip ys).map fun p => .tuple [p.1, p.2]
theorem zipD_length (xs ys : List D) : (zipD xs ys).length = min xs.length ys.length := by simp [zipD]
theorem zipD_at {xs ys : List D} {i : Nat} {d : D} (h : (zipD xs ys)[i]? = some d) : ∃ p q, xs[i]? = some p ∧ ys[i]? = some q ∧ d = .tuple [p, q] := by
  unfold zipD at h
  rw [List.getElem?_map] at h
  cases e : (xs.zip ys)[i]? with
  | none => rw [e] at h; cases h
  | some pq =>
    rw [e] at h
    cases h
    obtain ⟨a, b⟩ := List.getElem?_zip_eq_some.mp e
    exact ⟨_, _, a, b, rfl⟩
theorem AtL.two {a b : V} {x y : D} (h : At K G a x) (h' : At K G b y) : AtL K G [a, b] [x, y] := ⟨a, [b], rfl, h, b, [], rfl, h', rfl⟩
theorem iter_zipL {a b : Addr} {xs ys : List D} : IterOk K (Itz K a b) (V.non, T.st fun K' G' _ => At K' G' (.ref a) (.list xs) ∧ At K' G' (.ref b) (.list ys)) (zipD xs ys) := by
  refine ⟨rfl, fun i H σ δ τ fs M ⟨G, ow, ι, x⟩ => ?_⟩
  obtain ⟨⟨a', us, ea, qa, la⟩, b', ws, eb, qb, lb⟩ := (show At K G (.ref a) (.list xs) ∧ At K G (.ref b) (.list ys) from x.top G (Same.refl _))
  cases ea
  cases eb
  have ha : SqL K H a us := SqL.of (x.sub _ _ qa)
  have hb : SqL K H b ws := SqL.of (x.sub _ _ qb)
  have n1 := la.length
  have n2 := lb.length
  refine ⟨fun hi => ⟨us, ws, ha, hb, by rw [zipD_length] at hi; omega⟩, fun d ed => ?_⟩
  obtain ⟨p, q, e1, e2, rfl⟩ := zipD_at ed
  obtain ⟨vp, ep, ap⟩ := la.get e1
  obtain ⟨vq, eq, aq⟩ := lb.get e2
  refine ⟨⟨us, ws, vp, vq, ha, hb, ep, eq⟩, fun z H' yl => ?_⟩
  obtain ⟨A, p', q', rfl, hA, rfl, f1, f2⟩ := yl
  have w1 := f1 us ha
  rw [ep] at w1; cases w1
  have w2 := f2 ws hb
  rw [eq] at w2; cases w2
  exact Rep.newTup ⟨G, ow, ι, x, AtL.two ap aq⟩ hA
theorem iter_zipT {a b : Addr} {xs ys : List D} : IterOk K (RZ.ItzT K a b) (V.non, T.st fun K' G' _ => At K' G' (.ref a) (.tuple xs) ∧ At K' G' (.ref b) (.tuple ys)) (zipD xs ys) := by
  refine ⟨rfl, fun i H σ δ τ fs M ⟨G, ow, ι, x⟩ => ?_⟩
  obtain ⟨⟨a', us, ea, qa, la⟩, b', ws, eb, qb, lb⟩ := (show At K G (.ref a) (.tuple xs) ∧ At K G (.ref b) (.tuple ys) from x.top G (Same.refl _))
  cases ea
  cases eb
  have ha : SqT K H a us := SqT.grow x.sub qa
  have hb : SqT K H b ws := SqT.grow x.sub qb
  have n1 := la.length
  have n2 := lb.length
  refine ⟨fun hi => ⟨us, ws, ha, hb, by rw [zipD_length] at hi; omega⟩, fun d ed => ?_⟩
  obtain ⟨p, q, e1, e2, rfl⟩ := zipD_at ed
  obtain ⟨vp, ep, ap⟩ := la.get e1
  obtain ⟨vq, eq, aq⟩ := lb.get e2
  refine ⟨⟨us, ws, vp, vq, ha, hb, ep, eq⟩, fun z H' yl => ?_⟩
  obtain ⟨A, p', q', rfl, hA, rfl, f1, f2⟩ := yl
  have w1 := f1 us ha
  rw [ep] at w1; cases w1
  have w2 := f2 ws hb
  rw [eq] at w2; cases w2
  exact Rep.newTup ⟨G, ow, ι, x, AtL.two ap aq⟩ hA
def mZip (fa : Sm (List T)) : Sm (List D) := bnd fa fun ts => match ts with
  | [.d (.list xs), .d (.list ys)] => ret (zipD xs ys)
  | [.d (.tuple xs), .d (.tuple ys)] => ret (zipD xs ys)
  | _ => fail
theorem qi_zip {p tpos : Pos} {elts : List Expr} {kk : Nat} {fa : Sm (List T)} (hg : Gl X "zip") (hm : X.mg "zip" = none) (ha : QA X W [e, e2] fa)
    (hs : starEach [e, e2] X.env = (false, eval e X.env) :: starEach [e2] X.env := by rfl) (hpl : (backTo pos (starEach [e2] X.env)).any (·.1) = false := by rfl) : QI X W (.Tuple elts kk tpos) (.Call (.Name "zip" p) [e, e2] [] pos) (mZip fa) := by
  refine (RZ.pi_zipA hg hm ha hs hpl).imp fun σ H R ⟨δ, τ, fs, M, r, q⟩ => ⟨δ, τ, fs, M, r, Res.post_mono (bnd_post q) (fun ts δ1 M1 q1 vs H1 hl r1 => ?_) fun _ _ _ z => z⟩
  split at q1
  · rename_i xs ys
    match vs, hl, r1 with
    | [v, w], _, r1 =>
      obtain ⟨G, ow, ι, x⟩ := r1
      have hb : At X.K G w (.list ys) := x.top
      have ha : At X.K G v (.list xs) := x.pop.top
      obtain ⟨a, us, rfl, qa, la⟩ := id ha
      obtain ⟨b, ws, rfl, qb, lb⟩ := id hb
      exact ⟨a, b, us, ws, rfl, .inl ⟨SqL.of (x.sub _ _ qa), SqL.of (x.sub _ _ qb), q1 _ H1 _ iter_zipL ⟨G, ow, ι, x.pop.pop.push fun G' s => ⟨At.mono s _ _ ha, At.mono s _ _ hb⟩⟩⟩⟩
  · rename_i xs ys
    match vs, hl, r1 with
    | [v, w], _, r1 =>
      obtain ⟨G, ow, ι, x⟩ := r1
      have hb : At X.K G w (.tuple ys) := x.top
      have ha : At X.K G v (.tuple xs) := x.pop.top
      obtain ⟨a, us, rfl, qa, la⟩ := id ha
      obtain ⟨b, ws, rfl, qb, lb⟩ := id hb
      exact ⟨a, b, us, ws, rfl, .inr ⟨SqT.grow x.sub qa, SqT.grow x.sub qb, q1 _ H1 _ iter_zipT ⟨G, ow, ι, x.pop.pop.push fun G' s => ⟨At.mono s _ _ ha, At.mono s _ _ hb⟩⟩⟩⟩
  · exact q1.elim
@[simp] theorem e_zip {fa : Sm (List T)} : mZip fa δ M = bnd fa (fun ts => match ts with
  | [.d (.list xs), .d (.list ys)] => ret (zipD xs ys)
  | [.d (.tuple xs), .d (.tuple ys)] => ret (zipD xs ys)
  | _ => fail) δ M := rfl

/-! ### slices -/
def tO (K : KF) (W : WX) (f : Sm (Option Int)) : TO := fun σ H Q => ∃ δ τ fs M, Rep K H (⟨σ, δ, τ⟩ :: fs) M ∧ (f δ M).post (fun o δ' M' => ∀ H', Rep K H' (⟨σ, δ', τ⟩ :: fs) M' → Q o H') (wX K W σ τ fs)
abbrev QO (X : Cx) (W : WX) (p : Option Expr) (f : Sm (Option Int)) : Prop := PO X p (tO X.K W f)
theorem _root_.L2.PO.imp {p : Option Expr} {t t' : TO} (h : PO X p t) (i : ∀ σ H Q, t' σ H Q → t σ H Q) : PO X p t' := ⟨fun pins s σ H Q I q => h.run pins s σ H Q I (i _ _ _ q)⟩
def oNone : Sm (Option Int) := ret none
def oSome (f : Sm T) : Sm (Option Int) := bnd f fun t => match t with
  | .d (.int i) => ret (some i)
  | _ => fail
theorem qo_none : QO X W none oNone := po_none.imp fun σ H Q ⟨δ, τ, fs, M, r, q⟩ => q H r
theorem qo_some {f : Sm T} (h : QE X W e f) : QO X W (some e) (oSome f) := by
  refine (po_some h).imp fun σ H Q ⟨δ, τ, fs, M, r, q⟩ => ⟨δ, τ, fs, M, r, Res.post_mono (bnd_post q) (fun t δ1 M1 q1 v H1 r1 => ?_) fun _ _ _ z => z⟩
  split at q1
  · exact ⟨_, r1.topD, q1 H1 r1.pop⟩
  · exact q1.elim
def cutD (xs : List D) (lo hi : Option Int) : List D := (xs.drop (HT.sIx xs.length 0 lo)).take (HT.sIx xs.length xs.length hi - HT.sIx xs.length 0 lo)
theorem AtL.cut {vs : List V} {ds : List D} (a : AtL K G vs ds) (lo hi : Option Int) : AtL K G (cutV vs lo hi) (cutD ds lo hi) := by
  unfold cutV cutD
  rw [a.length]
  exact AtL.take _ (AtL.drop _ a)
def fSlice (x : D) (lo hi : Option Int) : Option T :=
  match x with
  | .list ds => some (.con (.lst (cutD ds lo hi)))
  | .tuple ds => some (.d (.tuple (cutD ds lo hi)))
  | .str z => if z.length ≤ sizeLine then some (.d (.str (cutS z lo hi))) else none
  | _ => none
def mSlice (f : Sm T) (lo hi : Sm (Option Int)) : Sm T := bnd f fun x => bnd lo fun l => bnd hi fun h => fun δ M => opt ((vw x δ M).bind fun d => fSlice d l h) δ M
theorem qe_slice {f : Sm T} {lo hi : Option Expr} {fl fh : Sm (Option Int)} {p2 : Pos} (he : QE X W e f) (hl : QO X W lo fl) (hu : QO X W hi fh) : QE X W (.Subscript e (.Slice lo hi none p2) pos) (mSlice f fl fh) := by
  refine (pe_slice ((sl_list.or sl_tupA).or sl_str) he hl hu).imp fun σ H Q ⟨δ, τ, fs, M, rp, q⟩ => ?_
  refine ⟨δ, τ, fs, M, rp, Res.post_mono (bnd_post q) (fun x δ1 M1 q1 v H1 r1 => ?_) fun _ _ _ z => z⟩
  refine ⟨δ1, (v, x) :: τ, fs, M1, r1, Res.post_mono (bnd_post q1) (fun l δ2 M2 q2 H2 r2 => ?_) fun _ _ _ z => z.push⟩
  refine ⟨δ2, (v, x) :: τ, fs, M2, r2, Res.post_mono (bnd_post q2) (fun h δ3 M3 q3 H3 r3 => ?_) fun _ _ _ z => z.push⟩
  obtain ⟨z, ez, q4⟩ := opt_post q3
  obtain ⟨G, ow, ι, y⟩ := r3
  cases ev : vw x δ3 M3 with
  | none => rw [ev] at ez; cases ez
  | some d =>
    rw [ev] at ez
    have av := y.vw y.top ev
    match d, av, ez with
    | .list ds, av, ez =>
      cases ez
      obtain ⟨a, us, e, hh, al⟩ := av
      exact .inl (.inl ⟨a, us, e, SqL.of hh, fun p hp => q4 _ _ (y.pop.lst (al.cut l h) hp)⟩)
    | .tuple ds, av, ez =>
      cases ez
      obtain ⟨a, us, e, hh, al⟩ := av
      refine .inl (.inr ⟨a, us, e, SqT.grow y.sub hh, fun hw => ?_, fun _ p hp => q4 _ _ (y.pop.tup (al.cut l h) hp)⟩)
      rw [al.length] at hw
      have hcut : cutD ds l h = ds := by
        unfold cutD
        rw [hw.1, hw.2]; simp
      rw [hcut] at q4
      exact q4 _ H3 ⟨G, ow, ι, y.pop.push (t := .d (.tuple ds)) ⟨a, us, rfl, hh, al⟩⟩
    | .str z', av, ez =>
      have ez : (if z'.length ≤ sizeLine then some (T.d (.str (cutS z' l h))) else none) = some z := ez
      split at ez
      · rename_i hz
        cases ez
        exact .inr ⟨z', av, hz, q4 _ H3 ⟨G, ow, ι, y.pop.push (t := .d (.str (cutS z' l h))) rfl⟩⟩
      · cases ez
@[simp] theorem e_slice {f : Sm T} {lo hi : Sm (Option Int)} : mSlice f lo hi δ M = bnd f (fun x => bnd lo fun l => bnd hi fun h => fun δ M => opt ((vw x δ M).bind fun d => fSlice d l h) δ M) δ M := rfl
@[simp] theorem e_oNone : oNone δ M = .ok none δ M := rfl
@[simp] theorem e_oSome {f : Sm T} : oSome f δ M = bnd f (fun t => match t with
  | .d (.int i) => ret (some i)
  | _ => fail) δ M := rfl
@[simp] theorem e_slL {ds : List D} {l h : Option Int} : fSlice (.list ds) l h = some (.con (.lst (cutD ds l h))) := rfl
@[simp] theorem e_slT {ds : List D} {l h : Option Int} : fSlice (.tuple ds) l h = some (.d (.tuple (cutD ds l h))) := rfl

/-! ### sorted of a list of whole numbers -/
theorem ris_uniq : ∀ {l m : List Int}, l.Perm m → l.Pairwise (· ≤ ·) → m.Pairwise (· ≤ ·) → l = m
  | [], m, p, _, _ => (List.nil_perm.mp p).symm
  | a :: l, [], p, _, _ => absurd p.length_eq (by simp)
  | a :: l, b :: m, p, h, k => by
    have hab : a = b := by
      have h1 : a ∈ b :: m := p.mem_iff.mp List.mem_cons_self
      have h2 : b ∈ a :: l := p.mem_iff.mpr List.mem_cons_self
      rcases List.mem_cons.mp h1 with e | e
      · exact e
      · rcases List.mem_cons.mp h2 with e' | e'
        · exact e'.symm
        · have := (List.pairwise_cons.mp h).1 b e'
          have := (List.pairwise_cons.mp k).1 a e
          omega
    subst hab
    rw [ris_uniq (List.Perm.cons_inv p) (List.pairwise_cons.mp h).2 (List.pairwise_cons.mp k).2]
def intsOf : List D → Option (List Int)
  | [] => some []
  | .int i :: r => (intsOf r).map (i :: ·)
  | _ :: _ => none
theorem ints_map : ∀ ns : List Int, intsOf (ns.map PyData.int) = some ns
  | [] => rfl
  | n :: ns => by
    show (intsOf (ns.map PyData.int)).map (n :: ·) = _
    rw [ints_map ns]; rfl
theorem intsOf_eq : ∀ {ds : List D} {ns : List Int}, intsOf ds = some ns → ds = ns.map PyData.int
  | [], ns, h => by cases h; rfl
  | .int i :: r, ns, h => by
    unfold intsOf at h
    cases e : intsOf r with
    | none => rw [e] at h; cases h
    | some m =>
      rw [e] at h
      cases h
      rw [intsOf_eq e]; rfl
  | .none :: _, _, h => by cases h
  | .bool _ :: _, _, h => by cases h
  | .str _ :: _, _, h => by cases h
  | .list _ :: _, _, h => by cases h
  | .tuple _ :: _, _, h => by cases h
  | .dict _ :: _, _, h => by cases h
theorem atL_ints : ∀ {ns : List Int} {vs : List V}, AtL K G vs (ns.map PyData.int) → vs = ns.map V.int
  | [], vs, h => h
  | n :: ns, vs, ⟨v, r, e, a, b⟩ => by
    subst e
    rw [show v = V.int n from a, atL_ints b]; rfl
theorem ints_atL : ∀ {ns : List Int}, AtL K G (ns.map V.int) (ns.map PyData.int)
  | [] => rfl
  | n :: ns => ⟨_, _, rfl, rfl, ints_atL⟩
@[irreducible] def sortI (ns : List Int) : List Int := ns.mergeSort fun a b => decide (a ≤ b)
theorem sortI_perm (ns : List Int) : (sortI ns).Perm ns := by
  unfold sortI
  exact List.mergeSort_perm _ _
theorem le_tr (a b c : Int) (h : decide (a ≤ b) = true) (k : decide (b ≤ c) = true) : decide (a ≤ c) = true := decide_eq_true (Int.le_trans (of_decide_eq_true h) (of_decide_eq_true k))
theorem le_tot (a b : Int) : (decide (a ≤ b) || decide (b ≤ a)) = true := by
  rcases Int.le_total a b with h | h
  · rw [decide_eq_true h, Bool.true_or]
  · rw [decide_eq_true h, Bool.or_true]
theorem sortI_ris (ns : List Int) : (sortI ns).Pairwise (· ≤ ·) := by
  unfold sortI
  exact (List.pairwise_mergeSort (le := fun a b : Int => decide (a ≤ b)) le_tr le_tot ns).imp fun h => of_decide_eq_true h
def fSorted : D → Option T
  | .list ds => (intsOf ds).map fun ns => .con (.lst ((sortI ns).map PyData.int))
  | _ => none
theorem b_sorted : BltD X W (rSortedI X.K) (mBT fSorted) := by
  intro σ δ τ fs M H Q vs ts hl rp q
  obtain ⟨v, d, z, G, ow, ι, rfl, x, av, ef, q⟩ := mBT_post hl rp q
  obtain ⟨ds, ns, rfl, en, rfl⟩ : ∃ ds ns, d = .list ds ∧ intsOf ds = some ns ∧ z = .con (.lst ((sortI ns).map PyData.int)) := by
    cases d with
    | list ds =>
      cases en : intsOf ds with
      | none => simp [fSorted, en] at ef
      | some ns => exact ⟨ds, ns, rfl, en, by simpa [fSorted, en] using ef.symm⟩
    | none => cases ef
    | bool _ => cases ef
    | int _ => cases ef
    | str _ => cases ef
    | tuple _ => cases ef
    | dict _ => cases ef
  obtain ⟨a, us, e, h, al⟩ := av
  rw [intsOf_eq en] at al
  rw [atL_ints al] at h
  have go : ∀ p, H p = none → Q (.ref p) (upd H p (.lst ((sortI ns).map V.int))) := fun p hp => q _ _ (x.lst (vs := (sortI ns).map V.int) ints_atL hp)
  exact ⟨a, ns, congrArg (fun y => [y]) e, SqL.of h, fun ns' p pm ri hp => (ris_uniq (pm.trans (sortI_perm ns).symm) ri (sortI_ris ns)) ▸ go p hp⟩
theorem boot_fn_sorted : bootBuiltins "sorted" = some (.builtin "sorted") := by decide +kernel
end DL

end
section
namespace DL
open PySem PySem.Spec L2

/-! ### set(list of ints), sorted(set(..)) -/
abbrev nSet (w : World) : Obj := { cls := .type "set", dict := none, data := .set #[] 0 (.fresh 0 0 (!w.params.followText "set-order")) }
section
open PyProof.Rows
variable {P : Program} {w : World} {A : Around} {E : Value → Shared → Prop} {s : Shared}
set_option maxHeartbeats 3200000 in
theorem call_setL {l : Addr} {items : Array Value} (ns : List Int) {Q : Value → Shared → Prop} (hnd : A.handled = none) (isl : s.heap.IsList l items) (are : IntsAre items.toList ns) (few : ns.length + 1 < scanBound)
    (out : ∀ (h' : Heap) (tk c : Nat), SetR w h' s.heap.objs.size (fun j => decide (j ∈ ns)) c → c ≤ ns.length → (∀ b o, s.heap.get? b = some o → h'.get? b = some o) → Q (.ref s.heap.objs.size) { s with heap := h', toks := tk }) : wpAny (model P w) A (call (.type "set") [.ref l]) Q E s := by
  have size : items.size = ns.length := by
    have z := are.length
    rwa [Array.length_toList] at z
  obtain ⟨c0, tl0, mro0⟩ := F.called_set.mro
  have g1 := F.called_set.made
  have g2 := F.called_set.sub
  refine wpAny_call (codeAny_of_tree ?_)
  show wpAny _ _ (callAny (.type "set") _) _ _ _
  refine wpAny_pure ⟨Code.quiet_builtin _ (by decide +kernel), codeAny_builtin F.entry_type_call ?_⟩
  rw [Around.under_plain (weight_type_call_type "set" [.ref l] []) rfl]
  have g3 := F.called_set.notType
  have g4 := F.called_set.canCreate
  have g5 := F.typeCall_set_1 (.ref l)
  repeat (any_goals (first | assumption | wp_step))
  refine codeAny_mono (code_set_led1 (.ref l) (E := E) (Q₁ := fun ob s1 => ob = .ref s.heap.objs.size ∧ s1 = { s with heap := s.heap.push (nSet w) }) ⟨rfl, rfl⟩) fun r1 s1 k1 => ?_
  cases r1 with
  | error e => exact k1
  | ok f1 =>
    cases f1 with
    | ret ob =>
      obtain ⟨rfl, rfl⟩ := k1
      have at0 : (s.heap.push (nSet w)).get? s.heap.objs.size = some (nSet w) := Heap.get?_push_size _ rfl
      have ty0 : Shared.TypeIs { s with heap := s.heap.push (nSet w) } (.ref s.heap.objs.size) "set" := ⟨_, at0, rfl⟩
      have i1 := F.called_set.init.lookup
      have i2 := F.called_set.init.bind (.ref s.heap.objs.size)
      repeat (any_goals (first | assumption | wp_step))
      refine codeAny_mono (codeAny_call_builtin (R := wants (fun r s2 => r = .none ∧ ∃ h' tk c, s2 = { s with heap := h', toks := tk } ∧ SetR w h' s.heap.objs.size (fun j => decide (j ∈ ns)) c ∧ c ≤ ns.length ∧ (∀ b o, s.heap.get? b = some o → h'.get? b = some o)) E)
        F.called_set.init.plain F.entry_set_init (check_set_init_1 ty0 ?_)) fun r2 s2 k2 => ?_
      · obtain ⟨ol, at1, ecl, nl, edt⟩ := isl
        obtain ⟨kc, kd, kdat, ksl⟩ := ol
        simp only at ecl edt
        subst ecl edt
        have at2 : (s.heap.push (nSet w)).get? l = some { cls := .type "list", dict := kd, data := .seq items nl, slots := ksl } := Heap.get?_push_of_some _ at1
        have j1 := F.sub_list_set
        have j2 := F.sub_list_frozenset
        have j3 : (Value.type "list" == Value.type "dict") = false := by decide
        have isl2 : (s.heap.push (nSet w)).IsList l items := ⟨_, at2, rfl, nl, rfl⟩
        unfold Builtin.«set.__init__» noKeywords Builtin.Frozenset.updateFrom
        generalize hit : pyIter = it
        wp_walk
        subst hit
        refine wpAny_pyIter_list isl2 ?_
        refine wpAny_bind (wpAny_runValue ?_)
        have below : l < s.heap.objs.size := Heap.lt_size at1
        have nd3 : A.in1.in1.in1.handled = none := by simp [hnd]
        have ne1 : l ≠ (s.heap.push (nSet w)).objs.size := by rw [Heap.size_push]; exact Nat.ne_of_lt (Nat.lt_succ_of_lt below)
        have out1 : s.heap.objs.size ∉ [(s.heap.push (nSet w)).objs.size, l] := by
          rw [Heap.size_push]
          simp only [List.mem_cons, List.not_mem_nil, or_false, not_or]
          exact ⟨Nat.ne_of_lt (Nat.lt_succ_self _), Nat.ne_of_gt below⟩
        have vals : ∀ (i : Nat) (v : Value), items[i]? = some v → ∃ k t, ns[i]? = some k ∧ v = .int k t := fun i v hv => by
          have hi : i < ns.length := by rw [← size]; exact (Array.getElem?_eq_some_iff.mp hv).1
          obtain ⟨t, e⟩ := are.int_at i v (by rw [Array.getElem?_toList]; exact hv)
          exact ⟨ns[i], t, List.getElem?_eq_getElem hi, by rw [e, List.getD_eq_getElem?_getD, List.getElem?_eq_getElem hi]; rfl⟩
        refine set_update_ints ((Walks.list nd3 _ l ne1 items).toS) s.heap.objs.size out1 ns size few vals (items.size - 0) 0 _ (by omega) (Nat.zero_le _) ⟨⟨_, Heap.get?_push_size _ rfl, rfl, rfl⟩, isl2.push _⟩ ?start ?ends
        case start =>
          have z : ((s.heap.push (nSet w)).push { cls := .type "list_iterator", data := .fields #[.ref l, .int 0 0] }).get? s.heap.objs.size = some (nSet w) := Heap.get?_push_of_some _ at0
          exact ⟨0, Nat.le_refl 0, setR_new_at z⟩
        case ends =>
          intro s3 c mv le3 R3
          obtain ⟨h3, g3', d3, t3, o3⟩ := s3
          have eg : g3' = s.gens := mv.gens
          have ed : d3 = s.drawn := mv.drawn
          have eo : o3 = s.os := mv.os
          subst eg ed eo
          show wpAny _ _ _ _ _ _
          refine wpAny_pure ?_
          show wpAny _ _ (PySem.ret Value.none) _ _ _
          rw [size] at le3
          refine wpAny_pure ⟨rfl, h3, t3, c, rfl, R3, le3, fun b o e => ?_⟩
          have lt0 : b < s.heap.objs.size := Heap.lt_size e
          refine mv.heap b o ?_ (Heap.get?_push_of_some _ (Heap.get?_push_of_some _ e))
          rw [Heap.size_push]
          simp only [List.mem_cons, List.not_mem_nil, or_false, not_or]
          exact ⟨Nat.ne_of_lt lt0, Nat.ne_of_lt (Nat.lt_succ_of_lt lt0)⟩
      · cases r2 with
        | error e => exact k2
        | ok f2 =>
          cases f2 with
          | ret r =>
            obtain ⟨rfl, h', tk, c, rfl, q1, q2, q3⟩ := k2
            repeat (any_goals (first | assumption | wp_step))
            exact out _ _ _ q1 q2 q3
          | _ => exact k2.elim
    | _ => exact k1.elim
end
section
variable {X : Cx}
def rSetL (K : KF) (w : World) : List V → Hp → VK → Prop := fun xs H Q => ∃ (p : Addr) (ns : List Int), xs = [.ref p] ∧ SqL K H p (ns.map V.int) ∧ ns.length + 1 < scanBound ∧
  ∀ q c, H q = none → c ≤ ns.eraseDups.length → Q (.ref q) (upd H q (SetO w q (fun j => decide (j ∈ ns)) c))
theorem nodup_le : ∀ {l m : List Int}, l.Nodup → (∀ x ∈ l, x ∈ m) → l.length ≤ m.length
  | [], _, _, _ => Nat.zero_le _
  | a :: l, m, h, s => by
    obtain ⟨h1, h2⟩ := List.nodup_cons.mp h
    have ha : a ∈ m := s a List.mem_cons_self
    have hl := nodup_le (l := l) (m := m.erase a) h2 fun x hx => by
      have ne : x ≠ a := fun z => h1 (z ▸ hx)
      exact (List.mem_erase_of_ne ne).mpr (s x (List.mem_cons_of_mem _ hx))
    rw [List.length_erase_of_mem ha] at hl
    have := List.length_pos_of_mem ha
    simp only [List.length_cons]
    omega
theorem setR_few {w : World} {h : Heap} {a : Addr} {ns : List Int} {c : Nat} (R : SetR w h a (fun j => decide (j ∈ ns)) c) : c ≤ ns.eraseDups.length := by
  obtain ⟨o, es, ep, t, _, _, _, _, nd, mem, _, _, n, _⟩ := R
  have e : c = (es.toList.map L2.keyOf).length := by rw [List.length_map, Array.length_toList]; exact n.symm
  rw [e]
  refine nodup_le nd fun x hx => ?_
  rw [List.mem_eraseDups]
  simpa using (mem x).mpr hx
theorem cr_setL (hc : X.calm = true) : CallR X (.type "set") (rSetL X.K X.w) := by
  intro pins s σ H xs us Q I r h
  obtain ⟨p, ns, rfl, hq, few, q⟩ := h
  cases r with
  | cons r rr =>
    cases rr
    cases r
    obtain ⟨its, rv, pt, hz⟩ := I.list hq
    refine call_setL ns (I.ok.hd hc) pt.isList (ints_of_vals rv) few fun h' tk c R _ k => ?_
    have hn : H s.heap.objs.size = none := I.hok.fresh (Nat.le_refl _)
    exact ⟨.ref _, upd H s.heap.objs.size (SetO X.w s.heap.objs.size (fun j => decide (j ∈ ns)) c), I.laid (t' := tk) k (Nat.le_refl _) (setO_new R), rfl, q _ c hn (setR_few R)⟩
end
end DL

end
section
namespace DL
open PySem PySem.Spec L2
variable {X : Cx} {W : WX} {K : KF} {H G : Hp} {ow : Addr → Option Who} {ι : List Addr} {σ : St} {δ : DL.Env} {τ : List (V × T)} {fs : List Fram} {M : Mem} {v u : V} {t : T} {e e' e2 : Expr} {pos : Pos}
/-! ### sorted(set(e)), e a list of ints -/
@[irreducible] def sortSet (ns : List Int) : List Int := sortI ns.eraseDups
theorem nodup_perm {l m : List Int} (h : l.Nodup) (k : m.Nodup) (s : ∀ x, x ∈ l ↔ x ∈ m) : l.Perm m := by
  rw [List.perm_iff_count]
  intro x
  by_cases hx : x ∈ l
  · rw [List.Nodup.count h, List.Nodup.count k, if_pos hx, if_pos ((s x).mp hx)]
  · rw [List.Nodup.count h, List.Nodup.count k, if_neg hx, if_neg fun z => hx ((s x).mpr z)]
theorem nodup_dups' : ∀ (n : Nat) (ns : List Int), ns.length ≤ n → ns.eraseDups.Nodup
  | _, [], _ => by simp
  | 0, _ :: _, h => absurd h (by simp)
  | n + 1, a :: l, h => by
    rw [List.eraseDups_cons]
    refine List.nodup_cons.mpr ⟨fun z => ?_, nodup_dups' n _ (Nat.le_trans (List.length_filter_le _ _) (Nat.le_of_succ_le_succ h))⟩
    rw [List.mem_eraseDups, List.mem_filter] at z
    simp at z
theorem nodup_dups (ns : List Int) : ns.eraseDups.Nodup := nodup_dups' _ ns (Nat.le_refl _)
theorem sortSet_of {ns ns' : List Int} (h : ns'.Pairwise (· < ·)) (k : ∀ j : Int, j ∈ ns' ↔ decide (j ∈ ns) = true) : ns' = sortSet ns := by
  unfold sortSet
  have hn : ns'.Nodup := h.imp fun z => Int.ne_of_lt z
  have hp : ns'.Perm ns.eraseDups := nodup_perm hn (nodup_dups ns) fun x => by rw [k x, List.mem_eraseDups, decide_eq_true_iff]
  exact ris_uniq (hp.trans (sortI_perm _).symm) (h.imp fun z => Int.le_of_lt z) (sortI_ris _)
theorem mem_sortSet {ns : List Int} {x : Int} : x ∈ sortSet ns ↔ x ∈ ns := by
  unfold sortSet
  rw [(sortI_perm _).mem_iff, List.mem_eraseDups]
def fSortSet : D → Option T
  | .list ds => (intsOf ds).bind fun ns => if ns.eraseDups.length < 64 ∧ ns.length < 4000 then some (.con (.lst ((sortSet ns).map PyData.int))) else none
  | _ => none
def mSortSet (f : Sm T) : Sm T := bnd f fun t => fun δ M => opt ((vw t δ M).bind fSortSet) δ M
theorem boot_ty_set : bootBuiltins "set" = some (.type "set") := by decide +kernel
theorem fSortSet_inv {d : D} {z : T} (h : fSortSet d = some z) : ∃ ds ns, d = .list ds ∧ intsOf ds = some ns ∧ ns.eraseDups.length < 64 ∧ ns.length < 4000 ∧ z = .con (.lst ((sortSet ns).map PyData.int)) := by
  cases d with
  | list ds =>
    cases en : intsOf ds with
    | none => simp [fSortSet, en] at h
    | some ns =>
      simp only [fSortSet, en, Option.bind_some] at h
      split at h
      · rename_i hc
        exact ⟨ds, ns, rfl, en, hc.1, hc.2, (Option.some.inj h).symm⟩
      · cases h
  | none => cases h
  | bool _ => cases h
  | int _ => cases h
  | str _ => cases h
  | tuple _ => cases h
  | dict _ => cases h
theorem qe_sortSet {f : Sm T} {p p2 pos2 : Pos} (hc : X.calm = true) (hg : Gl X "sorted") (hm : X.mg "sorted" = none) (hg2 : Gl X "set") (hm2 : X.mg "set" = none) (h : QE X W e f)
    (s1 : starEach [e] X.env = (false, eval e X.env) :: starEach [] X.env := by rfl) (s2 : starEach [.Call (.Name "set" p2) [e] [] pos2] X.env = (false, eval (.Call (.Name "set" p2) [e] [] pos2) X.env) :: starEach [] X.env := by rfl)
    (q1 : (backTo pos2 (starEach [] X.env)).any (·.1) = false := by rfl) (q2 : (backTo pos (starEach [] X.env)).any (·.1) = false := by rfl) :
    QE X W (.Call (.Name "sorted" p) [.Call (.Name "set" p2) [e] [] pos2] [] pos) (mSortSet f) := by
  have inner := pe_callTy (pos := pos2) (p := p2) (cr_setL hc) hg2 hm2 boot_ty_set (pa_cons h pa_nil s1) (by decide) (by decide) s1 q1
  refine (pe_callB (pos := pos) (p := p) (cr_sortedSet hc) hg hm boot_fn_sorted (pa_cons inner pa_nil s2) (by decide) (by decide) s2 q2).imp fun σ H Q ⟨δ, τ, fs, M, r, q⟩ => ?_
  refine ⟨δ, τ, fs, M, r, Res.post_mono (bnd_post q) (fun t δ1 M1 q1 v H1 r1 => ?_) fun _ _ _ z => z⟩
  obtain ⟨z, ez, q3⟩ := opt_post q1
  obtain ⟨G, ow, ι, x⟩ := r1
  cases ev : vw t δ1 M1 with
  | none => rw [ev] at ez; cases ez
  | some d =>
    rw [ev] at ez
    obtain ⟨ds, ns, rfl, en, few, few2, rfl⟩ := fSortSet_inv ez
    obtain ⟨a, us, ea, hh, al⟩ := x.vw x.top ev
    rw [intsOf_eq en] at al
    rw [atL_ints al] at hh
    refine ⟨a, ns, congrArg (fun y => [y]) ea, SqL.of hh, by unfold scanBound; omega, fun b c hb hc => ?_⟩
    refine ⟨b, _, c, rfl, upd_same, by omega, fun ns' p rise mem _ hp => ?_⟩
    have e1 : ns' = sortSet ns := sortSet_of rise mem
    subst e1
    have y := x.pop.newG (o := SetO X.w b (fun j => decide (j ∈ ns)) c) hb
    exact q3 _ _ (y.lst (vs := (sortSet ns).map V.int) ints_atL hp)
@[simp] theorem e_sortSet {f : Sm T} : mSortSet f δ M = bnd f (fun t => fun δ M => opt ((vw t δ M).bind fSortSet) δ M) δ M := rfl
end DL

end
section
namespace DL
open PySem PySem.Spec L2
/-! ### try: .. except X as n: ..; the exception stays -/
section
variable {X : Cx} {pins : List (Addr × Obj)} {σ : St} {H : Hp} {s : Shared}
theorem adopt {a C : Addr} {d : Option Addr} {oe : Obj} {vs : Array Value} (I : Inv X pins σ H s) (he : s.heap.get? a = some oe) (hd : oe.data = .fields vs) (hz : Zc (.ref C) d oe) (na : H a = none) (nL : a ≠ X.env.locals)
    (yg : ∀ o, X.s_0.heap.get? a = some o → a ∈ X.ex) (np : ∀ p ∈ X.pn ++ pins, p.1 ≠ a) : Inv X pins σ (upd H a (exO a C d)) s := by
  have ne : ∀ {b : Addr} {o : HO}, H b = some o → b ≠ a := fun e z => by rw [z, na] at e; cases e
  refine ⟨I.ok, I.os, I.bare, ⟨I.base.keep, I.base.slot, fun b o e n hx => ?_, I.base.there, fun b xs e => ?_, fun b o u e => ?_, fun b ps e => ?_⟩, I.loc, I.cell, ?_, fun x c e => ?_, fun p hp => ?_, ?_, I.len⟩
  · rw [upd_ne fun z => hx (by rw [z]; exact yg o (by rw [← z]; exact e))]
    exact I.base.free b o e n hx
  · have := I.base.tups b xs e
    rw [upd_ne (ne this)]; exact this
  · have := I.base.frzs b o u e
    rw [upd_ne (ne this)]; exact this
  · obtain ⟨more, q⟩ := I.base.tbls b ps e
    exact ⟨more, by rw [upd_ne (ne q)]; exact q⟩
  · rw [upd_ne (Ne.symm nL)]; exact I.free
  · rw [upd_ne]
    · exact I.freeC x c e
    · intro z
      obtain ⟨v, o, q, q'⟩ := I.cell x c e
      rw [z, he] at q
      cases q
      rw [hd] at q'
      cases q'
  · obtain ⟨q1, q2, q3⟩ := I.pin p hp
    exact ⟨q1, by rw [upd_ne (np p hp)]; exact q2, q3⟩
  · refine HOk.laidN (show HOk X.prog X.w H s.heap from I.hok) (fun _ _ q => q) na ⟨⟨oe, vs, he, hz, hd⟩, ⟨oe, he⟩, fun h1 h2 ⟨o, ws, q1, q2, q3⟩ k => ⟨o, ws, k _ q1, q2, q3⟩⟩
end
/-- what the clause wishes of an exception of the body: behind it the exception stands where it stood, tracked -/
def wKeep (K : KF) (c : Value) (i : Nat) (ts : Addr → Value → Option Addr → TS) (Wo : WX) (D : Ends) : WX := fun cls d σ H =>
  ∃ b, PySem.W.exmOne K cls c = some b ∧ (b = true → ∃ C, cls = .ref C ∧ ∀ a, H a = none → ts a cls d { nx := fun σ' H' => H' a = none → D.nx (σ'.set i none) (upd H' a (exO a C d)), rt := fun _ _ => False, bk := fun _ _ => False, ct := fun _ _ => False } (σ.set i (some (.ref a))) H) ∧ (b = false → Wo cls d σ H)
section
variable {X : Cx} {x n : Str} {c : Value} {i : Nat} {body suite : List Stmt} {b₀ : Stmt} {np pos pos' : Pos} {tb : WX → TS} {ts : Addr → Value → Option Addr → TS} {Wo : WX}
theorem ps_try_keep (st : X.stack = X.env :: X.outer) (fr : X.env.frame = some X.env.locals) (nd : X.N.Nodup) (at_i : X.N[i]? = some n) (loc : X.env.kindOf n = some .local) (cl : Names X x c) (ex0 : X.ex = []) (tk : Takes X Wo)
    (hb : ∀ (W : WX) (pn : List (Addr × Obj)) (xe : Value → Shared → Prop), Takes (X.tr pn xe) W → PassesOwn (model X.prog X.w) X.A X.env xe → PSs (X.tr pn xe) body (tb W))
    (hsu : ∀ (a : Addr) (oe : Obj) (cls : Value) (d : Option Addr) (pn : List (Addr × Obj)), Zc cls d oe → (∃ vs, oe.data = .fields vs) → PSs (X.suite a ((a, oe) :: pn)) (b₀ :: suite) (ts a cls d)) :
    PS X (.Try body [.ExceptHandler (some (.Name x np)) (some n) (b₀ :: suite) pos'] [] [] pos) (fun D σ H => tb (wKeep X.K c i ts Wo D) D σ H) := by
  refine ⟨fun pins s σ H D I h => ?_⟩
  have frs0 : X.A.frames = some (X.env :: X.outer) := by rw [I.ok.frames, st]
  refine wpAny_Try_except ?_
  have run := (hb (wKeep X.K c i ts Wo D) (X.pn ++ pins) (fun e s1 => wpAny (model X.prog X.w) X.A (noteFrame e X.env) (fun _ s2 => wpAny (model X.prog X.w) X.A (setFlight e none) (fun _ s3 =>
    wpAny (model X.prog X.w) X.A (handleBy e X.env [.ExceptHandler (some (.Name x np)) (some n) (b₀ :: suite) pos']) (SP X pins D) X.xe s3) X.xe s2) X.xe s1) (fun u s' air => ?_) PassesOwn.looking).run [] s σ H D (I.toTry _) h
  · refine wpAny_mono run (fun f s1 sp => ?_) (fun e s1 z => z)
    cases f with
    | next => exact wpAny_execs_nil (let ⟨σ1, H1, J, q⟩ := sp; ⟨σ1, H1, J.ofTry I.ok, q⟩)
    | brk => exact (let ⟨σ1, H1, J, q⟩ := sp; ⟨σ1, H1, J.ofTry I.ok, q⟩)
    | cont => exact (let ⟨σ1, H1, J, q⟩ := sp; ⟨σ1, H1, J.ofTry I.ok, q⟩)
    | ret u => exact (let ⟨v, σ1, H1, J, r, q⟩ := sp; ⟨v, σ1, H1, J.ofTry I.ok, r, q⟩)
  · obtain ⟨a, B, sI, pins1, σ1, H1, cls, d, rfl, J1, nb, up, sky, na, eos, ag, b, eb, yes, no⟩ := air
    have J := J1.ofTry I.ok
    have sky1 : Sky B (X.env :: X.outer) a (Zc cls d) X.env.locals s'.heap := by rw [← st]; exact sky
    show wpAny (model X.prog X.w) X.A (noteFrame (.ref a) X.env) _ _ _
    refine Sky.land Zc.steady frs0 fr sky1 fun h3 fl3 up3 => ?_
    have J3 : Inv X pins σ1 H1 { s' with heap := h3 } := J.landed nb fl3.1 (up.trans up3) eos ag
    obtain ⟨oe3, vs3, he3, hz3, hd3⟩ := fl3.there
    have nfr : a ∉ frs (X.env :: X.outer) := fun hm => by
      obtain ⟨_, o', e', bad⟩ := fl3.2.2.1.mem hm
      rw [he3] at e'
      cases e'
      exact bad _ hd3
    have nL : a ≠ X.env.locals := fun z => nfr (List.mem_filterMap.mpr ⟨X.env, List.mem_cons_self, by rw [fr, z]⟩)
    have nF : a ∉ X.fs := fun hm => nfr (let ⟨e, he, q⟩ := List.mem_filterMap.mp hm; List.mem_filterMap.mpr ⟨e, List.mem_cons_of_mem _ he, q⟩)
    have gone : B.get? a = none := fl3.2.1
    have notI : ∀ o, sI.heap.get? a = some o → False := fun o e => by
      have := nb a o e (by rw [st]; exact nfr)
      rw [gone] at this; cases this
    have yg : ∀ o, X.s_0.heap.get? a = some o → a ∈ X.ex := fun o e => (let ⟨o', q⟩ := J.base.there a o e (by rw [ex0]; exact List.not_mem_nil); notI o' q).elim
    have npin : ∀ p ∈ X.pn ++ pins, p.1 ≠ a := fun p hp z => notI p.2 (by rw [← z]; exact (J.pin p hp).1)
    have S3 := J3.suite he3 hd3 na nL nF
    refine wpAny_handleBy_cons (codeAny_handlers_test ?_) (by intro q; cases q)
    have ty3 : PySem.W.Looks (model X.prog X.w) h3 (typeOf (.ref a)) cls := fun A Q E s k q => wpAny_typeOf_ref (k _ _ he3) (by rw [hz3.1]; exact q)
    have look := PySem.W.exm_one (M := model X.prog X.w) (J3.kIn) ty3 eb
    have test : ∀ {Q E : Value → Shared → Prop}, Q c { s' with heap := h3 } → wpAny (model X.prog X.w) (X.A.mark (some (.ref a))) (eval (.Name x np) X.env) Q E { s' with heap := h3 } := fun {Q E} q => by
      obtain ⟨g1, g2, g3 | ⟨g3, g4, g5⟩⟩ := cl
      · exact ld_glob (X := X.suite a ((a, oe3) :: (X.pn ++ pins))) S3 g1 g3 q g2
      · exact ld_blt (X := X.suite a ((a, oe3) :: (X.pn ++ pins))) S3 g1 g3 g4 q g5 g2
    refine test (look.here ?_)
    cases b with
    | true =>
      obtain ⟨C, ecls, go⟩ := yes rfl
      refine codeAny_handlers_suite_as ?_
      refine HandSPX.lands_againZ fl3 fun h4 fl4 up4 => ?_
      have J4 : Inv X pins σ1 H1 { s' with heap := h4 } := J.landed nb fl4.1 ((up.trans up3).trans up4) eos ag
      obtain ⟨oe4, vs4, he4, hz4, hd4⟩ := fl4.there
      have S4 := J4.suite he4 hd4 na nL nF
      refine store_ok (X := X.suite a ((a, oe4) :: (X.pn ++ pins))) (v := .ref a) S4 nd at_i (.inl loc) rfl (fun s5 S5 => ?_) (.inr loc)
      refine wpAny_mono ((hsu a oe4 cls d (X.pn ++ pins) hz4 ⟨_, hd4⟩).run [] s5 _ H1 _ S5 (go a na)) (fun f s6 sp => ?_) (fun _ _ z => False.elim z)
      cases f with
      | next =>
        obtain ⟨σ6, H6, S6, q6⟩ := sp
        refine gone_ok (X := X.suite a ((a, oe4) :: (X.pn ++ pins))) S6 nd at_i loc fun s7 S7 => ?_
        obtain ⟨p1, p2, _⟩ := S7.pin (a, oe4) (List.mem_append_left _ List.mem_cons_self)
        have z7 : Zc (.ref C) d oe4 := by rw [← ecls]; exact hz4
        exact ⟨_, _, adopt (S7.unsuite I.ok) p1 hd4 z7 p2 nL yg npin, q6 p2⟩
      | brk => exact (let ⟨_, _, _, q⟩ := sp; q).elim
      | cont => exact (let ⟨_, _, _, q⟩ := sp; q).elim
      | ret u => exact (let ⟨_, _, _, _, _, q⟩ := sp; q).elim
    | false =>
      show wpAny _ X.A (handleBy (.ref a) X.env []) _ _ _
      refine wpAny_handleBy_nil ?_
      obtain ⟨k1, k2, k3, oe, vs, T0, oT, ts0, w1, w2, w3, w4, w5⟩ := id fl3
      unfold PySem.passOn
      refine wpAny_bind (wpAny_field w1 w3 w4 ?_)
      rw [if_neg (show ¬ ((Value.ref T0 == Value.none) = true) from by simp)]
      have fly : wpAny (model X.prog X.w) X.A (setFlight (.ref a) X.env.frame) (fun _ s4 => wpAny (model X.prog X.w) X.A (throw (.ref a) : Sem Flow) (SP X pins D) X.xe s4) X.xe { s' with heap := h3 } := by
        rw [fr]
        refine HandSPX.setFlight_upZ fl3 fun h4 hh4 up4 => wpAny_throw (tk _ _ ?_)
        exact ⟨a, B, sI, pins, σ1, H1, cls, d, rfl, J, nb, (up.trans up3).trans up4, .inr (.inr (by rw [st]; exact hh4)), na, eos, ag, no rfl⟩
      first
        | exact wpAny_bind (wpAny_pure (wpAny_bind fly))
        | exact wpAny_bind fly
end
end DL

end
section
namespace DL
open PySem PySem.Spec L2
variable {X : Cx} {W : WX} {K : KF} {H G : Hp} {ow : Addr → Option Who} {ι : List Addr} {σ : St} {δ : DL.Env} {τ : List (V × T)} {fs : List Fram} {M : Mem} {v u : V} {t : T} {e e' e2 : Expr} {pos : Pos}
/-- an object that nothing owns is never changed again -/
theorem RepG.share {p : Addr} {o : HO} (x : RepG K H G ow ι fs M) (h : H p = some o) (n : ow p = none) : RepG K H (upd G p o) ow ι fs M := by
  have sm : Same G (upd G p o) := fun b u e => by
    by_cases hb : b = p
    · subst hb
      have := x.sub _ _ e
      rw [h] at this
      rw [upd_same]; exact this
    · rw [upd_ne hb]; exact e
  refine ⟨fun b u e => ?_, fun b w e => ⟨?_, (x.own b w e).2⟩, x.lenM, fun k c ec => ?_, x.frs.keep sm (fun _ _ _ q => ⟨q, rfl⟩) (fun _ _ q => q)⟩
  · by_cases hb : b = p
    · subst hb
      rw [upd_same] at e
      rw [h]; exact e
    · rw [upd_ne hb] at e; exact x.sub _ _ e
  · rw [upd_ne fun z => by rw [z, n] at e; cases e]
    exact (x.own b w e).1
  · obtain ⟨a, q1, q2, q3⟩ := x.cells k c ec
    exact ⟨a, q1, q2, q3.keep sm rfl⟩
/-- the caught exception as a temporary -/
theorem XAt.caught {x : XD} {d : Option Addr} {a : Addr} (h : XAt K H x d (⟨σ, δ, τ⟩ :: fs) M) (na : H a = none) : Rep K (upd H a (exO a (cOf K x.cls) d)) (⟨σ, δ, (.ref a, .exn x) :: τ⟩ :: fs) M := by
  obtain ⟨G, ow, ι, y, q⟩ := h
  rcases q with ⟨q1, q2⟩ | ⟨dd, vfs, e1, e2, e3, e4⟩
  · have z := y.newG (o := exO a (cOf K x.cls) d) na
    exact ⟨_, ow, ι, z.push (t := .exn x) ⟨a, d, rfl, upd_same, .inl ⟨q1, q2⟩⟩⟩
  · have y2 := y.share e2 e4
    have z := y2.newG (o := exO a (cOf K x.cls) d) na
    have ne : dd ≠ a := fun q => by rw [q, na] at e2; cases e2
    refine ⟨_, ow, ι, z.push (t := .exn x) ⟨a, d, rfl, upd_same, .inr ⟨dd, vfs, e1, by rw [upd_ne ne]; exact upd_same, ?_⟩⟩⟩
    refine e3.mono fun b u e => ?_
    have hb : b ≠ a := fun q => by
      have := y.sub _ _ e
      rw [q, na] at this; cases this
    rw [upd_ne hb]
    by_cases hd : b = dd
    · subst hd
      have := y.sub _ _ e
      rw [e2] at this
      rw [upd_same]; exact this
    · rw [upd_ne hd]; exact e

/-- try: .. except C as n: v = n -/
def mTry (cs : List Str) (i j : Nat) (b : Sm Fl) : Sm Fl := fun δ M =>
  match b δ M with
  | .ok fl δ' M' => .ok fl δ' M'
  | .ex x δ' M' => if cs.contains x.cls = true ∧ i < δ'.length ∧ j < δ'.length then .ok .nx ((δ'.set j (some (.exn x))).set i none) M' else .bad
  | .bad => .bad
theorem qs_try {x n y : Str} {c : Value} {i j : Nat} {body : List Stmt} {np pos' p1 p2 p3 : Pos} {cs : List Str} {b : Sm Fl} (st : X.stack = X.env :: X.outer) (fr : X.env.frame = some X.env.locals) (nd : X.N.Nodup) (at_i : X.N[i]? = some n) (loc : X.env.kindOf n = some .local)
    (cl : Names X x c) (ex0 : X.ex = []) (tk : Takes X W) (hij : i ≠ j) (at_j : X.N[j]? = some y) (locy : X.env.scope.names.lookup y = some .local) (hcs : ∀ m ∈ cs, PySem.W.exmOne X.K (.ref (cOf X.K m)) c = some true)
    (hb : ∀ (W' : WX) (pn : List (Addr × Obj)) (xe : Value → Shared → Prop), Takes (X.tr pn xe) W' → PassesOwn (model X.prog X.w) X.A X.env xe → QSs (X.tr pn xe) W' body b)
    (hv : ∀ (a : Addr) (oe : Obj) (pn : List (Addr × Obj)), PE (X.suite a ((a, oe) :: pn)) (.Name n p2) (tVar i)) (hs : swapsWith (.Name n p2) (some (.Name y p1)) p3.line X.env = pure false := by rfl) :
    QS X W (.Try body [.ExceptHandler (some (.Name x np)) (some n) [.Assign [.Name y p1] (.Name n p2) p3] pos'] [] [] pos) (mTry cs i j b) := by
  refine (ps_try_keep (tb := fun W' => tS X.K W' b) (ts := fun a cls d => tAsg (tVar i) (gName j)) st fr nd at_i loc cl ex0 tk hb (fun a oe cls d pn hz hd => pss_one (ps_set (X := X.suite a ((a, oe) :: pn)) nd at_j (.inl locy) (hv a oe pn) hs (.inr locy)))).imp fun D σ H ⟨δ, τ, fs, M, nb, r, q⟩ => ⟨δ, τ, fs, M, nb, r, ?_⟩
  unfold mTry at q
  cases eb : b δ M with
  | ok fl δ1 M1 => rw [eb] at q; exact q
  | bad => rw [eb] at q; exact q.elim
  | ex e δ1 M1 =>
    rw [eb] at q
    simp only at q
    split at q
    · rename_i hc
      intro d σ1 H1 xa
      have hm : e.cls ∈ cs := by simpa using hc.1
      refine ⟨true, hcs _ hm, fun _ => ⟨_, rfl, fun a na => ?_⟩, fun z => nomatch z⟩
      have rl : σ1.length = δ1.length := Rep.len xa.rep
      have r1 := xa.caught na
      have r2 := Rep.scrub (vs := [i]) (Rep.put r1 rfl nb (by rw [rl]; exact hc.2.2)) nb
      refine ⟨.ref a, List.getElem?_set_self (by rw [rl]; exact hc.2.1), fun _ => q _ _ ?_⟩
      rw [List.set_comm _ _ hij, List.set_set]
      exact r2
    · exact q.elim
@[simp] theorem e_try {cs : List Str} {i j : Nat} {b : Sm Fl} : mTry cs i j b δ M = (match b δ M with
  | .ok fl δ' M' => .ok fl δ' M'
  | .ex x δ' M' => if cs.contains x.cls = true ∧ i < δ'.length ∧ j < δ'.length then .ok .nx ((δ'.set j (some (.exn x))).set i none) M' else .bad
  | .bad => .bad) := rfl
end DL

end
section
namespace DL
open PySem PySem.Spec L2
/-! ### the program's exceptions: class X(B): def __init__(self, v): B.__init__(self, '..'); self.f = v -/
/-- B, a class of the program above ValueError with no __init__ of its own -/
structure AinC (K : KF) (B : Addr) : Prop where
  spc : PySem.W.specialIn K (.ref B) "__getattribute__" = some (some (.builtin "type.__getattribute__"))
  rds : PySem.W.readsIn K B (.type "type") = true
  fnd : PySem.W.findCls K (.ref B) (.type "type") "__init__" = some (.val (.builtin "ValueError.__init__"))
section
variable {X : Cx} {W : WX} {e : Expr} {es : List Expr} {ta : TA} {x : Str} {B C : Addr} {p p1 p2 pos : Pos}
theorem pe_ainit {pl : Sem Bool} (hg : Gl X x) (hm : X.mg x = some (.ref B)) (T : AinC X.K B) (ha : PA X (e :: es) ta)
    (hc : eval (.Call (.Attribute (.Name x p1) "__init__" p2) (e :: es) [] pos) X.env = (do
      let ov ← eval (.Name x p1) X.env
      standAt p2.atName
      let (f, first) ← holding [ov] (getMethod ov "__init__" pl)
      callWith pos f first (backTo pos (starEach (e :: es) X.env)) (backToKw pos (keywordEach [] X.env))) := by rfl)
    (hdb : (x == ("__debug__" : Str)) = false := by decide) (he : starEach (e :: es) X.env = (false, eval e X.env) :: starEach es X.env := by rfl) (hpl : (backTo pos (starEach es X.env)).any (·.1) = false := by rfl) : PE X (.Call (.Attribute (.Name x p1) "__init__" p2) (e :: es) [] pos) (tVeI X.K ta) := by
  refine ⟨fun pins s σ H Q I h => ?_⟩
  refine PySem.W.methodCall_KW (ld_glob I hg hm ?_ hdb) hc
  refine PySem.W.method_cls I.kIn T.spc (PySem.W.cls_value I.kIn T.rds T.fnd (by decide +kernel) ?_)
  show wpAny _ _ (callWith pos (Value.builtin "ValueError.__init__") [] (backTo pos (starEach (e :: es) X.env)) []) _ _ _
  refine PyProof.Rows.callWith_method1 (thn (ha.run pos pins _ σ H _ (I.tok _) h) fun us s1 ⟨vs, H1, I1, r1, z⟩ => ?_) he hpl
  obtain ⟨a, C, ws, rfl, hl, TC, at_a, q⟩ := z
  cases r1 with
  | @cons _ u0 _ ur ra rr =>
    obtain rfl : u0 = Value.ref a := ra
    exact oinit_ok TC I1 at_a (by rw [← Paired.length rr]; exact Nat.le_trans hl (by decide)) fun s' J => ⟨.non, H1, J, rfl, q⟩
end
section
variable {P : Program} {w : World} {K : KF} {mg : Str → Option Value} {base : Heap} {k : Nat} {fI C : Addr} {fd : FuncData} {qual f p msg : Str} {st : Stmt}
def sInit1 (C : Addr) (f : Str) : Sp := fun vs H Q _ => ∃ a v, vs = [.ref a, v] ∧ H a = some (exo a C none) ∧ ∀ dx, H dx = none → dx ≠ a → Q .non (upd (upd H dx (exd dx [(f, v)])) a (exo a C (some dx)))
abbrev tInit1 (K : KF) (f msg : Str) : TS := tSeq (tDrop (tVeI K (tCons (tVar 0) (tCons (tC (.str msg)) tNil)))) (tOst K f (tVar 0) (tVar 1))
theorem init1_ok (F : Fun K "__init__" qual st fI fd) (S : FnScope ["self", p] ["self", p] (defScope st)) (T : OexC K C) (hno : PySem.W.findIn K (.ref C) f = some none)
    (hb : ∀ (cdv : Value) (A : Around) (outer : List PySem.Env) (s : Shared) (H : Hp) (E : XK), PSs (cxOf (L2.CX P w) P w K mg base ["self", p] qual (defScope st) fI cdv A outer s H E) (defBody st) (tInit1 K f msg)) :
    FnOk P w K mg base (L2.CX P w) (k + 1) fI fd ["self", p] (sInit1 C f) := by
  refine F.okX S (fun vs H Q E ⟨a, v, e, _⟩ => by rw [e]; rfl) fun cdv A outer s H vs Q E hr hsp => ⟨_, hb cdv A outer s H E, ?_⟩
  obtain ⟨a, v, rfl, ha, q⟩ := hsp
  exact ⟨.ref a, rfl, a, C, [.str msg], rfl, by simp, T, ha, v, rfl, .ref a, rfl, a, C, rfl, T, hno, .inl ⟨ha, fun dx n ne => q dx n ne⟩⟩
end
section
variable {X : Cx} {W : WX} {e : Expr} {ta : TA} {x f : Str} {C fI : Addr} {fd : FuncData} {k : Nat} {ps : List Str} {p pos pos2 : Pos}
theorem heap_mk {H1 : Hp} {a dx : Addr} {o0 o1 o2 o3 : HO} (na : H1 a = none) (ne : dx ≠ a) : upd (del (upd (upd (upd H1 a o0) dx o1) a o2) a) dx o3 = upd H1 dx o3 := by
  funext b
  by_cases hd : b = dx
  · subst hd; rw [upd_same, upd_same]
  · rw [upd_ne hd, upd_ne hd]
    by_cases ha : b = a
    · subst ha; rw [del_same, na]
    · rw [del_ne ha, upd_ne ha, upd_ne hd, upd_ne ha]
end
section
variable {X : Cx} {W : WX} {e : Expr} {x f n : Str} {C fI : Addr} {fd : FuncData} {k : Nat} {ps : List Str} {p pos pos2 : Pos} {fa : Sm (List T)} {K : KF} {H : Hp} {σ : St} {δ : DL.Env} {τ : List (V × T)} {fs : List Fram} {M : Mem}
def mRaise1 (n f : Str) (fa : Sm (List T)) : Sm Fl := bnd fa fun ts => match ts with
  | [.d d] => fun δ M => .ex ⟨n, [(f, d)]⟩ δ M
  | _ => fail
theorem Rep.thrown {v : V} {d : D} {dx : Addr} (r : Rep K H (⟨σ, δ, (v, .d d) :: τ⟩ :: fs) M) (h : H dx = none) : XAt K (upd H dx (.xd [(f, v)])) ⟨n, [(f, d)]⟩ (some dx) (⟨σ, δ, τ⟩ :: fs) M := by
  obtain ⟨G, ow, ι, y⟩ := r
  have av : At K G v d := y.top
  refine ⟨_, ow, ι, y.pop.newG h, .inr ⟨dx, [(f, v)], rfl, upd_same, ⟨rfl, At.mono (same_upd (y.gfree h)) _ _ av, trivial⟩, ?_⟩⟩
  cases e : ow dx with
  | none => rfl
  | some w =>
    obtain ⟨_, o, q⟩ := y.own dx w e
    rw [h] at q; cases q
theorem qs_raise1 (hc : X.calm = true) (T : OexC X.K C) (iC : PySem.W.findIn X.K (.ref C) "__init__" = some (some (.ref fI))) (tI : PySem.W.typeIn X.K (.ref fI) = some (.type "function")) (F1 : FnOk X.prog X.w X.K X.mg X.base (L2.CX X.prog X.w) k fI fd ps (sInit1 C f)) (hr : Room (k + 1) X.A) (hb : Binds X.K fd ps []) (tk : Takes X W)
    (hC : cOf X.K n = C) (hg : Gl X x) (hm : X.mg x = some (.ref C)) (ha : QA X W [e] fa) (hdb : (x == ("__debug__" : Str)) = false := by decide) (he : starEach [e] X.env = (false, eval e X.env) :: starEach [] X.env := by rfl) (hpl : (backTo pos (starEach [] X.env)).any (·.1) = false := by rfl) :
    QS X W (.Raise (some (.Call (.Name x p) [e] [] pos)) none pos2) (mRaise1 n f fa) := by
  refine (ps_raise hc tk (pmk_oex (p := p) (pos := pos) T iC tI F1 hr hb .nil (passes_call tk fun _ _ _ _ z => z.elim) hg hm ha hdb he hpl)).imp fun D σ H ⟨δ, τ, fs, M, nb, r, q⟩ => ?_
  refine ⟨δ, τ, fs, M, r, Res.post_mono (bnd_post q) (fun ts δ1 M1 q1 vs H1 hl r1 => ?_) fun _ _ _ z => xw z⟩
  split at q1
  · rename_i d
    match vs, hl, r1 with
    | [v], _, r1 =>
      refine ⟨by simp, fun a na => ⟨a, v, rfl, upd_same, fun dx n1 ne => ⟨rfl, dx, [(f, v)], upd_same, ?_, ?_, ?_⟩⟩⟩
      · rw [upd_ne ne]; exact upd_same
      · rw [upd_ne ne] at n1; exact n1
      · rw [heap_mk na ne]
        rw [upd_ne ne] at n1
        have z := q1 (some dx) σ (upd H1 dx (.xd [(f, v)])) (Rep.thrown r1 n1)
        rw [← hC]
        exact z
  · exact q1.elim
@[simp] theorem e_raise1 : mRaise1 n f fa δ M = bnd fa (fun ts => match ts with
  | [.d d] => fun δ M => .ex ⟨n, [(f, d)]⟩ δ M
  | _ => fail) δ M := rfl
end
end DL

end
section
namespace DL
open PySem PySem.Spec L2
variable {X : Cx} {W : WX} {K : KF} {H G : Hp} {ow : Addr → Option Who} {ι : List Addr} {σ : St} {δ : DL.Env} {τ : List (V × T)} {fs : List Fram} {M : Mem} {v u : V} {t : T} {e e' e2 : Expr} {p pos : Pos}
/-! ### a kept exception: isinstance, a field, is None -/
/-- what the written part says of a class of exceptions -/
structure XcK (K : KF) (C : Addr) : Prop where
  ex : ExcC K C
  xf : XfC K C
  cl : (PySem.W.clsIn K C).isSome = true
/-- the exception stands in the heap -/
structure Stands (H : Hp) (a C : Addr) (d : Option Addr) : Prop where
  at_a : H a = some (exO a C d)
  at_d : d = none ∨ ∃ dd vfs, d = some dd ∧ H dd = some (.xd vfs)
theorem AtX.stands {x : XD} (s : Same G H) (h : AtX K G v x) : ∃ a d, v = .ref a ∧ Stands H a (cOf K x.cls) d ∧ (x.fs = [] ∨ ∃ dd vfs, d = some dd ∧ H dd = some (.xd vfs) ∧ AtF K H vfs x.fs) := by
  obtain ⟨a, d, e, h1, h2⟩ := h
  rcases h2 with ⟨q1, q2⟩ | ⟨dd, vfs, q1, q2, q3⟩
  · exact ⟨a, d, e, ⟨s _ _ h1, .inl q2⟩, .inl q1⟩
  · exact ⟨a, d, e, ⟨s _ _ h1, .inr ⟨dd, vfs, q1, s _ _ q2⟩⟩, .inr ⟨dd, vfs, q1, s _ _ q2, q3.mono s⟩⟩
theorem inst_at {pins : List (Addr × Obj)} {σ : St} {s : Shared} {a C : Addr} {d : Option Addr} (I : Inv X pins σ H s) (h : Stands H a C d) : ∃ oe od, PySem.W.InstAt s.heap a oe C od ∧ (d = none → od = none) ∧ ∀ dd, d = some dd → ∃ o, od = some o ∧ s.heap.get? dd = some o := by
  obtain ⟨oe, vs, he, hz, hv⟩ := (I.hok a _ h.at_a).1
  have nc : ∀ {o : Obj}, o.data = .fields vs → PySem.W.notCls o = true := fun {o} e => by unfold PySem.W.notCls; rw [e]
  rcases h.at_d with e | ⟨dd, vfs, e, hd⟩
  · subst e
    exact ⟨oe, none, ⟨he, hz.1, nc hv, by rw [hz.2]; trivial⟩, fun _ => rfl, fun dd z => nomatch z⟩
  · subst e
    obtain ⟨mA, hns, hr⟩ := (show ObjOk X.prog X.w H s.heap dd (.xd vfs) from I.hok dd _ hd)
    obtain ⟨od, ho, hl⟩ := L2.lookIn_ns hns
    exact ⟨oe, some od, ⟨he, hz.1, nc hv, by rw [hz.2]; exact ho⟩, ⟨fun z => (by cases z), fun d2 z => (by cases z; exact ⟨od, rfl, ho⟩)⟩⟩
def rIsK (K : KF) : List V → Hp → VK → Prop := fun xs H Q => ∃ (a C : Addr) (d : Option Addr) (c : V) (cv : Value) (b : Bool), xs = [.ref a, c] ∧ Stands H a C d ∧ XcK K C ∧ (∀ u, RelV c u → u = cv) ∧ PySem.W.kitOne K (.ref C) cv = some b ∧ Q (.bl b) H
theorem call_isK : CallR X (.builtin "isinstance") (rIsK X.K) := by
  intro pins s σ H xs us Q I r h
  obtain ⟨a, C, d, c, cv, b, rfl, st, xc, hcv, e, q⟩ := h
  cases r with
  | cons rx rr =>
    cases rr with
    | cons rt rr =>
      cases rr
      cases rx
      have ec := hcv _ rt
      subst ec
      obtain ⟨oe, od, J, _⟩ := inst_at I st
      exact PySem.W.kia_one (PySem.W.kitx_exc xc.cl xc.ex.hg xc.ex.hk xc.ex.hs xc.ex.ha xc.ex.hn xc.ex.ht xc.ex.hm) I.kIn J e (fun z => nomatch z) fun tk => ⟨.bl b, H, I.kept (t' := tk) fun _ _ z => z, rfl, q⟩
def mIsX (yes no : List Str) (f : Sm T) : Sm T := bnd f fun t => match t with
  | .exn x => if yes.contains x.cls = true then ret (.d (.bool true)) else if no.contains x.cls = true then ret (.d (.bool false)) else fail
  | _ => fail
theorem boot_fn_isinstance : bootBuiltins "isinstance" = some (.builtin "isinstance") := by decide +kernel
theorem qe_isX {yes no : List Str} {f : Sm T} {c : V} {cv : Value} (hg : Gl X "isinstance") (hm : X.mg "isinstance" = none) (h : QE X W e f) (hc : PE X e2 (tC c)) (hcv : ∀ u, RelV c u → u = cv) (hx : ∀ m ∈ yes ++ no, XcK X.K (cOf X.K m))
    (hy : ∀ m ∈ yes, PySem.W.kitOne X.K (.ref (cOf X.K m)) cv = some true) (hn : ∀ m ∈ no, PySem.W.kitOne X.K (.ref (cOf X.K m)) cv = some false) (he : starEach [e, e2] X.env = (false, eval e X.env) :: starEach [e2] X.env := by rfl) (he2 : starEach [e2] X.env = (false, eval e2 X.env) :: starEach [] X.env := by rfl)
    (hpl : (backTo pos (starEach [e2] X.env)).any (·.1) = false := by rfl) : QE X W (.Call (.Name "isinstance" p) [e, e2] [] pos) (mIsX yes no f) := by
  refine (pe_callB call_isK hg hm boot_fn_isinstance (pa_cons h (pa_cons hc pa_nil he2) he) (by decide) (by decide) he hpl).imp fun σ H Q ⟨δ, τ, fs, M, r, q⟩ => ?_
  refine ⟨δ, τ, fs, M, r, Res.post_mono (bnd_post q) (fun t δ1 M1 q1 v H1 r1 => ?_) fun _ _ _ z => z⟩
  split at q1
  · rename_i x
    obtain ⟨G, ow, ι, y⟩ := id r1
    obtain ⟨a, d, ev, st, _⟩ := AtX.stands y.sub (show AtX X.K G v x from y.top)
    split at q1
    · rename_i hh
      have hm : x.cls ∈ yes := by simpa using hh
      exact ⟨a, _, d, c, cv, true, by rw [ev], st, hx _ (List.mem_append_left _ hm), hcv, hy _ hm, q1 _ H1 (r1.pop.pushD (x := .bool true) fun _ _ => rfl)⟩
    · split at q1
      · rename_i hh
        have hm : x.cls ∈ no := by simpa using hh
        exact ⟨a, _, d, c, cv, false, by rw [ev], st, hx _ (List.mem_append_right _ hm), hcv, hn _ hm, q1 _ H1 (r1.pop.pushD (x := .bool false) fun _ _ => rfl)⟩
      · exact q1.elim
  · exact q1.elim
@[simp] theorem e_isX {yes no : List Str} {f : Sm T} : mIsX yes no f δ M = bnd f (fun t => match t with
  | .exn x => if yes.contains x.cls = true then ret (.d (.bool true)) else if no.contains x.cls = true then ret (.d (.bool false)) else fail
  | _ => fail) δ M := rfl
/-- e is None, e an exception or a datum -/
def isNo (t : T) (δ : DL.Env) (M : Mem) : Option Bool := match t with
  | .exn _ => some false
  | .ref _ => some false
  | t => (vw t δ M).map fun d => match d with
    | .none => true
    | _ => false
theorem isNo_rd {b : Bool} (r : Rep K H (⟨σ, δ, (v, t) :: τ⟩ :: fs) M) (h : isNo t δ M = some b) : decide (v = V.non) = b := by
  obtain ⟨G, ow, ι, y⟩ := r
  have gen : ∀ d, vw t δ M = some d → decide (v = V.non) = (match d with | .none => true | _ => false) := fun d e => by
    have z := at_non ((y.vw y.top e).at y.sub)
    cases d <;> exact z
  cases t with
  | exn x =>
    obtain ⟨a, d, ev, _⟩ := (show AtX K G v x from y.top)
    cases h
    rw [ev]; rfl
  | d x => cases h; exact gen x rfl
  | v x => cases h
  | st φ => cases h
  | ext φ => cases h
  | fz x => cases h
  | scr ns => cases h
  | con c =>
    have h : (vw (.con c) δ M).map (fun d => match d with | PyData.none => true | _ => false) = some b := h
    cases e : vw (.con c) δ M with
    | none => rw [e] at h; cases h
    | some d => rw [e] at h; cases h; exact gen d e
  | deep c => cases h
  | ref n =>
    obtain ⟨a, ev, _⟩ := (show RT K H G ow ι σ _ v (.ref n) from y.top)
    cases h
    rw [ev]; rfl
  | bor n =>
    have h : (vw (.bor n) δ M).map (fun d => match d with | PyData.none => true | _ => false) = some b := h
    cases e : vw (.bor n) δ M with
    | none => rw [e] at h; cases h
    | some d => rw [e] at h; cases h; exact gen d e
def mIsNX (f : Sm T) : Sm T := bnd f fun t => fun δ M => opt ((isNo t δ M).map fun b => T.d (.bool b)) δ M
def mNotNX (f : Sm T) : Sm T := bnd f fun t => fun δ M => opt ((isNo t δ M).map fun b => T.d (.bool !b)) δ M
theorem isN_rd {f : Sm T} {g : Bool → Bool} {Q : VK} (q : tE X.K W (bnd f fun t => fun δ M => opt ((isNo t δ M).map fun b => T.d (.bool (g b))) δ M) σ H Q) : tE X.K W f σ H fun x H1 => Q (.bl (g (decide (x = V.non)))) H1 := by
  obtain ⟨δ, τ, fs, M, r, q⟩ := q
  refine ⟨δ, τ, fs, M, r, Res.post_mono (bnd_post q) (fun t δ1 M1 q1 v H1 r1 => ?_) fun _ _ _ z => z⟩
  obtain ⟨z, ez, q2⟩ := opt_post q1
  cases e : isNo t δ1 M1 with
  | none => rw [e] at ez; cases ez
  | some b =>
    rw [e] at ez
    cases ez
    show Q (.bl (g (decide (v = V.non)))) H1
    rw [isNo_rd r1 e]
    exact q2 _ H1 (r1.pop.pushD (x := .bool (g b)) fun _ _ => rfl)
section
variable {j : Nat} {p2 : Pos} {f : Sm T}
theorem qe_isNX (h : QE X W e f) : QE X W (.Compare e [.Is] [.Constant .none j p2] pos) (mIsNX f) := (pe_cmpR op_isN h pe_non (nomark _)).imp fun σ H Q q => by
  obtain ⟨δ, τ, fs, M, r, z⟩ := isN_rd (g := id) q
  exact ⟨δ, τ, fs, M, r, Res.post_mono z (fun _ _ _ k v H1 r1 => ⟨rfl, k v H1 r1⟩) fun _ _ _ k => k⟩
theorem qe_notNX (h : QE X W e f) : QE X W (.Compare e [.IsNot] [.Constant .none j p2] pos) (mNotNX f) := (pe_cmpR op_notN h pe_non (nomark _)).imp fun σ H Q q => by
  obtain ⟨δ, τ, fs, M, r, z⟩ := isN_rd (g := not) q
  exact ⟨δ, τ, fs, M, r, Res.post_mono z (fun _ _ _ k v H1 r1 => ⟨rfl, k v H1 r1⟩) fun _ _ _ k => k⟩
end
@[simp] theorem e_isNX {f : Sm T} : mIsNX f δ M = bnd f (fun t => fun δ M => opt ((isNo t δ M).map fun b => T.d (.bool b)) δ M) δ M := rfl
@[simp] theorem e_notNX {f : Sm T} : mNotNX f δ M = bnd f (fun t => fun δ M => opt ((isNo t δ M).map fun b => T.d (.bool !b)) δ M) δ M := rfl
@[simp] theorem e_isNoX {x : XD} : isNo (.exn x) δ M = some false := rfl
@[simp] theorem e_isNoR {n : Nat} : isNo (.ref n) δ M = some false := rfl
@[simp] theorem e_isNoN : isNo (.d .none) δ M = some true := rfl
@[simp] theorem e_isNoI {i : Int} : isNo (.d (.int i)) δ M = some false := rfl
@[simp] theorem e_isNoT {i : List D} : isNo (.d (.tuple i)) δ M = some false := rfl
/-- e.n of an exception -/
def mFldX (n : Str) (cs : List Str) (f : Sm T) : Sm T := bnd f fun t => match t with
  | .exn x => if cs.contains x.cls = true then opt ((x.fs.lookup n).map T.d) else fail
  | _ => fail
theorem AtF.get {n : Str} {d : D} : ∀ {vs : List (Str × V)} {ds : List (Str × D)}, AtF K G vs ds → ds.lookup n = some d → ∃ v, vs.lookup n = some v ∧ At K G v d
  | [], [], _, e => by cases e
  | (a, v) :: r, (b, q) :: s, ⟨h1, h2, h3⟩, e => by
    subst h1
    rw [List.lookup_cons] at e ⊢
    cases hn : n == a with
    | true =>
      rw [hn] at e
      cases e
      exact ⟨v, rfl, h2⟩
    | false =>
      rw [hn] at e
      exact AtF.get h3 e
theorem qe_fldX {n : Str} {cs : List Str} {f : Sm T} (h : QE X W e f) (hx : ∀ m ∈ cs, XcK X.K (cOf X.K m)) (hno : ∀ m ∈ cs, PySem.W.findIn X.K (.ref (cOf X.K m)) n = some none) (hb : attributeBase e n X.env (eval e X.env) = eval e X.env := by rfl) : QE X W (.Attribute e n pos) (mFldX n cs f) := by
  refine ⟨fun pins s σ H Q I q => ?_⟩
  obtain ⟨δ, τ, fs, M, r, q⟩ := q
  have q' : tE X.K W f σ H fun x H1 => ∃ a C d dd vfs v, x = .ref a ∧ Stands H1 a C d ∧ d = some dd ∧ H1 dd = some (.xd vfs) ∧ vfs.lookup n = some v ∧ XcK X.K C ∧ PySem.W.findIn X.K (.ref C) n = some none ∧ Q v H1 := by
    refine ⟨δ, τ, fs, M, r, Res.post_mono (bnd_post q) (fun t δ1 M1 q1 v H1 r1 => ?_) fun _ _ _ z => z⟩
    split at q1
    · rename_i x
      split at q1
      · rename_i hh
        have hm : x.cls ∈ cs := by simpa using hh
        obtain ⟨z, ez, q2⟩ := opt_post q1
        obtain ⟨G, ow, ι, y⟩ := r1
        obtain ⟨a, d, ev, st, w⟩ := AtX.stands y.sub (show AtX X.K G v x from y.top)
        cases el : x.fs.lookup n with
        | none => rw [el] at ez; cases ez
        | some fd =>
          rw [el] at ez
          cases ez
          obtain ⟨a', d', ev', h1, h2⟩ := (show AtX X.K G v x from y.top)
          rcases h2 with ⟨h2, _⟩ | ⟨dd, vfs, ed, e2, af⟩
          · rw [h2] at el; cases el
          · obtain ⟨u, eu, au⟩ := AtF.get af el
            exact ⟨a', _, d', dd, vfs, u, ev', ⟨y.sub _ _ h1, .inr ⟨dd, vfs, ed, y.sub _ _ e2⟩⟩, ed, y.sub _ _ e2, eu, hx _ hm, hno _ hm, q2 u H1 ⟨G, ow, ι, y.pop.push (t := .d fd) au⟩⟩
      · exact q1.elim
    · exact q1.elim
  refine attr_of hb (thn (h.run pins s σ H _ I q') fun u s1 hh => ?_)
  obtain ⟨x, H1, I1, rx, a, C, d, dd, vfs, v, ex, st, ed, ea, l, xc, no, q⟩ := hh
  subst ex
  obtain rfl : u = Value.ref a := rx
  obtain ⟨oe, od0, J, _, od_at⟩ := inst_at I1 st
  obtain ⟨od, e0, ho⟩ := od_at dd ed
  subst e0
  obtain ⟨mA, hns, hr⟩ := (show ObjOk X.prog X.w H1 s1.heap dd (.xd vfs) from I1.hok dd _ ea)
  obtain ⟨od2, ho2, hl⟩ := L2.lookIn_ns hns
  rw [ho] at ho2
  cases ho2
  obtain ⟨u, hu, ru⟩ := RelO.some_of (v := v) (o := mA n) (by rw [← l]; exact hr n)
  exact HandSPX.exc_get I1.kIn J xc.xf.ga xc.xf.gg xc.xf.exC (PySem.W.findObj_own xc.xf.hdC no rfl (by rw [hl, hu])) (handed_of ru) ⟨v, H1, I1.tok _, ru, q⟩
@[simp] theorem e_fldX {n : Str} {cs : List Str} {f : Sm T} : mFldX n cs f δ M = bnd f (fun t => match t with
  | .exn x => if cs.contains x.cls = true then opt ((x.fs.lookup n).map T.d) else fail
  | _ => fail) δ M := rfl
end DL

end
section
namespace DL
open PySem PySem.Spec L2
/-! ### class X(B): def __init__(self): B.__init__(self, '..'): no field -/
section
variable {X : Cx} {pins : List (Addr × Obj)} {σ : St}
/-- the exception made, let go: its own object taken out of what is tracked -/
theorem let_go {H1 H2 : Hp} {hp hp2 h2 : Heap} {g1 g2 : Array GenState} {d1 d2 : Drawn} {t1 t2 : Nat} {os1 os2 : OsState} {a C : Addr} (I1 : Inv X pins σ H1 ⟨hp, g1, d1, t1, os1⟩) (ha : hp.objs.size ≤ a) (k : ∀ b o, hp.get? b = some o → hp2.get? b = some o)
    (un : Un (frs X.stack) [] (upd H1 a (exo a C none)) H2 hp2 h2) (hok : HOk X.prog X.w H2 h2) (ho : os2 = os1) (hb : PyProof.Rows.AllBare g2) (ea : H2 a = some (exo a C none)) :
    ∃ (t0 : Addr) (G : Heap), Inv X pins σ (del H2 a) ⟨G, g2, d2, t2, os2⟩ ∧ (∀ b o, G.get? b = some o → h2.get? b = some o) ∧ G.get? a = none ∧ h2.get? a = some ({ cls := .ref C, dict := none, data := .fields #[.ref t0, .none, .none, .none, .bool false, .none] } : Obj) := by
  obtain ⟨t0, at_a⟩ := exo_at hok ea
  have n1 : H1 a = none := I1.hok.fresh ha
  obtain ⟨G, r1, r2⟩ := restrict h2 fun b => decide (b ≠ a)
  have out : ∀ b, b ≠ a → G.get? b = h2.get? b := fun b z => r1 b (decide_eq_true z)
  have gone : G.get? a = none := r2 a (by simp)
  have old : ∀ {b : Addr} {o : Obj}, hp.get? b = some o → b ≠ a := fun {b o} z e => by
    have := Heap.lt_size z
    rw [e] at this
    exact absurd this (Nat.not_lt.mpr ha)
  have same : ∀ {b : Addr}, b ≠ a → upd H1 a (exo a C none) b = H1 b := fun z => upd_ne z
  have ne1 : ∀ {b : Addr} {u : HO}, H1 b = some u → b ≠ a := fun q z => by rw [z, n1] at q; cases q
  have U : Un (frs X.stack) [] H1 (del H2 a) hp G :=
    ⟨fun b o z n hf hx => (out b (old z)).trans (un.keep b o (k b o z) ((same (old z)).trans n) hf hx),
     fun b o z n hf hx => by rw [out b (old z)]; exact un.slot b o (k b o z) ((same (old z)).trans n) hf hx,
     fun b o z n hx => (del_ne (old z)).trans (un.free b o (k b o z) ((same (old z)).trans n) hx),
     fun b o z hx => by rw [out b (old z)]; exact un.there b o (k b o z) hx,
     fun b xs z => (del_ne (ne1 z)).trans (un.tups b xs ((same (ne1 z)).trans z)),
     fun b o u z => (del_ne (ne1 z)).trans (un.frzs b o u ((same (ne1 z)).trans z)),
     fun b ps z => by rw [del_ne (ne1 z)]; exact un.tbls b ps ((same (ne1 z)).trans z)⟩
  have hok2 : HOk X.prog X.w (del H2 a) G := fun b o z => by
    have nb : b ≠ a := fun e => by rw [e, del_same] at z; cases z
    rw [del_ne nb] at z
    refine (hok b o z).stay (fun c u hc y => ?_) (fun c hc => (del_ne (at_ne ea hc exo_own)).trans hc) fun c xs hc => (del_ne (at_ne ea hc exo_tup)).trans hc
    rw [out c]
    · exact y
    · rcases hc with hc | hc
      · rw [hc]; exact nb
      · exact at_ne ea hc exo_own
  refine ⟨t0, G, I1.call' (ch := []) ho U hok2 hb (fun b z => absurd z (by simp)), fun b o z => ?_, gone, at_a⟩
  by_cases e : b = a
  · rw [e, gone] at z; cases z
  · exact (out b e).symm.trans z
end
section
variable {P : Program} {w : World} {K : KF} {mg : Str → Option Value} {base : Heap} {k : Nat} {fI C : Addr} {fd : FuncData} {qual msg : Str} {st : Stmt}
def sInit0 (C : Addr) : Sp := fun vs H Q _ => ∃ a, vs = [.ref a] ∧ H a = some (exo a C none) ∧ Q .non H
abbrev tInit0 (K : KF) (msg : Str) : TS := tDrop (tVeI K (tCons (tVar 0) (tCons (tC (.str msg)) tNil)))
theorem init0_ok (F : Fun K "__init__" qual st fI fd) (S : FnScope ["self"] ["self"] (defScope st)) (T : OexC K C)
    (hb : ∀ (cdv : Value) (A : Around) (outer : List PySem.Env) (s : Shared) (H : Hp) (E : XK), PSs (cxOf (L2.CX P w) P w K mg base ["self"] qual (defScope st) fI cdv A outer s H E) (defBody st) (tInit0 K msg)) :
    FnOk P w K mg base (L2.CX P w) (k + 1) fI fd ["self"] (sInit0 C) := by
  refine F.okX S (fun vs H Q E ⟨a, e, _⟩ => by rw [e]; rfl) fun cdv A outer s H vs Q E hr hsp => ⟨_, hb cdv A outer s H E, ?_⟩
  obtain ⟨a, rfl, ha, q⟩ := hsp
  exact ⟨.ref a, rfl, a, C, [.str msg], rfl, by simp, T, ha, q⟩
end
section
variable {X : Cx} {W : WX} {x n : Str} {C fI : Addr} {fd : FuncData} {k : Nat} {ps : List Str} {p pos pos2 : Pos} {K : KF} {H : Hp} {σ : St} {δ : DL.Env} {τ : List (V × T)} {fs : List Fram} {M : Mem}
theorem pmk0 (T : OexC X.K C) (iC : PySem.W.findIn X.K (.ref C) "__init__" = some (some (.ref fI))) (tI : PySem.W.typeIn X.K (.ref fI) = some (.type "function")) (F1 : FnOk X.prog X.w X.K X.mg X.base (L2.CX X.prog X.w) k fI fd ps (sInit0 C)) (hr : Room (k + 1) X.A) (hb : Binds X.K fd ps []) (tk : Takes X W)
    (hg : Gl X x) (hm : X.mg x = some (.ref C)) (hdb : (x == ("__debug__" : Str)) = false := by decide) : PMk X (.Call (.Name x p) [] [] pos) (fun _ H Q => Q (.ref C) none H) := by
  intro pins s σ H Q I h
  obtain ⟨nm, q, N, bs, bm, sn, sub, ab, col, dd, k0, k1, k2, k3, k5, hC, hbm⟩ := T.cls
  refine wpAny_Call_Name_kw (ld_glob I hg hm ?_ hdb)
  refine PySem.W.callWith_K0 I.kIn T.kC ?_
  obtain ⟨hp, g, dr, tk0, os⟩ := s
  have le1 : hp.objs.size ≤ hp.objs.size + 1 := Nat.le_succ _
  have n1 : H (hp.objs.size + 1) = none := I.hok.fresh le1
  have kk : ∀ b o, hp.get? b = some o → ((hp.push (PySem.W.kdv_tup [])).push (PySem.HandSPX.excO C hp.objs.size)).get? b = some o := fun b o e => Heap.get?_push_of_some _ (Heap.get?_push_of_some _ e)
  have got : ((hp.push (PySem.W.kdv_tup [])).push (PySem.HandSPX.excO C hp.objs.size)).get? (hp.objs.size + 1) = some (PySem.HandSPX.excO C hp.objs.size) := by heap_get
  have I2 := I.laid (t' := tk0) (a := hp.objs.size + 1) (o := exo (hp.objs.size + 1) C none) kk le1 (exo_ok got)
  have bd := hb _ [Value.ref (hp.objs.size + 1)] I2.kIn (F1.len [V.ref (hp.objs.size + 1)] (upd H (hp.objs.size + 1) (exo (hp.objs.size + 1) C none)) (fun _ _ => True) (fun _ _ _ => True) ⟨_, rfl, upd_same, trivial⟩)
  rw [List.append_nil] at bd
  have run := F1.run (X.A.under (.builtin "type.__call__" ⟨.ref C :: [], []⟩)) X.stack _ _ ⟨[Value.ref (hp.objs.size + 1)], []⟩ [Value.ref (hp.objs.size + 1)] [V.ref (hp.objs.size + 1)] (fun v H2 => v = .non ∧ H2 = upd H (hp.objs.size + 1) (exo (hp.objs.size + 1) C none)) (fun _ _ _ => False)
    (hr.make C [] []) (I2.env0.make C [] []) bd (.cons rfl .nil) ⟨_, rfl, upd_same, rfl, rfl⟩
  refine wpAny_call (PySem.HandSPX.call_own F.excBase_ValueError (fun Y => PySem.HandSPX.refsVE_contains Y bm hbm) (I.kIn _ _ hC) (PySem.W.looks_findIn I.kIn iC) (fun self => PySem.W.bind_fn I.kIn self tI) (Nat.zero_le _) (codeAny_mono run fun r s' z => ?_))
  cases r with
  | error er => exact passes_call (E := fun _ _ _ => False) tk (fun _ _ _ _ z => z.elim) pins σ _ _ er s' I2 z
  | ok fl =>
    cases fl with
    | ret u =>
      obtain ⟨v, H2, eos, bare, un, hok2, rv, ev, eH⟩ := z
      subst ev eH
      obtain ⟨h2, g2, d2, t2, os'⟩ := s'
      obtain ⟨t0, G, J, kG, gone, at_a⟩ := let_go (d2 := d2) (t2 := t2) I le1 kk un hok2 eos bare upd_same
      have eD : del (upd H (hp.objs.size + 1) (exo (hp.objs.size + 1) C none)) (hp.objs.size + 1) = H := by
        funext b
        by_cases e : b = hp.objs.size + 1
        · rw [e, del_same, n1]
        · rw [del_ne e, upd_ne e]
      rw [eD] at J
      exact ⟨rv, _, _, _, ⟨G, g2, d2, t2, os'⟩, _, .ref C, none, rfl, J, kG, gone, at_a, ⟨rfl, rfl⟩, rfl, rfl, n1, rfl, bare, raises_own T.exC T.tyC, h⟩
    | next => exact False.elim z
    | brk => exact False.elim z
    | cont => exact False.elim z
def mRaise0 (n : Str) : Sm Fl := fun δ M => .ex ⟨n, []⟩ δ M
theorem qs_raise0 (hc : X.calm = true) (T : OexC X.K C) (iC : PySem.W.findIn X.K (.ref C) "__init__" = some (some (.ref fI))) (tI : PySem.W.typeIn X.K (.ref fI) = some (.type "function")) (F1 : FnOk X.prog X.w X.K X.mg X.base (L2.CX X.prog X.w) k fI fd ps (sInit0 C)) (hr : Room (k + 1) X.A) (hb : Binds X.K fd ps []) (tk : Takes X W)
    (hC : cOf X.K n = C) (hg : Gl X x) (hm : X.mg x = some (.ref C)) (hdb : (x == ("__debug__" : Str)) = false := by decide) : QS X W (.Raise (some (.Call (.Name x p) [] [] pos)) none pos2) (mRaise0 n) := by
  refine (ps_raise hc tk (pmk0 (p := p) (pos := pos) T iC tI F1 hr hb tk hg hm hdb)).imp fun D σ H ⟨δ, τ, fs, M, nb, r, q⟩ => ?_
  have z := q none σ H (let ⟨G, ow, ι, y⟩ := r; ⟨G, ow, ι, y, .inl ⟨rfl, rfl⟩⟩)
  rw [← hC]
  exact z
@[simp] theorem e_raise0 : mRaise0 n δ M = .ex ⟨n, []⟩ δ M := rfl
end
end DL

end
section
namespace DL
open PySem PySem.Spec L2
variable {X : Cx} {W : WX} {K : KF} {H G : Hp} {δ : DL.Env} {M : Mem} {e e' : Expr} {pos : Pos} {k : Nat}
/-! ### in, not in: lists and tuples of plain data -/
def inOk (x : D) (ds : List D) : Bool := x.plain && PyData.plainAll ds && decide (min (PyData.depthAll ds) x.depth ≤ 62)
def isIn (x : D) (ds : List D) : Bool := ds.any fun y => PyData.eqv y x
def fInB (g : Bool → Bool) (x c : D) : Option D :=
  match c with
  | .list ds => if inOk x ds = true then some (.bool (g (isIn x ds))) else none
  | .tuple ds => if inOk x ds = true then some (.bool (g (isIn x ds))) else none
  | _ => none
def fIn : D → D → Option D := fInB id
def fNotIn : D → D → Option D := fInB not
def rInP (g : Bool → Bool) (K : KF) : R2 := fun x y H Q => ∃ d ds, Dp K H x d ∧ (Dp K H y (.list ds) ∨ Dp K H y (.tuple ds)) ∧ inOk d ds = true ∧ Q (.bl (g (isIn d ds))) H
theorem inOk_p {x : D} {ds : List D} (h : inOk x ds = true) : x.plain = true ∧ PyData.plainAll ds = true ∧ min (PyData.depthAll ds) x.depth ≤ 62 := by
  unfold inOk at h
  simp only [Bool.and_eq_true, decide_eq_true_eq] at h
  exact ⟨h.1.1, h.1.2, h.2⟩
theorem op_inP (hu : X.A.units + 64 < cLine) : OpR X (compareOp .In) (rInP id X.K) := by
  intro pins s σ H x y v u Q I rx ry h
  obtain ⟨d, ds, hd, he, ok, q⟩ := h
  obtain ⟨p1, p2, p3⟩ := inOk_p ok
  obtain ⟨as, r1⟩ := Dp.reads I d x v hd rx
  rcases he with he | he
  · obtain ⟨bs, r2⟩ := Dp.reads I _ y u he ry
    exact SeqAt.in_list_data r2 r1 p2 p1 (by omega) ⟨.bl _, H, I, rfl, q⟩
  · obtain ⟨bs, r2⟩ := Dp.reads I _ y u he ry
    exact SeqAt.in_tuple_data r2 r1 p2 p1 (by omega) ⟨.bl _, H, I, rfl, q⟩
theorem op_notInP (hu : X.A.units + 64 < cLine) : OpR X (compareOp .NotIn) (rInP not X.K) := by
  intro pins s σ H x y v u Q I rx ry h
  obtain ⟨d, ds, hd, he, ok, q⟩ := h
  obtain ⟨p1, p2, p3⟩ := inOk_p ok
  obtain ⟨as, r1⟩ := Dp.reads I d x v hd rx
  rcases he with he | he
  · obtain ⟨bs, r2⟩ := Dp.reads I _ y u he ry
    exact SeqAt.notIn_list_data r2 r1 p2 p1 (by omega) ⟨.bl _, H, I, rfl, q⟩
  · obtain ⟨bs, r2⟩ := Dp.reads I _ y u he ry
    exact SeqAt.notIn_tuple_data r2 r1 p2 p1 (by omega) ⟨.bl _, H, I, rfl, q⟩
theorem opd_inP {g : Bool → Bool} : OpD X (rInP g X.K) (fInB g) := by
  intro v u H Q a b z ha hb ef k
  cases b with
  | list ds =>
    unfold fInB at ef
    simp only at ef
    split at ef
    · rename_i ok
      cases ef
      have p := inOk_p ok
      exact ⟨a, ds, At.dp a v ha p.1, .inl (At.dp (.list ds) u hb (by simpa [PyData.plain] using p.2.1)), ok, k _ fun _ => rfl⟩
    · cases ef
  | tuple ds =>
    unfold fInB at ef
    simp only at ef
    split at ef
    · rename_i ok
      cases ef
      have p := inOk_p ok
      exact ⟨a, ds, At.dp a v ha p.1, .inr (At.dp (.tuple ds) u hb (by simpa [PyData.plain] using p.2.1)), ok, k _ fun _ => rfl⟩
    · cases ef
  | none => cases ef
  | bool _ => cases ef
  | int _ => cases ef
  | str _ => cases ef
  | dict _ => cases ef
theorem cd_in (hr : Room k X.A) : CD X .In fIn := ⟨_, op_inP hr.units, opd_inP⟩
theorem cd_notIn (hr : Room k X.A) : CD X .NotIn fNotIn := ⟨_, op_notInP hr.units, opd_inP⟩
end DL

end
section
namespace DL
open PySem PySem.Spec L2
variable {X : Cx} {W : WX} {δ : DL.Env} {M : Mem} {e e' : Expr} {pos : Pos} {k : Nat}
section
variable {j : Nat} {p2 : Pos} {f : Sm T}
theorem qt_isNX (h : QE X W e f) : QT X W (.Compare e [.Is] [.Constant .none j p2] pos) (mTest (mIsNX f)) := (pt_cmpR op_isN h pe_non (nomark _)).imp fun σ H Q q => by
  obtain ⟨δ, τ, fs, M, r, z⟩ := isN_rd (g := id) (test_of q)
  exact ⟨δ, τ, fs, M, r, Res.post_mono z (fun _ _ _ k v H1 r1 => ⟨rfl, k v H1 r1⟩) fun _ _ _ k => k⟩
theorem qt_notNX (h : QE X W e f) : QT X W (.Compare e [.IsNot] [.Constant .none j p2] pos) (mTest (mNotNX f)) := (pt_cmpR op_notN h pe_non (nomark _)).imp fun σ H Q q => by
  obtain ⟨δ, τ, fs, M, r, z⟩ := isN_rd (g := not) (test_of q)
  exact ⟨δ, τ, fs, M, r, Res.post_mono z (fun _ _ _ k v H1 r1 => ⟨rfl, k v H1 r1⟩) fun _ _ _ k => k⟩
end
theorem boot_ty_VE : bootBuiltins "ValueError" = some (.type "ValueError") := by decide +kernel
/-! ### classes of exceptions: what the top has written -/
/-- a class over ValueError with no __init__ -/
structure BaseF (K : KF) (mg : Str → Option Value) (n : Str) : Prop where
  g : mg n = some (.ref (cOf K n))
  ain : AinC K (cOf K n)
structure ExcF (K : KF) (mg : Str → Option Value) (n : Str) (st : Stmt) : Prop where
  g : mg n = some (.ref (cOf K n))
  oex : OexC K (cOf K n)
  xck : XcK K (cOf K n)
  ini : ∃ fI fd, Fun K "__init__" (n ++ ".__init__") st fI fd ∧ PySem.W.findIn K (.ref (cOf K n)) "__init__" = some (some (.ref fI)) ∧ PySem.W.typeIn K (.ref fI) = some (.type "function")
/-- what a def that raises knows -/
structure Xcal (P : Program) (w : World) (K : KF) (mg : Str → Option Value) (base : Heap) (k : Nat) (n : Str) (sp : Addr → Sp) : Prop where
  g : mg n = some (.ref (cOf K n))
  oex : OexC K (cOf K n)
  ini : ∃ fI fd ps, FnOk P w K mg base (L2.CX P w) k fI fd ps (sp (cOf K n)) ∧ Binds K fd ps [] ∧ PySem.W.findIn K (.ref (cOf K n)) "__init__" = some (some (.ref fI)) ∧ PySem.W.typeIn K (.ref fI) = some (.type "function")
theorem Xcal.mono {P : Program} {w : World} {K : KF} {mg : Str → Option Value} {base : Heap} {k j : Nat} {n : Str} {sp : Addr → Sp} (c : Xcal P w K mg base j n sp) (h : j ≤ k) : Xcal P w K mg base k n sp :=
  ⟨c.g, c.oex, let ⟨a, b, d, F, r⟩ := c.ini; ⟨a, b, d, F.mono h, r⟩⟩
theorem qs_raiseC1 {n f : Str} {fa : Sm (List T)} {p pos2 : Pos} (c : Xcal X.prog X.w X.K X.mg X.base k n (fun C => sInit1 C f)) (hc : X.calm = true) (hr : Room (k + 1) X.A) (tk : Takes X W) (hg : Gl X n) (ha : QA X W [e] fa) (hdb : (n == ("__debug__" : Str)) = false := by decide)
    (he : starEach [e] X.env = (false, eval e X.env) :: starEach [] X.env := by rfl) (hpl : (backTo pos (starEach [] X.env)).any (·.1) = false := by rfl) : QS X W (.Raise (some (.Call (.Name n p) [e] [] pos)) none pos2) (mRaise1 n f fa) := by
  obtain ⟨fI, fd, ps, F, b, iC, tI⟩ := c.ini
  exact qs_raise1 hc c.oex iC tI F hr b tk rfl hg c.g ha hdb he hpl
theorem qs_raiseC0 {n : Str} {p pos2 : Pos} (c : Xcal X.prog X.w X.K X.mg X.base k n sInit0) (hc : X.calm = true) (hr : Room (k + 1) X.A) (tk : Takes X W) (hg : Gl X n) (hdb : (n == ("__debug__" : Str)) = false := by decide) : QS X W (.Raise (some (.Call (.Name n p) [] [] pos)) none pos2) (mRaise0 n) := by
  obtain ⟨fI, fd, ps, F, b, iC, tI⟩ := c.ini
  exact qs_raise0 hc c.oex iC tI F hr b tk rfl hg c.g hdb
end DL

end
section
namespace DL
open PySem PySem.Spec L2
variable {X : Cx} {W : WX} {K : KF} {H H' G G' : Hp} {ow : Addr → Option Who} {ι : List Addr} {σ : St} {δ : DL.Env} {τ : List (V × T)} {fs : List Fram} {M : Mem} {v u : V} {t : T} {e e' e1 e2 e3 : Expr} {pos p1 p2 p3 : Pos} {i : Nat}

/-! ### trees of lists -/
def notList : D → Bool
  | .list _ => false
  | _ => true
theorem owT_flat {d : D} (h : notList d = true) (a : At K G v d) : OwT K H G v d [] := by
  cases d with
  | list _ => cases h
  | _ => exact ⟨a, rfl⟩
theorem owL_flat : ∀ {ds : List D} {vs : List V}, ds.all notList = true → AtL K G vs ds → OwL K H G vs ds []
  | [], _, _, h => ⟨h, rfl⟩
  | d :: ds, _, n, ⟨v, r, e, h1, h2⟩ => by
    simp only [List.all_cons, Bool.and_eq_true] at n
    exact ⟨v, r, [], [], e, rfl, owT_flat n.1 h1, owL_flat n.2 h2⟩
theorem OwL.length : ∀ {ds : List D} {vs : List V} {As : List Addr}, OwL K H G vs ds As → vs.length = ds.length
  | [], _, _, h => by rw [h.1]; rfl
  | d :: ds, _, _, ⟨v, r, A1, A2, e, _, _, h⟩ => by rw [e]; simp [OwL.length h]
theorem OwL.snoc : ∀ {ds : List D} {vs : List V} {As Bs : List Addr} {v : V} {d : D}, OwL K H G vs ds As → OwT K H G v d Bs → OwL K H G (vs ++ [v]) (ds ++ [d]) (As ++ Bs)
  | [], _, _, Bs, v, d, ⟨h1, h2⟩, h => by subst h1 h2; exact ⟨v, [], Bs, [], rfl, by simp, h, rfl, rfl⟩
  | x :: ds, _, _, Bs, v, d, ⟨w, r, A1, A2, e, e2, h1, h2⟩, h => by subst e e2; exact ⟨w, r ++ [v], A1, A2 ++ Bs, rfl, by simp, h1, h2.snoc h⟩
/-- a flat list becomes a tree -/
theorem Rep.toDeep {xs : List D} (h : Rep K H (⟨σ, δ, (v, .con (.lst xs)) :: τ⟩ :: fs) M) (n : xs.all notList = true) : Rep K H (⟨σ, δ, (v, .deep xs) :: τ⟩ :: fs) M := by
  obtain ⟨G, ow, ι, x⟩ := h
  obtain ⟨a, e, oa, vs, ha, al⟩ := x.top
  exact ⟨G, ow, ι, x.pop.push ⟨a, vs, [], e, ha, owL_flat n al, by simp, fun b hb => by rw [List.mem_singleton.mp hb]; exact oa⟩⟩
/-- what may be an item of a tree -/
def mDeep (t : T) : Option (List D × D) := match t with
  | .con (.lst xs) => if xs.all notList = true then some (xs, .list xs) else none
  | .deep xs => some (xs, .list xs)
  | _ => none
/-- the tree below the walked thing grows by the tree on top -/
theorem Rep.snocD {a : Addr} {acc ys : List D} {w : V} {vs : List V} {tm : V × T} (h : Rep K H (⟨σ, δ, (w, .deep ys) :: tm :: (.ref a, .deep acc) :: τ⟩ :: fs) M) (ha : H a = some (.lst vs)) : Rep K (upd H a (.lst (vs ++ [w]))) (⟨σ, δ, tm :: (.ref a, .deep (acc ++ [.list ys])) :: τ⟩ :: fs) M := by
  obtain ⟨G, ow, ι, x⟩ := h
  obtain ⟨b1, us, B1, e1, h1, o1, n1, w1⟩ := x.top
  obtain ⟨b2, vs', B2, e2, h2, o2, n2, w2⟩ := x.pop.pop.top
  cases e2
  rw [ha] at h2; cases h2
  have rt := x.pop.top
  have dis : ∀ b, b ∈ b1 :: B1 → b ∈ a :: B2 → False := fun b q1 q2 => by
    have z1 := w1 b q1
    rw [w2 b q2] at z1
    have := Option.some.inj z1
    injection this with _ e2
    simp only [List.length_cons] at e2
    omega
  have na : a ∉ B2 := (List.nodup_cons.mp n2).1
  have ga := (x.own a _ (w2 a List.mem_cons_self)).1
  have o1' : ∀ b, b ∈ b1 :: B1 → b ≠ a := fun b q z => dis b q (z ▸ List.mem_cons_self)
  have k1 : ∀ b u, ow b = some u → ¬ (u = .tmp fs.length τ.length ∨ u = .tmp fs.length (tm :: (V.ref a, T.deep acc) :: τ).length) → (if b ∈ b1 :: B1 then some (.tmp fs.length τ.length) else ow b) = some u ∧ upd H a (.lst (vs ++ [w])) b = H b := fun b w' e nw => by
    refine ⟨?_, upd_ne fun z => ?_⟩
    · rw [if_neg]
      · exact e
      · intro z; rw [w1 b z] at e; cases e; exact nw (.inr rfl)
    · subst z; rw [w2 b List.mem_cons_self] at e; cases e; exact nw (.inl rfl)
  have ows : ∀ b u, (if b ∈ b1 :: B1 then some (Who.tmp fs.length τ.length) else ow b) = some u → ∃ u', ow b = some u' := fun b u e => by
    split at e
    · rename_i z; exact ⟨_, w1 b z⟩
    · exact ⟨_, e⟩
  refine ⟨G, fun b => if b ∈ b1 :: B1 then some (.tmp fs.length τ.length) else ow b, ι, RepG.push (RepG.push (x.pop.pop.pop.chg (fun w => w = .tmp fs.length τ.length ∨ w = .tmp fs.length (tm :: (V.ref a, T.deep acc) :: τ).length) (fun w e => ?_) (fun b w e nb => k1 b w e nb) (Same.refl _) (fun b u e => ?_) (fun b u e => ?_)) ?_) ?_⟩
  · rcases e with e | e
    · exact ⟨_, e, Nat.le_refl _⟩
    · exact ⟨_, e, by simp; omega⟩
  · by_cases hba : b = a
    · subst hba; rw [ga] at e; cases e
    · rw [upd_ne hba]; exact x.sub _ _ e
  · obtain ⟨u', e'⟩ := ows b u e
    refine ⟨(x.own b u' e').1, ?_⟩
    by_cases hba : b = a
    · subst hba; exact ⟨_, upd_same⟩
    · rw [upd_ne hba]; exact (x.own b u' e').2
  · refine ⟨a, vs ++ [w], B2 ++ b1 :: B1, rfl, upd_same, OwL.snoc (OwL.keep (Same.refl _) _ _ _ (fun b hb => upd_ne fun z => na (z ▸ hb)) o2) ⟨b1, us, B1, e1, (upd_ne (o1' b1 List.mem_cons_self)).trans h1, rfl, OwL.keep (Same.refl _) _ _ _ (fun b hb => upd_ne (o1' b (List.mem_cons_of_mem _ hb))) o1⟩, ?_, fun b hb => ?_⟩
    · rw [← List.cons_append, List.nodup_append]
      exact ⟨n2, n1, fun b q1 c q2 z => dis b (z ▸ q2) q1⟩
    · by_cases hb1 : b ∈ b1 :: B1
      · exact if_pos hb1
      · show (if b ∈ b1 :: B1 then _ else ow b) = _
        rw [if_neg hb1]
        refine w2 b ?_
        rcases List.mem_cons.mp hb with z | z
        · rw [z]; exact List.mem_cons_self
        · rcases List.mem_append.mp z with z | z
          · exact List.mem_cons_of_mem _ z
          · exact (hb1 z).elim
  · refine rt.keep (Same.refl _) (fun b q => ?_) (fun _ _ q => q) (fun _ _ q => q)
    refine k1 b _ q fun z => ?_
    rcases z with z | z
    · injection z with _ z2; simp only [List.length_cons] at z2; omega
    · injection z with _ z2; simp only [List.length_cons] at z2; omega

/-! ### [[..] for ..]: a tree -/
def lcFD (vs : List Nat) (tg : T → Sm Unit) (te : Sm T) : List D → List D → Sm (List D)
  | [], acc => ret acc
  | d :: ds, acc => fun δ M =>
    match tg (.d d) δ M with
    | .ok _ δ1 M1 => (bnd te fun t => (match mDeep t with
        | some (_, y) => fun δ2 M2 => lcFD vs tg te ds (acc ++ [y]) (wipeE δ2 vs) M2
        | Option.none => fail)) δ1 M1
    | _ => .bad
def lcEndD (δ : DL.Env) (vs : List Nat) (r : Res (List D)) : Res T :=
  match r with
  | .ok acc δ' M' => if δ'.length = δ.length then .ok (.deep acc) (mergeE δ δ' vs) M' else .bad
  | _ => .bad
def mLcD (vs : List Nat) (g : Sm (List D)) (tg : T → Sm Unit) (te : Sm T) : Sm T := bnd g fun ds => fun δ M =>
  if ds.length ≤ 16000000 then
    lcEndD δ vs (lcFD vs tg te ds [] (wipeE δ vs) M)
  else .bad
theorem lcEndD_post {δ : DL.Env} {vs : List Nat} {r : Res (List D)} {k2 : T → DL.Env → Mem → Prop} {x : XD → DL.Env → Mem → Prop} (q : (lcEndD δ vs r).post k2 x) : r.post (fun acc δ' M' => δ'.length = δ.length ∧ k2 (.deep acc) (mergeE δ δ' vs) M') fun _ _ _ => False := by
  cases r with
  | ok a δ' M => 
    unfold lcEndD at q
    simp only at q
    split at q
    · rename_i h; exact ⟨h, q⟩
    · exact q.elim
  | ex a b c => exact q
  | bad => exact q
theorem lcD_rd {vs : List Nat} {g : Sm (List D)} {tg : T → Sm Unit} {te : Sm T} {Q : VK} (q : tE K W (mLcD vs g tg te) σ H Q) : tLc (tI K W g) (tGw K vs tg) (tT K WF (ret true)) (tE K WF te) vs σ H Q := by
  obtain ⟨δ, τ, fs, M, r, q⟩ := q
  refine ⟨δ, τ, fs, M, r, Res.post_mono (bnd_post q) (fun ds δ1 M1 q1 J H1 tm ok r1 D hD => ?_) fun _ _ _ z => z⟩
  split at q1
  · rename_i hz
    -- the new list, then the block's frame
    have r2 : Rep K (upd H1 D (.lst [])) (⟨σ, δ1, (.ref D, .deep []) :: tm :: τ⟩ :: fs) M1 := Rep.toDeep (Rep.newLst (let ⟨G, ow, ι, y⟩ := r1; ⟨G, ow, ι, y, AtL.nil⟩) hD) rfl
    have nb0 : NB [tm, (V.ref D, T.deep [])] := NB.cons ok.nb (NB.cons rfl NB.nil)
    have r3 : Rep K (upd H1 D (.lst [])) (⟨wipe σ vs, wipeE δ1 vs, [tm, (.ref D, .deep [])]⟩ :: ⟨σ, onlyE δ1 vs, τ⟩ :: fs) M1 := Rep.blockIn (τ1 := [tm, (.ref D, .deep [])]) vs r2.swap nb0
    have hlen : σ.length = δ1.length := r1.len
    have q2 := lcEndD_post q1
    refine ⟨fun i m H => m = ds.length - i ∧ i ≤ ds.length ∧ ∃ acc δ' M', acc.length ≤ i ∧ Rep K H (⟨wipe σ vs, δ', [tm, (.ref D, .deep acc)]⟩ :: ⟨σ, onlyE δ1 vs, τ⟩ :: fs) M' ∧
      (lcFD vs tg te (ds.drop i) acc δ' M').post (fun acc δ' M' => δ'.length = δ1.length ∧ ∀ v H', Rep K H' (⟨σ, mergeE δ1 δ' vs, (v, .deep acc) :: τ⟩ :: fs) M' → Q v H') fun _ _ _ => False,
      ⟨_, rfl, Nat.zero_le _, [], _, _, Nat.le_refl _, r3, q2⟩, ?_⟩
    rintro i m H2 ⟨rfl, hi, acc, δ2, M2, hacc, r4, q4⟩
    obtain ⟨stop, step⟩ := ok.turn i H2 _ δ2 _ _ M2 r4
    by_cases hlt : i < ds.length
    · have ed : ds[i]? = some ds[i] := List.getElem?_eq_getElem hlt
      obtain ⟨go, yld⟩ := step _ ed
      rw [drop_cons' ed] at q4
      refine .inr ⟨go, fun H' => i + 1 ≤ ds.length ∧ ∃ acc δ' M', acc.length ≤ i + 1 ∧ Rep K H' (⟨wipe σ vs, δ', [tm, (.ref D, .deep acc)]⟩ :: ⟨σ, onlyE δ1 vs, τ⟩ :: fs) M' ∧
        (lcFD vs tg te (ds.drop (i + 1)) acc δ' M').post (fun acc δ' M' => δ'.length = δ1.length ∧ ∀ v H', Rep K H' (⟨σ, mergeE δ1 δ' vs, (v, .deep acc) :: τ⟩ :: fs) M' → Q v H') fun _ _ _ => False,
        fun H' n => ⟨ds.length - (i + 1), by omega, rfl, n.1, n.2⟩, fun x H' y => ?_⟩
      have r5 := yld x H' y
      have nb : NB [tm, (V.ref D, T.deep acc)] := NB.cons ok.nb (NB.cons rfl NB.nil)
      unfold lcFD at q4
      refine ⟨.d ds[i], δ2, [tm, (.ref D, .deep acc)], _, M2, rfl, nb, r5, ?_⟩
      cases et : tg (.d ds[i]) δ2 M2 with
      | ex a b c => simp only [et] at q4; exact q4.elim
      | bad => simp only [et] at q4; exact q4.elim
      | ok _ δ3 M3 =>
        simp only [et] at q4
        refine fun σ3 H3 ew r6 => ⟨?_, δ3, [tm, (.ref D, .deep acc)], _, M3, r6, fun H4 r7 => ?_⟩
        · rw [ew]
          apply List.ext_getElem?
          intro j
          simp only [wipe_at]
          split
          · cases σ[j]? <;> rfl
          · rfl
        have ew2 : wipe σ3 vs = wipe σ vs := by
          rw [ew]
          apply List.ext_getElem?
          intro j
          simp only [wipe_at]
          split
          · cases σ[j]? <;> rfl
          · rfl
        simp only [if_true]
        refine ⟨δ3, [tm, (.ref D, .deep acc)], _, M3, r7, Res.post_mono (bnd_post q4) (fun tv δ5 M5 q7 w H5 r8 => ?_) fun _ _ _ z => z.elim⟩
        have key : ∀ ys, Rep K H5 (⟨σ3, δ5, (w, .deep ys) :: tm :: (.ref D, .deep acc) :: []⟩ :: ⟨σ, onlyE δ1 vs, τ⟩ :: fs) M5 → ∃ us, H5 D = some (.lst us) ∧ us.length < sizeLine ∧ i + 1 ≤ ds.length ∧ Rep K (upd H5 D (.lst (us ++ [w]))) (⟨wipe σ vs, wipeE δ5 vs, [tm, (.ref D, .deep (acc ++ [.list ys]))]⟩ :: ⟨σ, onlyE δ1 vs, τ⟩ :: fs) M5 := fun ys r9 => by
          have hDl : ∃ us, H5 D = some (.lst us) ∧ us.length = acc.length := by
            obtain ⟨G, ow, ι, z⟩ := r9
            obtain ⟨b, us, Bs, eb, hb, al, _⟩ := z.pop.pop.top
            cases eb
            exact ⟨us, hb, al.length⟩
          obtain ⟨us, hus, hul⟩ := hDl
          refine ⟨us, hus, line16 (by omega), hlt, ?_⟩
          have r10 := (r9.snocD hus).scrub (vs := vs) (NB.cons ok.nb (NB.cons rfl NB.nil))
          rw [ew2] at r10
          exact r10
        cases tv with
        | con c =>
          cases c with
          | lst ys =>
            unfold mDeep at q7
            simp only at q7
            by_cases hn : ys.all notList = true
            · rw [if_pos hn] at q7
              obtain ⟨us, h1, h2, h3, h4⟩ := key ys (r8.toDeep hn)
              exact ⟨us, h1, h2, h3, acc ++ [.list ys], _, M5, by simp; omega, h4, q7⟩
            · rw [if_neg hn] at q7; exact q7.elim
          | dct _ => exact q7.elim
          | obj _ _ => exact q7.elim
          | dcn _ => exact q7.elim
          | tab _ => exact q7.elim
        | deep ys =>
          unfold mDeep at q7
          simp only at q7
          obtain ⟨us, h1, h2, h3, h4⟩ := key ys r8
          exact ⟨us, h1, h2, h3, acc ++ [.list ys], _, M5, by simp; omega, h4, q7⟩
        | d _ => exact q7.elim
        | v _ => exact q7.elim
        | ref _ => exact q7.elim
        | bor _ => exact q7.elim
        | scr _ => exact q7.elim
        | exn _ => exact q7.elim
        | st _ => exact q7.elim
        | ext _ => exact q7.elim
        | fz _ => exact q7.elim
    · refine .inl ⟨stop (by omega), ?_⟩
      rw [List.drop_eq_nil_of_le (by omega)] at q4
      unfold lcFD at q4
      exact q4.2 _ H2 (Rep.blockOut (σ1 := wipe σ vs) (Rep.swap r4).nip rfl (fun j hj => by rw [wipe_at, if_neg hj]) q4.1.symm hlen)
  · exact q1.elim
theorem qe_lcD {elt tg iter : Expr} {scope : Scope} {own : List (Str × Nat)} {g : Sm (List D)} {f : T → Sm Unit} {te : Sm T} (hc : X.calm = true) (hN : X.N.Nodup) (hi : QI X W tg iter g) (ok : BlkOk X.N X.env.scope scope own)
    (hg : ∀ (s : Shared) (H : Hp) (C : Addr) (cl : List (Str × Addr)) (fp : List Addr), QGw (X.blk s H scope (compEnvC scope cl C X.env) fp) (own.map (·.2)) tg f)
    (he : ∀ (s : Shared) (H : Hp) (C : Addr) (cl : List (Str × Addr)) (fp : List Addr), QE (X.blk s H scope (compEnvC scope cl C X.env) fp) WF elt te) (hs : ∀ x, foldedSetIterable iter X.env x = pure x := by intro _; rfl) :
    QE X W (.ListComp elt [⟨tg, iter, [], 0⟩] scope pos) (mLcD (own.map (·.2)) g f te) :=
  (pe_lc hc hN hi ok hg (fun _ _ _ _ _ => qts_nil) he hs).imp fun _ _ _ q => lcD_rd q
theorem qs_setLcD {i : Nat} {y : Str} {py : Pos} {elt tg iter : Expr} {scope : Scope} {own : List (Str × Nat)} {spos : Pos} {g : Sm (List D)} {f : T → Sm Unit} {te : Sm T} (hc : X.calm = true) (hN : X.N.Nodup) (hy : X.N[i]? = some y) (hyl : X.env.scope.names.lookup y = some .local)
    (hsw : swapsWith (.ListComp elt [⟨tg, iter, [], 0⟩] scope pos) (some (.Name y py)) spos.line X.env = pure true) (hi : QI X W tg iter g) (ok : BlkOk X.N X.env.scope scope own)
    (hg : ∀ (s : Shared) (H : Hp) (C : Addr) (cl : List (Str × Addr)) (fp : List Addr), QGw (X.blk s H scope (compEnvC scope cl C X.env) fp) (own.map (·.2)) tg f)
    (he : ∀ (s : Shared) (H : Hp) (C : Addr) (cl : List (Str × Addr)) (fp : List Addr), QE (X.blk s H scope (compEnvC scope cl C X.env) fp) WF elt te) (hs : ∀ x, foldedSetIterable iter X.env x = pure x := by intro _; rfl) :
    QS X W (.Assign [.Name y py] (.ListComp elt [⟨tg, iter, [], 0⟩] scope pos) spos) (mSet i (mLcD (own.map (·.2)) g f te)) := by
  refine (ps_setLc (g := tGw X.K (own.map (·.2)) f) (tt := tT X.K WF (ret true)) (te := tE X.K WF te) hc hN hy hyl hsw hi ok hg (fun _ _ _ _ _ => qts_nil) he hs).imp fun D σ H ⟨δ, τ, fs, M, nb, r, q⟩ => ?_
  refine lcD_rd (W := W) ⟨δ, τ, fs, M, r, Res.post_mono (bnd_post q) (fun t δ1 M1 q1 v H1 r1 => ?_) fun _ _ _ z => xw z⟩
  obtain ⟨r', δ2, M2, e2, q2⟩ := mOwn_post (bnd_post q1)
  obtain ⟨r2, nb2⟩ := r1.own e2
  split at q2
  · rename_i hl
    exact q2 _ H1 (r2.put nb2 nb (by rw [r2.len]; exact hl))
  · exact q2.elim

/-! ### x[a][b] = e, x[a][b][c] = e -/
def dset : List Nat → List D → D → Option (List D)
  | [], _, _ => none
  | [n], ds, y => match ds[n]? with
    | some o => if notList o = true then some (ds.set n y) else none
    | none => none
  | n :: m :: p, ds, y => match ds[n]? with
    | some (.list es) => (dset (m :: p) es y).map fun es' => ds.set n (.list es')
    | _ => none
def Pth (H : Hp) : List Nat → Addr → Addr → List V → Nat → Prop
  | [], _, _, _, _ => False
  | [n], a, b, us, j => a = b ∧ j = n ∧ H a = some (.lst us) ∧ n < us.length
  | n :: m :: p, a, b, us, j => ∃ vs a', H a = some (.lst vs) ∧ vs[n]? = some (.ref a') ∧ Pth H (m :: p) a' b us j
theorem OwL.at' : ∀ {ds : List D} {vs : List V} {As : List Addr} {n : Nat} {d : D}, OwL K H G vs ds As → ds[n]? = some d → ∃ v A1 A2 A3, vs[n]? = some v ∧ As = A1 ++ (A2 ++ A3) ∧ OwT K H G v d A2 ∧
    ∀ H' v' d', (∀ b ∈ A1 ++ A3, H' b = H b) → OwT K H' G v' d' A2 → OwL K H' G (vs.set n v') (ds.set n d') As
  | [], _, _, _, _, _, h => by simp at h
  | x :: ds, _, _, 0, d, ⟨v, r, A1, A2, e, e2, h1, h2⟩, h => by
    subst e e2
    simp at h
    subst h
    exact ⟨v, [], A1, A2, rfl, rfl, h1, fun H' v' d' k h' => ⟨v', r, A1, A2, rfl, rfl, h', OwL.keep (Same.refl _) _ _ _ (fun b hb => k b (by simpa using hb)) h2⟩⟩
  | x :: ds, _, _, n + 1, d, ⟨v, r, A1, A2, e, e2, h1, h2⟩, h => by
    subst e e2
    obtain ⟨w, B1, B2, B3, q1, q2, q3, q4⟩ := OwL.at' (n := n) (d := d) h2 (by simpa using h)
    subst q2
    refine ⟨w, A1 ++ B1, B2, B3, by simpa using q1, by simp, q3, fun H' v' d' k h' => ⟨v, r.set n v', A1, B1 ++ (B2 ++ B3), rfl, rfl, OwT.keep (Same.refl _) _ _ _ (fun b hb => k b (by simp [hb])) h1, q4 H' v' d' (fun b hb => k b ?_) h'⟩⟩
    rcases List.mem_append.mp hb with z | z <;> simp [z]
theorem owT_nil {d : D} {As : List Addr} (h : notList d = true) (a : OwT K H G v d As) : As = [] := by
  cases d with
  | list _ => cases h
  | _ => exact a.2
/-- the store at a path: all else in the tree stays -/
theorem dset_ok {y : D} {u : V} (ay : At K G u y) (ny : notList y = true) : ∀ (p : List Nat) (ds ds' : List D) (vs : List V) (a : Addr) (Bs : List Addr), H a = some (.lst vs) → OwL K H G vs ds Bs → (a :: Bs).Nodup → dset p ds y = some ds' →
    ∃ b us j, Pth H p a b us j ∧ H b = some (.lst us) ∧ j < us.length ∧ b ∈ a :: Bs ∧ ∃ vs', upd H b (.lst (us.set j u)) a = some (.lst vs') ∧ OwL K (upd H b (.lst (us.set j u))) G vs' ds' Bs
  | [], _, _, _, _, _, _, _, _, h => by cases h
  | [n], ds, ds', vs, a, Bs, ha, ol, nd, h => by
    unfold dset at h
    split at h
    · rename_i o ho
      split at h
      · rename_i hn
        cases h
        have hl := ol.length
        obtain ⟨v, A1, A2, A3, q1, q2, q3, q4⟩ := OwL.at' ol ho
        have na : a ∉ Bs := (List.nodup_cons.mp nd).1
        have e2 := owT_nil hn q3
        subst e2 q2
        have hv := (List.getElem?_eq_some_iff.mp q1).1
        exact ⟨a, vs, n, ⟨rfl, rfl, ha, hv⟩, ha, hv, List.mem_cons_self, vs.set n u, upd_same, q4 _ u y (fun b hb => upd_ne fun z => na (by subst z; simpa using hb)) (owT_flat ny ay)⟩
      · cases h
    · cases h
  | n :: m :: p, ds, ds', vs, a, Bs, ha, ol, nd, h => by
    unfold dset at h
    split at h
    · rename_i es he
      cases e : dset (m :: p) es y with
      | none => rw [e] at h; cases h
      | some es' =>
        rw [e] at h
        cases h
        obtain ⟨v, A1, A2, A3, q1, q2, ⟨a', vs1, B1, e1, h1, e2, o1⟩, q4⟩ := OwL.at' (n := n) ol he
        subst e1 e2 q2
        have nd2 := (List.nodup_cons.mp nd).2
        have na : a ∉ A1 ++ (a' :: B1 ++ A3) := (List.nodup_cons.mp nd).1
        have nd4 := List.nodup_append.mp nd2
        have nd5 := List.nodup_append.mp nd4.2.1
        obtain ⟨b, us, j, c1, c2, c3, c4, vs', c5, c6⟩ := dset_ok ay ny (m :: p) es es' vs1 a' B1 h1 o1 nd5.1 e
        have hb : b ≠ a := fun z => na (by
          subst z
          exact List.mem_append_right _ (List.mem_append_left _ c4))
        have dis : ∀ c ∈ A1 ++ A3, c ≠ b := fun c hc z => by
          subst z
          rcases List.mem_append.mp hc with z | z
          · exact nd4.2.2 c z c (List.mem_append_left _ c4) rfl
          · exact nd5.2.2 c c4 c z rfl
        have hset : vs.set n (V.ref a') = vs := by
          apply List.ext_getElem?
          intro k
          by_cases hk : n = k
          · subst hk; rw [List.getElem?_set_self (List.getElem?_eq_some_iff.mp q1).1, q1]
          · rw [List.getElem?_set_ne hk]
        have q5 := q4 (upd H b (.lst (us.set j u))) (.ref a') (.list es') (fun c hc => upd_ne (dis c hc)) ⟨a', vs', B1, rfl, c5, rfl, c6⟩
        rw [hset] at q5
        exact ⟨b, us, j, ⟨vs, a', ha, q1, c1⟩, c2, c3, List.mem_cons_of_mem _ (List.mem_append_right _ (List.mem_append_left _ c4)), vs, (upd_ne (Ne.symm hb)).trans ha, q5⟩
    · cases h
/-- an index that is read without a change -/
def tPn (K : KF) (f : DL.Env → Option Int) : TE := fun σ H Q => ∃ δ τ fs M, Rep K H (⟨σ, δ, τ⟩ :: fs) M ∧ ∃ n, f δ = some n ∧ Q (.int n) H
abbrev QP (X : Cx) (e : Expr) (f : DL.Env → Option Int) : Prop := PE X e (tPn X.K f)
def pName (i : Nat) : DL.Env → Option Int := fun δ => match δ[i]? with
  | some (some (.d (.int n))) => some n
  | _ => none
def pIx (i j : Nat) : DL.Env → Option Int := fun δ => match pName j δ with
  | some n => (match δ[i]? with
    | some (some (.d (.list ds))) => (match atI ds n with | some (.int m) => some m | _ => none)
    | some (some (.d (.tuple ds))) => (match atI ds n with | some (.int m) => some m | _ => none)
    | some (some (.con (.lst ds))) => (match atI ds n with | some (.int m) => some m | _ => none)
    | _ => none)
  | none => none
theorem pName_rd {n : Int} (r : Rep K H (⟨σ, δ, τ⟩ :: fs) M) (h : pName i δ = some n) : σ[i]? = some (some (.int n)) := by
  unfold pName at h
  split at h
  · rename_i m e
    cases h
    obtain ⟨G, ow, ι, x⟩ := r
    obtain ⟨_, v, es, rt⟩ := x.slots_of e
    rw [es, show v = V.int _ from rt]
  · cases h
theorem qp_name {x : Str} (h : PE X (.Name x pos) (tVar i)) : QP X (.Name x pos) (pName i) :=
  h.imp fun σ H Q ⟨δ, τ, fs, M, r, n, e, q⟩ => ⟨_, pName_rd r e, q⟩
theorem qp_ix {x y : Str} {i j : Nat} (h : PE X (.Name x p1) (tVar i)) (h' : PE X (.Name y p2) (tVar j)) (hs : PlainIx (.Name y p2) := by exact fun _ _ => rfl) : QP X (.Subscript (.Name x p1) (.Name y p2) pos) (pIx i j) := by
  refine (pe_ix ix_seq h h' hs).imp fun σ H Q ⟨δ, τ, fs, M, r, m, e, q⟩ => ?_
  unfold pIx at e
  split at e
  · rename_i n en
    have hj := pName_rd r en
    obtain ⟨G, ow, ι, z⟩ := r
    split at e
    · rename_i ds ed
      obtain ⟨_, v, es, a, us, ev, sq, al⟩ := z.slots_of ed
      split at e
      · rename_i k ek
        cases e
        obtain ⟨w, q1, q2⟩ := atI_at al ek
        exact ⟨v, es, _, hj, .inl ⟨a, us, n, w, ev, rfl, SqL.of (z.sub _ _ sq), q1, (show w = V.int _ from q2) ▸ q⟩⟩
      · cases e
    · rename_i ds ed
      obtain ⟨_, v, es, a, us, ev, sq, al⟩ := z.slots_of ed
      split at e
      · rename_i k ek
        cases e
        obtain ⟨w, q1, q2⟩ := atI_at al ek
        exact ⟨v, es, _, hj, .inr (.inl ⟨a, us, n, w, ev, rfl, SqT.grow z.sub sq, q1, (show w = V.int _ from q2) ▸ q⟩)⟩
      · cases e
    · rename_i ds ed
      obtain ⟨_, v, es, a, ev, oa, us, sq, al⟩ := z.slots_of ed
      split at e
      · rename_i k ek
        cases e
        obtain ⟨w, q1, q2⟩ := atI_at al ek
        exact ⟨v, es, _, hj, .inl ⟨a, us, n, w, ev, rfl, SqL.of sq, q1, (show w = V.int _ from q2) ▸ q⟩⟩
      · cases e
    · cases e
  · cases e
/-- the tree of slot i is changed at one place -/
theorem Rep.dput {y : D} {p : List Nat} {ds ds' : List D} (r : Rep K H (⟨σ, δ, (u, .d y) :: τ⟩ :: fs) M) (hi : δ[i]? = some (some (.deep ds))) (ny : notList y = true) (hd : dset p ds y = some ds') :
    ∃ a b us j, σ[i]? = some (some (.ref a)) ∧ Pth H p a b us j ∧ H b = some (.lst us) ∧ j < us.length ∧ Rep K (upd H b (.lst (us.set j u))) (⟨σ, δ.set i (some (.deep ds')), τ⟩ :: fs) M := by
  obtain ⟨G, ow, ι, x⟩ := r
  have ay : At K G u y := x.top
  obtain ⟨_, v, es, a, vs, Bs, ev, ha, ol, nd, hw⟩ := x.pop.slots_of hi
  subst ev
  obtain ⟨b, us, j, c1, c2, c3, c4, vs', c5, c6⟩ := dset_ok ay ny p ds ds' vs a Bs ha ol nd hd
  refine ⟨a, b, us, j, es, c1, c2, c3, ?_⟩
  have ob := hw b c4
  have s1 : Same G (upd H b (.lst (us.set j u))) := fun c u e => by
    have : c ≠ b := fun z => by rw [z, (x.own b _ ob).1] at e; cases e
    rw [upd_ne this]; exact x.sub _ _ e
  have s2 : ∀ c u', ow c = some u' → G c = none ∧ ∃ o, upd H b (.lst (us.set j u)) c = some o := fun c u' e => ⟨(x.own c u' e).1, by
    by_cases hb : c = b
    · rw [hb]; exact ⟨_, upd_same⟩
    · rw [upd_ne hb]; exact (x.own c u' e).2⟩
  have s3 : ∀ c u', ow c = some u' → u' ≠ .slot fs.length i → upd H b (.lst (us.set j u)) c = H c := fun c u' e nu => upd_ne fun z => by
    rw [z, ob] at e; cases e; exact nu rfl
  have y' := x.pop
  refine ⟨G, ow, ι, s1, s2, y'.lenM, fun n c2 ec => ?_, ⟨by show σ.length = _; simp; exact y'.frs.1.len, fun k t ej => ?_, ?_⟩, ?_⟩
  · obtain ⟨b', q1, q2, q3⟩ := y'.cells n c2 ec
    exact ⟨b', q1, q2, q3.keep (Same.refl _) (s3 b' _ q2 (fun z => nomatch z))⟩
  · have ej' : (δ.set i (some (.deep ds')))[k]? = some (some t) := ej
    by_cases hj : k = i
    · subst hj
      rw [List.getElem?_set_self (List.getElem?_eq_some_iff.mp hi).1] at ej'
      cases ej'
      exact ⟨rfl, .ref a, es, a, vs', Bs, rfl, c5, c6, nd, hw⟩
    · rw [List.getElem?_set_ne (Ne.symm hj)] at ej'
      obtain ⟨nu, v2, e2, r2⟩ := y'.slots_of ej'
      exact ⟨nu, v2, e2, r2.keep (Same.refl _) (fun b q => ⟨q, s3 b _ q (fun z => by cases z; exact hj rfl)⟩) (fun _ _ q => q) (fun _ _ q => q)⟩
  · exact y'.frs.1.tmps.keep (Same.refl _) (fun j _ b q => ⟨q, s3 b _ q (fun z => nomatch z)⟩) (fun _ _ q => q) (fun _ _ _ _ q => q)
  · exact y'.frs.2.keep (Same.refl _) (fun w hl b q => ⟨q, s3 b _ q (fun z => by subst z; exact absurd (show fs.length < fs.length from hl) (by omega))⟩) (fun _ _ q => q)
def mStD (i : Nat) (fs : List (DL.Env → Option Int)) : T → Sm Unit := fun t δ M =>
  match t, δ[i]?, fs.mapM (fun f => f δ) with
  | .d y, some (some (.deep ds)), some ns => if notList y = true ∧ (ns.all fun n => decide (0 ≤ n)) = true then
      (match dset (ns.map Int.toNat) ds y with
      | some ds' => .ok () (δ.set i (some (.deep ds'))) M
      | none => .bad) else .bad
  | _, _, _ => .bad
theorem mStD_rd {t : T} {fs' : List (DL.Env → Option Int)} {k : Unit → DL.Env → Mem → Prop} {z : XD → DL.Env → Mem → Prop} (h : (mStD i fs' t δ M).post k z) : ∃ y ds ns ds', t = .d y ∧ δ[i]? = some (some (.deep ds)) ∧ fs'.mapM (fun f => f δ) = some ns ∧ notList y = true ∧ (∀ n ∈ ns, 0 ≤ n) ∧
    dset (ns.map Int.toNat) ds y = some ds' ∧ k () (δ.set i (some (.deep ds'))) M := by
  unfold mStD at h
  split at h
  · rename_i y ds ns e1 e2
    split at h
    · rename_i hc
      split at h
      · rename_i ds' hd
        exact ⟨y, ds, ns, ds', rfl, e1, e2, hc.1, fun n hn => by have := List.all_eq_true.mp hc.2 n hn; exact of_decide_eq_true this, hd, h⟩
      · exact h.elim
    · exact h.elim
  · exact h.elim
theorem nnN {n : Int} (h : 0 ≤ n) : (n.toNat : Int) = n := by omega
theorem atI_n {α : Type} {xs : List α} {n : Int} {x : α} (h0 : 0 ≤ n) (h : xs[n.toNat]? = some x) : atI xs n = some x := by
  have hl := (List.getElem?_eq_some_iff.mp h).1
  unfold atI ixN
  rw [if_pos h0, if_pos (by omega)]; exact h
theorem qg_store2 {x : Str} {f1 f2 : DL.Env → Option Int} (hx : PE X (.Name x p1) (tVar i)) (h1 : QP X e1 f1) (h2 : QP X e2 f2) (hs1 : PlainIx e1 := by exact fun _ _ => rfl)
    (ha : ∀ v, assign (.Subscript (.Subscript (.Name x p1) e1 p2) e2 pos) X.env v = (do
      let ov ← holding [v] (eval (.Subscript (.Name x p1) e1 p2) X.env)
      let iv ← holding [v, ov] (eval e2 X.env)
      standAt pos
      holding [v, ov, iv] (setItem ov iv v)
      release [v, ov, iv] []) := by intro _; rfl) : QG X (.Subscript (.Subscript (.Name x p1) e1 p2) e2 pos) (mStD i [f1, f2]) := by
  refine ⟨fun pins s σ H v u Q I r h => (pg_sub (pe_ix ix_list hx h1 hs1) h2 set_list ha).run pins s σ H v u Q I r ?_⟩
  obtain ⟨t, δ, τ, fs, M, nt, nb, rp, q⟩ := h
  obtain ⟨y, ds, ns, ds', rfl, hi, hf, ny, nn, hd, q⟩ := mStD_rd q
  obtain ⟨n1, n2, rfl, g1, g2⟩ : ∃ n1 n2, ns = [n1, n2] ∧ f1 δ = some n1 ∧ f2 δ = some n2 := by
    cases e1 : f1 δ with
    | none => simp [e1] at hf
    | some n1 =>
      cases e2 : f2 δ with
      | none => simp [e1, e2] at hf
      | some n2 => simp [e1, e2] at hf; exact ⟨n1, n2, hf.symm, rfl, rfl⟩
  obtain ⟨a, b, us, j, es, ⟨vs, a', hva, hvb, eb, ej, hus, hlt⟩, _, _, r2⟩ := rp.dput hi ny hd
  subst eb ej
  have z1 := nn n1 (by simp)
  have z2 := nn n2 (by simp)
  exact ⟨.ref a, es, δ, _, fs, M, rp, n1, g1, a, vs, n1, .ref a', rfl, rfl, SqL.of hva, atI_n z1 hvb, δ, _, fs, M, rp, n2, g2, a', us, n2, n2.toNat, rfl, rfl, hus, by unfold ixN; rw [if_pos z2, if_pos (by omega)], q σ _ r2⟩
theorem qg_store3 {x : Str} {f1 f2 f3 : DL.Env → Option Int} (hx : PE X (.Name x p1) (tVar i)) (h1 : QP X e1 f1) (h2 : QP X e2 f2) (h3 : QP X e3 f3) (hs1 : PlainIx e1 := by exact fun _ _ => rfl) (hs2 : PlainIx e2 := by exact fun _ _ => rfl)
    (ha : ∀ v, assign (.Subscript (.Subscript (.Subscript (.Name x p1) e1 p2) e2 p3) e3 pos) X.env v = (do
      let ov ← holding [v] (eval (.Subscript (.Subscript (.Name x p1) e1 p2) e2 p3) X.env)
      let iv ← holding [v, ov] (eval e3 X.env)
      standAt pos
      holding [v, ov, iv] (setItem ov iv v)
      release [v, ov, iv] []) := by intro _; rfl) : QG X (.Subscript (.Subscript (.Subscript (.Name x p1) e1 p2) e2 p3) e3 pos) (mStD i [f1, f2, f3]) := by
  refine ⟨fun pins s σ H v u Q I r h => (pg_sub (pe_ix ix_list (pe_ix ix_list hx h1 hs1) h2 hs2) h3 set_list ha).run pins s σ H v u Q I r ?_⟩
  obtain ⟨t, δ, τ, fs, M, nt, nb, rp, q⟩ := h
  obtain ⟨y, ds, ns, ds', rfl, hi, hf, ny, nn, hd, q⟩ := mStD_rd q
  obtain ⟨n1, n2, n3, rfl, g1, g2, g3⟩ : ∃ n1 n2 n3, ns = [n1, n2, n3] ∧ f1 δ = some n1 ∧ f2 δ = some n2 ∧ f3 δ = some n3 := by
    cases e1 : f1 δ with
    | none => simp [e1] at hf
    | some n1 =>
      cases e2 : f2 δ with
      | none => simp [e1, e2] at hf
      | some n2 =>
        cases e3 : f3 δ with
        | none => simp [e1, e2, e3] at hf
        | some n3 => simp [e1, e2, e3] at hf; exact ⟨n1, n2, n3, hf.symm, rfl, rfl, rfl⟩
  obtain ⟨a, b, us, j, es, ⟨vs, a', hva, hvb, vs2, a2, hva2, hvb2, eb, ej, hus, hlt⟩, _, _, r2⟩ := rp.dput hi ny hd
  subst eb ej
  have z1 := nn n1 (by simp)
  have z2 := nn n2 (by simp)
  have z3 := nn n3 (by simp)
  exact ⟨.ref a, es, δ, _, fs, M, rp, n1, g1, a, vs, n1, .ref a', rfl, rfl, SqL.of hva, atI_n z1 hvb, δ, _, fs, M, rp, n2, g2, a', vs2, n2, .ref a2, rfl, rfl, SqL.of hva2, atI_n z2 hvb2,
    δ, _, fs, M, rp, n3, g3, a2, us, n3, n3.toNat, rfl, rfl, hus, by unfold ixN; rw [if_pos z3, if_pos (by omega)], q σ _ r2⟩
@[simp] theorem e_frzDp {ds : List D} : mFrz (.deep ds) δ M = .ok (.d (.list ds)) δ M := rfl
@[simp] theorem e_ownDp {ds : List D} : mOwn (.deep ds) δ M = .ok (.deep ds) δ M := rfl
@[simp] theorem e_borDp {ds : List D} : (T.deep ds).isBor = false := rfl
@[simp] theorem e_deepC {xs : List D} : mDeep (.con (.lst xs)) = if xs.all notList = true then some (xs, .list xs) else none := rfl
@[simp] theorem e_deepD {xs : List D} : mDeep (.deep xs) = some (xs, .list xs) := rfl
end DL

end
section
namespace DL
open PySem PySem.Spec L2
variable {X : Cx} {W : WX} {K : KF} {H G : Hp} {ow : Addr → Option Who} {ι : List Addr} {σ : St} {δ : DL.Env} {τ : List (V × T)} {fs : List Fram} {M : Mem} {v u : V} {t : T} {e e' e2 : Expr} {p pos : Pos} {i : Nat}
/-! ### isinstance of data -/
def tyN : D → String
  | .none => "NoneType"
  | .bool _ => "bool"
  | .int _ => "int"
  | .str _ => "str"
  | .list _ => "list"
  | .tuple _ => "tuple"
  | .dict _ => "dict"
def isB (c : String) (d : D) : Bool := match d with
  | .bool _ => c == "bool" || c == "int"
  | .none => c == "NoneType"
  | .int _ => c == "int"
  | .str _ => c == "str"
  | .list _ => c == "list"
  | .tuple _ => c == "tuple"
  | .dict _ => c == "dict"
theorem at_tyX {x : D} (h : At K H v x) : TyX K H v (.type (tyN x)) := by
  cases x with
  | none => cases (show v = V.non from h); exact .base .non
  | bool b => cases (show v = V.bl b from h); exact .base (.bl b)
  | int i => cases (show v = V.int i from h); exact .base (.int i)
  | str x => cases (show v = V.str x from h); exact .base (.str x)
  | list ds => obtain ⟨a, vs, rfl, q, _⟩ := h; exact .base (.lst q)
  | tuple ds =>
    obtain ⟨a, vs, rfl, q, _⟩ := h
    rcases q with (q | ⟨o, q⟩) | ⟨o, its, n, q, c, _⟩
    · exact .base (.tup q)
    · exact .fTuple q
    · exact .kTuple q c
  | dict kvs => obtain ⟨a, kv, rfl, q, _⟩ := h; exact .base (.dK q)
theorem kb_int (d : D) : kitB (tyN d) "int" = some (isB "int" d) := by
  cases d with
  | none => exact (by decide +kernel : kitB "NoneType" "int" = some false)
  | bool _ => exact (by decide +kernel : kitB "bool" "int" = some true)
  | int _ => exact (by decide +kernel : kitB "int" "int" = some true)
  | str _ => exact (by decide +kernel : kitB "str" "int" = some false)
  | list _ => exact (by decide +kernel : kitB "list" "int" = some false)
  | tuple _ => exact (by decide +kernel : kitB "tuple" "int" = some false)
  | dict _ => exact (by decide +kernel : kitB "dict" "int" = some false)
theorem kb_bool (d : D) : kitB (tyN d) "bool" = some (isB "bool" d) := by
  cases d with
  | none => exact (by decide +kernel : kitB "NoneType" "bool" = some false)
  | bool _ => exact (by decide +kernel : kitB "bool" "bool" = some true)
  | int _ => exact (by decide +kernel : kitB "int" "bool" = some false)
  | str _ => exact (by decide +kernel : kitB "str" "bool" = some false)
  | list _ => exact (by decide +kernel : kitB "list" "bool" = some false)
  | tuple _ => exact (by decide +kernel : kitB "tuple" "bool" = some false)
  | dict _ => exact (by decide +kernel : kitB "dict" "bool" = some false)
theorem kb_tuple (d : D) : kitB (tyN d) "tuple" = some (isB "tuple" d) := by
  cases d with
  | none => exact (by decide +kernel : kitB "NoneType" "tuple" = some false)
  | bool _ => exact (by decide +kernel : kitB "bool" "tuple" = some false)
  | int _ => exact (by decide +kernel : kitB "int" "tuple" = some false)
  | str _ => exact (by decide +kernel : kitB "str" "tuple" = some false)
  | list _ => exact (by decide +kernel : kitB "list" "tuple" = some false)
  | tuple _ => exact (by decide +kernel : kitB "tuple" "tuple" = some true)
  | dict _ => exact (by decide +kernel : kitB "dict" "tuple" = some false)
theorem kb_str (d : D) : kitB (tyN d) "str" = some (isB "str" d) := by
  cases d with
  | none => exact (by decide +kernel : kitB "NoneType" "str" = some false)
  | bool _ => exact (by decide +kernel : kitB "bool" "str" = some false)
  | int _ => exact (by decide +kernel : kitB "int" "str" = some false)
  | str _ => exact (by decide +kernel : kitB "str" "str" = some true)
  | list _ => exact (by decide +kernel : kitB "list" "str" = some false)
  | tuple _ => exact (by decide +kernel : kitB "tuple" "str" = some false)
  | dict _ => exact (by decide +kernel : kitB "dict" "str" = some false)
theorem kb_list (d : D) : kitB (tyN d) "list" = some (isB "list" d) := by
  cases d with
  | none => exact (by decide +kernel : kitB "NoneType" "list" = some false)
  | bool _ => exact (by decide +kernel : kitB "bool" "list" = some false)
  | int _ => exact (by decide +kernel : kitB "int" "list" = some false)
  | str _ => exact (by decide +kernel : kitB "str" "list" = some false)
  | list _ => exact (by decide +kernel : kitB "list" "list" = some true)
  | tuple _ => exact (by decide +kernel : kitB "tuple" "list" = some false)
  | dict _ => exact (by decide +kernel : kitB "dict" "list" = some false)
theorem kb_dict (d : D) : kitB (tyN d) "dict" = some (isB "dict" d) := by
  cases d with
  | none => exact (by decide +kernel : kitB "NoneType" "dict" = some false)
  | bool _ => exact (by decide +kernel : kitB "bool" "dict" = some false)
  | int _ => exact (by decide +kernel : kitB "int" "dict" = some false)
  | str _ => exact (by decide +kernel : kitB "str" "dict" = some false)
  | list _ => exact (by decide +kernel : kitB "list" "dict" = some false)
  | tuple _ => exact (by decide +kernel : kitB "tuple" "dict" = some false)
  | dict _ => exact (by decide +kernel : kitB "dict" "dict" = some true)
def mIsD (c : String) (f : Sm T) : Sm T := bnd f fun t => fun δ M => opt ((vw t δ M).map fun d => T.d (.bool (isB c d))) δ M
theorem qe_isD {c : String} {f : Sm T} (hg : Gl X "isinstance") (hm : X.mg "isinstance" = none) (h : QE X W e f) (hc : PE X e2 (tC (.ty c))) (hk : ∀ d, kitB (tyN d) c = some (isB c d))
    (he : starEach [e, e2] X.env = (false, eval e X.env) :: starEach [e2] X.env := by rfl) (he2 : starEach [e2] X.env = (false, eval e2 X.env) :: starEach [] X.env := by rfl)
    (hpl : (backTo pos (starEach [e2] X.env)).any (·.1) = false := by rfl) : QE X W (.Call (.Name "isinstance" p) [e, e2] [] pos) (mIsD c f) := by
  refine (pe_callB call_isi hg hm boot_fn_isinstance (pa_cons h (pa_cons hc pa_nil he2) he) (by decide) (by decide) he hpl).imp fun σ H Q ⟨δ, τ, fs, M, r, q⟩ => ?_
  refine ⟨δ, τ, fs, M, r, Res.post_mono (bnd_post q) (fun t δ1 M1 q1 v H1 r1 => ?_) fun _ _ _ z => z⟩
  obtain ⟨b, eb, q2⟩ := opt_post q1
  obtain ⟨G, ow, ι, y⟩ := id r1
  cases ev : vw t δ1 M1 with
  | none => rw [ev] at eb; cases eb
  | some d =>
    rw [ev] at eb
    cases eb
    have av := AtV.at y.sub (y.vw y.top ev)
    exact ⟨v, .ty c, .type (tyN d), .type c, isB c d, rfl, .ty c, at_tyX av, kit_ty (hk d), q2 _ H1 (r1.pop.pushD (x := .bool (isB c d)) fun _ _ => rfl)⟩
@[simp] theorem e_isD {c : String} {f : Sm T} : mIsD c f δ M = bnd f (fun t => fun δ M => opt ((vw t δ M).map fun d => T.d (.bool (isB c d))) δ M) δ M := rfl
end DL

end
section
namespace DL
open PySem PySem.Spec L2
open PyProof.Rows (callWith_type1 Call_)
variable {X : Cx} {W : WX} {K : KF} {H G : Hp} {ow : Addr → Option Who} {ι : List Addr} {σ : St} {δ : DL.Env} {τ : List (V × T)} {fs : List Fram} {M : Mem} {v u : V} {t : T} {e e' e2 : Expr} {p pos : Pos} {i : Nat}
/-! ### enumerate of a tuple -/
/-- the tuple at a, each item with its number in a new pair -/
def IteT (K : KF) (a : Addr) : It :=
  ⟨fun i H => ∃ xs x, SqT K H a xs ∧ xs[i]? = some x, fun i H v H' => ∃ T x, v = .ref T ∧ H T = none ∧ H' = upd H T (.tup [.int (i : Nat), x]) ∧ ∀ xs, SqT K H a xs → xs[i]? = some x, fun i H => ∃ xs, SqT K H a xs ∧ xs.length ≤ i⟩
theorem enum_endT {prog : Program} {w : World} {A : Around} {E : Value → Shared → Prop} {s : Shared} {e it l : Addr} {i : Nat} {c : Int} {its : Array Value} {old : Value} {Q : Option Value → Shared → Prop} (hh : A.handled = none)
    (he : IsEnum s.heap e it c old) (hit : s.heap.IsTupleIter it l i) (hl : s.heap.IsTuple l its) (hi : its.size ≤ i) (hQ : ∀ h', Heap.ExtBut it s.heap h' → Q none { s with heap := h' }) : wpAny (model prog w) A (pyNext (.ref e)) Q E s := by
  have ty : s.TypeIs (.ref e) "enumerate" := ⟨_, he, rfl⟩
  have hx : its[i]? = none := by simp [hi]
  unfold pyNext
  refine wpAny_bind (wpAny_attempt ?_)
  refine wpAny_callSpecial?_slot (name := Str.ofString "__next__") ty F.slot_enumerate_next ?_
  refine wpAny_call_entry F.slot_enumerate_next ty F.entry_enumerate_next ?_ (F.args_enumerate_next_1 _)
  show wpAny _ _ (field (.ref e) 2 >>= _) _ _ s
  refine wpAny_bind (wpAny_field he rfl (x := .ref it) rfl (wpAny_bind (wpAny_nextOf_tuple_end hh hit hl hx fun h' x k z => ?_)))
  obtain ⟨o, ho, hc⟩ := z
  exact wpAny_bind (wpAny_isInstance (T := "StopIteration") (b := true) ⟨o, ho, hc⟩ isSubtype_stop (wpAny_pure (hQ _ k)))
theorem enum_new1 {v : Value} {o : Obj} {Hs : Heap → Prop} (B : Begins v o Hs) :
    Meets (Builtin.«enumerate.__new__» ⟨[.type "enumerate", v], []⟩) (fun _ R s => Hs s.heap ∧
      R (.ok (.ret (.ref (s.heap.push o).objs.size))) { s with heap := (s.heap.push o).push { cls := .type "enumerate", data := .fields #[.none, .bool false, .ref s.heap.objs.size, rawInt 0, .none, .none] } }) :=
  .of_wp fun prog w A R s ⟨h1, hR⟩ => by
    obtain ⟨hp, g, d, tk, os⟩ := s
    have se := sub_enumerate
    have it : ∀ {A' : Around} {E : Value → Shared → Prop} {Q : Value → Shared → Prop}, Q (.ref hp.objs.size) ⟨hp.push o, g, d, tk, os⟩ → wpAny (model prog w) A' (pyIter v) Q E ⟨hp, g, d, tk, os⟩ :=
      fun q => B.iter prog w _ _ ⟨hp, g, d, tk, os⟩ _ h1 q
    wp_walk using it
    refine wpAny_stack_any fun st => (wpAny_pure ?_)
    split
    · rename_i c _ _ _ _ _
      cases (c == Value.type "enumerate")
      all_goals
        wp_walk using it
        exact ⟨_, rfl, hR⟩
    · wp_walk using it
      exact ⟨_, rfl, hR⟩
theorem turn_enumT {P : Program} {w : World} {K : PySem.W.Frag} {elts : List Expr} {kk : Nat} {tpos : Pos} (a e it : Addr) (na : a ≠ it) :
    Turn P w K (.Tuple elts kk tpos) (IteT K a) [e, it] e (fun i h => (∃ old, IsEnum h e it ((i : Nat) : Int) old) ∧ h.IsTupleIter it a i ∧ e ≠ it ∧ e ≠ a) where
  mem := List.mem_cons_self
  obj := fun i h ⟨⟨old, he⟩, ⟨o, ho, hc, hd⟩, _⟩ b hb => by
    rcases List.mem_cons.mp hb with z | z
    · rw [z]; exact ⟨_, he, fun v q => nomatch q⟩
    · rw [List.mem_singleton.mp z]; exact ⟨o, ho, fun v q => by rw [hd] at q; cases q⟩
  keep := fun i h h' ⟨⟨old, he⟩, hi, hne⟩ k => ⟨⟨old, k e List.mem_cons_self _ he⟩, hi.at fun o q => k it (List.mem_cons_of_mem _ List.mem_cons_self) o q, hne⟩
  item := by
    intro X hP hw hK hc i pins s σ H E I hf st ⟨xs, x, hq, hx⟩
    subst hP hw hK
    obtain ⟨⟨old, he⟩, hit, hne, hea⟩ := st
    obtain ⟨its, rv, p, hz⟩ := I.tuple hq
    obtain ⟨u, hu, ru⟩ := rv.get hx
    have hel : e < s.heap.objs.size := Heap.lt_size he
    have hil : it < s.heap.objs.size := by obtain ⟨_, q, _⟩ := hit; exact Heap.lt_size q
    have hlt : i < its.toArray.size := by have := (List.getElem?_eq_some_iff.mp hu).1; simpa using this
    refine wpAny_pyNext_enum_itemC (Draws.tuple (show X.A.in1.handled = none from I.ok.hd hc) it a na its.toArray) he ⟨hit, p⟩ hlt hne (fun z => ?_) fun y h' tk hy ho hit' hT hsz hk => ?_
    · rcases List.mem_cons.mp z with z | z
      · exact hne z
      · exact hea (List.mem_singleton.mp z)
    have ey : y = u := by
      have hu' : its.toArray[i]? = some u := by simpa using hu
      rw [hu'] at hy; cases hy; rfl
    subst ey
    refine ⟨_, rfl, wpAny_letOwnedTupleGo_enum (s := { s with heap := h', toks := tk + 1 }) ho fun h'' he' sb => ?_⟩
    have hT2 := (sb.2 _ (Nat.ne_of_gt hel)).trans hT
    have new : ObjOk X.prog X.w (upd H s.heap.objs.size (.tup [.int (i : Nat), x])) h'' s.heap.objs.size (.tup [.int (i : Nat), x]) :=
      ⟨show 2 ≤ sizeLine by decide, [.int i tk, y], .cons ⟨_, rfl⟩ (.cons ru .nil), ⟨_, hT2, rfl, _, rfl⟩⟩
    have I1 : Inv X pins σ (upd H s.heap.objs.size (.tup [.int (i : Nat), x])) { s with heap := h'', toks := tk + 1 } :=
      I.turnedNew (ch := [e, it]) (fun b ob hb q => by
        have n1 : b ≠ e := fun z => hb (z ▸ List.mem_cons_self)
        have n2 : b ≠ it := fun z => hb (z ▸ List.mem_cons_of_mem _ List.mem_cons_self)
        exact (sb.2 b n1).trans (hk b ob n1 n2 q)) hf (Nat.le_refl _) new
    refine ⟨.ref s.heap.objs.size, _, I1, rfl, ⟨_, x, rfl, I.hok.fresh (Nat.le_refl _), rfl, fun ys hy => ?_⟩, ⟨⟨y, ?_⟩, hit'.1.at fun o q => (sb.2 it (Ne.symm hne)).trans q, hne, hea⟩, fun b hb => ?_⟩
    · rw [I.tuple_inj hy hq]; exact hx
    · have e1 : ((i + 1 : Nat) : Int) = (i : Int) + 1 := by omega
      rw [e1]; exact he'
    · have hb' : b < s.heap.objs.size := by
        rcases List.mem_cons.mp hb with z | z
        · rw [z]; exact hel
        · rw [List.mem_singleton.mp z]; exact hil
      rw [upd_ne (Nat.ne_of_lt hb')]
      exact (hf b hb).1
  done := by
    intro X hP hw hK hc i pins s σ H E I hf st ⟨xs, hq, hx⟩
    subst hP hw hK
    obtain ⟨⟨old, he⟩, hit, hne, hea⟩ := st
    obtain ⟨its, rv, p, hz⟩ := I.tuple hq
    obtain ⟨f0, f1, f2, f3, f4, f5⟩ := hf it (List.mem_cons_of_mem _ List.mem_cons_self)
    have hl := rv.length
    have hi : its.toArray.size ≤ i := by simp; omega
    exact enum_endT (I.ok.hd hc) he hit p hi fun h' eb => ⟨rfl, I.turned (t' := s.toks) (fun b o hb q => eb b o hb q) f0 f1 f3 f4 f5⟩
  self := fun A i s Q E ⟨⟨_, he⟩, _⟩ h => wpAny_pyIter_enum he h
theorem enum_call1 {prog : Program} {w : World} {A : Around} {E : Value → Shared → Prop} {s : Shared} {v : Value} {o : Obj} {Hs : Heap → Prop} {Q : Value → Shared → Prop} (B : Begins v o Hs) (h1 : Hs s.heap)
    (h : ∀ h', IsEnum h' (s.heap.objs.size + 1) s.heap.objs.size 0 .none → h'.get? s.heap.objs.size = some o → (∀ b o, s.heap.get? b = some o → h'.get? b = some o) → Q (.ref (s.heap.objs.size + 1)) { s with heap := h' }) :
    wpAny (model prog w) A (call (.type "enumerate") [v]) Q E s := by
  refine callType_new F.called_enumerate (by decide) (F.typeCall_enumerate_1 _) (F.newCall_enumerate_1 _) (fun ob => F.args_object_init_2 ob _) F.entry_enumerate_new (enum_new1 B) ⟨h1, ?_⟩
  have hz : (s.heap.push o).objs.size = s.heap.objs.size + 1 := by exact Heap.size_push ..
  have he := Heap.get?_push_size (s.heap.push o) (o := { cls := .type "enumerate", data := .fields #[.none, .bool false, .ref s.heap.objs.size, rawInt 0, .none, .none] }) rfl
  rw [hz] at he
  show _ ∧ _
  rw [hz]
  exact ⟨⟨_, he, rfl⟩, h _ he (Heap.get?_push_of_some _ (Heap.get?_push_size _ B.free)) fun b o x => Heap.get?_push_of_some _ (Heap.get?_push_of_some _ x)⟩
def iEnumT (K : KF) (ta : TA) : TI := fun σ H R => ta σ H fun vs H1 => ∃ a xs, vs = [.ref a] ∧ SqT K H1 a xs ∧ R (IteT K a) H1
theorem pi_enumT {ta : TA} {tpos : Pos} {elts : List Expr} {kk : Nat} (hg : Gl X "enumerate") (hm : X.mg "enumerate" = none) (ha : PA X [e] ta) (hs : starEach [e] X.env = [(false, eval e X.env)] := by rfl) :
    PI X (.Tuple elts kk tpos) (.Call (.Name "enumerate" p) [e] [] pos) (iEnumT X.K ta) := by
  refine ⟨fun pins s σ H R I h => Call_ (ld_blt I hg hm PyProof.Rows.boot_enumerate (callWith_type1 (thn (ha.run pos pins s σ H _ I h) fun us s1 z => ?_) hs rfl))⟩
  obtain ⟨vs, H1, I1, r1, a, xs, rfl, hq, q⟩ := z
  cases r1 with
  | cons r rr =>
    cases rr
    cases r
    obtain ⟨its, rv, tp, hz⟩ := I1.tuple hq
    have al : a < s1.heap.objs.size := by obtain ⟨o, z, _⟩ := tp; exact Heap.lt_size z
    refine enum_call1 (begins_tuple a its.toArray) tp fun h' he hit hk => wpAny_pyIter_enum he ?_
    have I2 : Inv X pins σ H1 { s1 with heap := h' } := I1.kept (t' := s1.toks) hk
    refine ⟨s1.heap.objs.size + 1, [s1.heap.objs.size + 1, s1.heap.objs.size], _, _, H1, rfl, I2, turn_enumT a _ s1.heap.objs.size (Nat.ne_of_lt al), ⟨⟨.none, he⟩, ⟨_, hit, rfl, rfl⟩, Nat.succ_ne_self _, Nat.ne_of_gt (Nat.lt_succ_of_lt al)⟩, fun b hb => ?_, q⟩
    have hle : s1.heap.objs.size ≤ b := by
      rcases List.mem_cons.mp hb with z | z
      · rw [z]; exact Nat.le_succ _
      · rw [List.mem_singleton.mp z]; exact Nat.le_refl _
    exact I1.fpOk hle (I1.hok.fresh hle)
/-! ### enumerate of a list or a tuple, as data -/
def numD (xs : List D) : List D := xs.zipIdx.map fun p => .tuple [.int (p.2 : Nat), p.1]
theorem numD_length (xs : List D) : (numD xs).length = xs.length := by simp [numD]
theorem numD_at {xs : List D} {i : Nat} {d : D} (h : (numD xs)[i]? = some d) : ∃ x, xs[i]? = some x ∧ d = .tuple [.int (i : Nat), x] := by
  unfold numD at h
  rw [List.getElem?_map, List.getElem?_zipIdx] at h
  cases e : xs[i]? with
  | none => rw [e] at h; cases h
  | some x => rw [e] at h; simp at h; exact ⟨x, rfl, h.symm⟩
theorem iter_enumL {a : Addr} {xs : List D} : IterOk K (Ite K a) (V.ref a, T.d (.list xs)) (numD xs) := by
  refine ⟨rfl, fun i H σ δ τ fs M ⟨G, ow, ι, x⟩ => ?_⟩
  obtain ⟨a', us, ea, qa, la⟩ := (show At K G (.ref a) (.list xs) from x.top)
  cases ea
  have ha : SqL K H a us := SqL.of (x.sub _ _ qa)
  have n1 := la.length
  refine ⟨fun hi => ⟨us, ha, by rw [numD_length] at hi; omega⟩, fun d ed => ?_⟩
  obtain ⟨y, e1, rfl⟩ := numD_at ed
  obtain ⟨vy, ey, ay⟩ := la.get e1
  refine ⟨⟨us, vy, ha, ey⟩, fun z H' yl => ?_⟩
  obtain ⟨A, y', rfl, hA, rfl, f1⟩ := yl
  have w1 := f1 us ha
  rw [ey] at w1; cases w1
  exact Rep.newTup ⟨G, ow, ι, x, AtL.two (show At K G (V.int (i : Nat)) (.int (i : Nat)) from rfl) ay⟩ hA
theorem iter_enumT {a : Addr} {xs : List D} : IterOk K (IteT K a) (V.ref a, T.d (.tuple xs)) (numD xs) := by
  refine ⟨rfl, fun i H σ δ τ fs M ⟨G, ow, ι, x⟩ => ?_⟩
  obtain ⟨a', us, ea, qa, la⟩ := (show At K G (.ref a) (.tuple xs) from x.top)
  cases ea
  have ha : SqT K H a us := SqT.grow x.sub qa
  have n1 := la.length
  refine ⟨fun hi => ⟨us, ha, by rw [numD_length] at hi; omega⟩, fun d ed => ?_⟩
  obtain ⟨y, e1, rfl⟩ := numD_at ed
  obtain ⟨vy, ey, ay⟩ := la.get e1
  refine ⟨⟨us, vy, ha, ey⟩, fun z H' yl => ?_⟩
  obtain ⟨A, y', rfl, hA, rfl, f1⟩ := yl
  have w1 := f1 us ha
  rw [ey] at w1; cases w1
  exact Rep.newTup ⟨G, ow, ι, x, AtL.two (show At K G (V.int (i : Nat)) (.int (i : Nat)) from rfl) ay⟩ hA
def mEnum (fa : Sm (List T)) : Sm (List D) := bnd fa fun ts => match ts with
  | [.d (.list xs)] => ret (numD xs)
  | [.d (.tuple xs)] => ret (numD xs)
  | _ => fail
theorem PI.or {tg : Expr} {w1 w2 : TI} (h : PI X tg e w1) (h' : PI X tg e w2) : PI X tg e (fun σ H R => w1 σ H R ∨ w2 σ H R) :=
  ⟨fun pins s σ H R I q => q.elim (fun q => h.run pins s σ H R I q) fun q => h'.run pins s σ H R I q⟩
theorem post_ok {α : Type} {a : α} {k : α → DL.Env → Mem → Prop} {x : XD → DL.Env → Mem → Prop} : (Res.ok a δ M).post k x ↔ k a δ M := Iff.rfl
theorem qi_enum {tpos : Pos} {elts : List Expr} {kk : Nat} {fa : Sm (List T)} (hg : Gl X "enumerate") (hm : X.mg "enumerate" = none) (ha : QA X W [e] fa) (hs : starEach [e] X.env = [(false, eval e X.env)] := by rfl) :
    QI X W (.Tuple elts kk tpos) (.Call (.Name "enumerate" p) [e] [] pos) (mEnum fa) := by
  refine (PI.or (pi_enum hg hm ha hs) (pi_enumT hg hm ha hs)).imp fun σ H R ⟨δ, τ, fs, M, r, q⟩ => ?_
  have q1 := bnd_post q
  cases ef : fa δ M with
  | bad => rw [ef] at q1; exact q1.elim
  | ex x δ' M' => rw [ef] at q1; exact .inl ⟨δ, τ, fs, M, r, by rw [ef]; exact q1⟩
  | ok ts δ' M' =>
    rw [ef] at q1
    replace q1 := post_ok.mp q1
    split at q1
    · rename_i xs
      refine .inl ⟨δ, τ, fs, M, r, ?_⟩
      rw [ef]
      intro vs H1 hl r1
      match vs, hl, r1 with
      | [v], _, r1 =>
        obtain ⟨G, ow, ι, x⟩ := id r1
        obtain ⟨a, us, rfl, sq, al⟩ := (show At X.K G v (.list xs) from x.top)
        exact ⟨a, us, rfl, SqL.of (x.sub _ _ sq), q1 _ H1 _ iter_enumL r1⟩
    · rename_i xs
      refine .inr ⟨δ, τ, fs, M, r, ?_⟩
      rw [ef]
      intro vs H1 hl r1
      match vs, hl, r1 with
      | [v], _, r1 =>
        obtain ⟨G, ow, ι, x⟩ := id r1
        obtain ⟨a, us, rfl, sq, al⟩ := (show At X.K G v (.tuple xs) from x.top)
        exact ⟨a, us, rfl, SqT.grow x.sub sq, q1 _ H1 _ iter_enumT r1⟩
    · exact q1.elim
@[simp] theorem e_enum {fa : Sm (List T)} : mEnum fa δ M = bnd fa (fun ts => match ts with
  | [.d (.list xs)] => ret (numD xs)
  | [.d (.tuple xs)] => ret (numD xs)
  | _ => fail) δ M := rfl
end DL

end
section
namespace DL
open PySem PySem.Spec L2
variable {X : Cx} {W : WX} {K : KF} {H G : Hp} {ow : Addr → Option Who} {ι : List Addr} {σ : St} {δ : DL.Env} {τ : List (V × T)} {fs : List Fram} {M : Mem} {v u : V} {t : T} {e e' e2 : Expr} {p pos : Pos} {i : Nat}
/-! ### list.index, list.count -/
def isL (o : T) (δ : DL.Env) (M : Mem) : Bool := match vw o δ M with
  | some (.list _) => true
  | _ => false
def mMR (F : List D → D → Option D) (fo : Sm T) (fa : Sm (List T)) : Sm T := bnd fo fun o => fun δ M => if isL o δ M = true then (bnd fa fun ts => fun δ M => opt (match ts with
  | [t] => (vw o δ M).bind fun x => (vw t δ M).bind fun d => (match x with
    | .list xs => F xs d
    | _ => Option.none).bind fun z => if plain z = true then some (T.d z) else Option.none
  | _ => Option.none) δ M) δ M else .bad
def fIndex (xs : List D) (d : D) : Option D := if ((PyData.list xs).plain && d.plain && SeqAt.shaped (.list xs) && SeqAt.shaped d) = true then (xs.findIdx? fun z => PyData.eqv z d).map fun j => .int (j : Nat) else none
def ReadD (X : Cx) (r : V → List V → Hp → VK → Prop) (F : List D → D → Option D) : Prop := ∀ (H : Hp) (a : Addr) (us : List V) (w : V) (xs : List D) (d z : D) (Q : VK), H a = some (.lst us) → At X.K H (.ref a) (.list xs) → At X.K H w d → F xs d = some z → (∀ w', (∀ G, At X.K G w' z) → Q w' H) → r (.ref a) [w] H Q
theorem rd_index : ReadD X (rIndexD X.K) fIndex := by
  intro H a us w xs d z Q ha aa aw ef q
  unfold fIndex at ef
  split at ef
  · rename_i hc
    simp only [Bool.and_eq_true] at hc
    obtain ⟨⟨⟨c1, c2⟩, c3⟩, c4⟩ := hc
    cases ej : xs.findIdx? (fun z => PyData.eqv z d) with
    | none => rw [ej] at ef; cases ef
    | some j =>
      rw [ej] at ef
      cases ef
      obtain ⟨hj, h1, h2⟩ := List.findIdx?_eq_some_iff_getElem.mp ej
      refine ⟨a, w, d, xs, j, xs[j], rfl, rfl, At.dp (.list xs) _ aa c1, At.dp d w aw c2, c3, c4, List.getElem?_eq_getElem hj, h1, fun m z' hm hz => ?_, q _ fun _ => rfl⟩
      obtain ⟨hm', e⟩ := List.getElem?_eq_some_iff.mp hz
      have := h2 m hm
      rw [e] at this
      simpa using this
  · cases ef
theorem qe_mr {name : Str} {id : String} {r : V → List V → Hp → VK → Prop} {F : List D → D → Option D} {o : Expr} {apos cpos : Pos} {fo : Sm T} {fa : Sm (List T)} (slot : Slot "list" name id) (hty : typeOf (.builtin id) = pure (.type "method_descriptor")) (hm : MtR X id r) (hF : ReadD X r F) (ho : QE X W o fo) (ha : QA X W [e] fa)
    (hbase : attributeBase o name X.env (eval o X.env) = eval o X.env := by rfl)
    (hfew : ((backTo cpos (starEach [e] X.env)).all (fun x => !x.1) && (backToKw cpos (keywordEach [] X.env)).all (fun x => x.1.isSome)
      && decide ([e].length + ([] : List Keyword).length + (if ([] : List Keyword).isEmpty then 0 else 1) < 30)) = true := by rfl)
    (hline : (apos.endLine == cpos.line) = true := by rfl) (hs : starEach [e] X.env = (false, eval e X.env) :: starEach [] X.env := by rfl) (hplain : (backTo cpos (starEach [] X.env)).any (·.1) = false := by rfl) :
    QE X W (.Call (.Attribute o name apos) [e] [] cpos) (mMR F fo fa) := by
  refine (pe_bm PySem.F.plainAttrs_list slot hty hm ho ha hbase hfew hline hs hplain).imp fun σ H Q ⟨δ, τ, fs, M, rp, q⟩ => ⟨δ, τ, fs, M, rp, Res.post_mono (bnd_post q) (fun ot δ1 M1 q1 ov H1 r1 => ?_) fun _ _ _ z => z⟩
  split at q1
  · rename_i hl
    refine ⟨?_, δ1, (ov, ot) :: τ, fs, M1, r1, Res.post_mono (bnd_post q1) (fun ts δ2 M2 q2 vs H2 hl2 r2 => ?_) fun _ _ _ z => z.push⟩
    · unfold isL at hl
      split at hl
      · rename_i xs ev
        obtain ⟨G, ow, ι, y⟩ := r1
        obtain ⟨a, us, rfl, ha, _⟩ := y.vw y.top ev
        exact .inl ⟨rfl, us, SqL.of ha⟩
      · cases hl
    · obtain ⟨z, ez, q3⟩ := opt_post q2
      match ts, vs, hl2, r2, ez with
      | [t], [w], _, r2, ez =>
        obtain ⟨G, ow, ι, y⟩ := r2
        simp only at ez
        cases ev : vw ot δ2 M2 with
        | none => rw [ev] at ez; cases ez
        | some x =>
          cases ew : vw t δ2 M2 with
          | none => rw [ev, ew] at ez; cases ez
          | some d =>
            rw [ev, ew] at ez
            simp only [Option.bind_some] at ez
            cases x with
            | list xs =>
              simp only at ez
              have ax := y.pop.vw y.pop.top ev
              obtain ⟨a, us, ea, ha, al⟩ := ax
              have ea' : ov = .ref a := ea
              subst ea'
              have aw := AtV.at y.sub (y.vw y.top ew)
              cases ef : F xs d with
              | none => rw [ef] at ez; cases ez
              | some z' =>
                rw [ef] at ez
                simp only [Option.bind_some] at ez
                split at ez
                · rename_i hp
                  cases ez
                  exact hF H2 a us w xs d z' Q ha ⟨a, us, rfl, ha, AtL.mono y.sub _ _ al⟩ aw ef fun w' hw => q3 w' H2 ⟨G, ow, ι, y.pop.pop.push (t := .d z') (hw G)⟩
                · cases ez
            | _ => cases ez
  · exact q1.elim
/-- count of whole numbers, bools, texts, None -/
def rCntF (K : KF) : V → List V → Hp → VK → Prop := fun x xs H Q => ∃ (a : Addr) (ys : List V) (y : V), x = V.ref a ∧ xs = [y] ∧ SqL K H a ys ∧ flatV y = true ∧ ys.all flatV = true ∧ Q (.int (ys.countP fun z => eqV z y : Nat)) H
theorem countP_eqU {y : V} : ∀ {ys : List V} {us : List Value}, Vals ys us → ys.all flatV = true → us.countP (eqU y) = ys.countP fun z => eqV z y
  | _, _, .nil, _ => rfl
  | z :: ys, u :: us, .cons r t, f => by
    rw [List.all_cons, Bool.and_eq_true] at f
    rw [List.countP_cons, List.countP_cons, countP_eqU t f.2, eqU_of r f.1]
theorem mt_countF : MtR X "list.count" (rCntF X.K) := by
  intro pins s σ H x xs v us Q I rx rxs h
  obtain ⟨a, ys, y, rfl, rfl, hs, fy, fys, q⟩ := h
  cases rx
  cases rxs with
  | cons ry rt =>
    rename_i uy ut
    cases rt
    obtain ⟨its, rv, ⟨⟨cls, dd, data, sl⟩, n, ho, hc, hdn, hd⟩, hlen⟩ := I.list hs
    simp only at hc hd
    subst hc hd
    have hc2 := SeqAt.list_countAt a its.toArray n dd sl uy (eqU y)
    refine call_meets PySem.F.slot_list_count ⟨_, ho, rfl⟩ PySem.F.entry_list_count (PySem.F.args_list_count_2 _ _) hc2 ⟨ho, fun u' hu' => mem_eqAt ry fy rv fys u' (by simpa using hu'), ?_⟩
    refine ⟨.int (ys.countP fun z => eqV z y : Nat), H, I.tok _, ⟨s.toks, ?_⟩, q⟩
    rw [← countP_eqU rv fys]
/-- the bare value of a flat datum -/
def flatD : D → Bool
  | .none => true
  | .bool _ => true
  | .int _ => true
  | .str _ => true
  | _ => false
theorem flat_val {d : D} (f : flatD d = true) (h : At K H v d) : v = valOf d ∧ flatV v = true := by
  cases d with
  | none => cases (show v = V.non from h); exact ⟨rfl, rfl⟩
  | bool b => cases (show v = V.bl b from h); exact ⟨rfl, rfl⟩
  | int b => cases (show v = V.int b from h); exact ⟨rfl, rfl⟩
  | str b => cases (show v = V.str b from h); exact ⟨rfl, rfl⟩
  | list _ => cases f
  | tuple _ => cases f
  | dict _ => cases f
theorem flat_vals : ∀ {ds : List D} {vs : List V}, ds.all flatD = true → AtL K H vs ds → vs = ds.map valOf ∧ vs.all flatV = true
  | [], _, _, h => by rw [show _ = _ from h]; exact ⟨rfl, rfl⟩
  | d :: ds, _, f, ⟨v, r, e, h1, h2⟩ => by
    subst e
    rw [List.all_cons, Bool.and_eq_true] at f
    obtain ⟨a, b⟩ := flat_val f.1 h1
    obtain ⟨c, d'⟩ := flat_vals f.2 h2
    exact ⟨by rw [a, c]; rfl, by rw [List.all_cons, b, d']; rfl⟩
def fCount (xs : List D) (d : D) : Option D := if (xs.all flatD && flatD d) = true then some (.int ((xs.map valOf).countP fun z => eqV z (valOf d) : Nat)) else none
theorem rd_count : ReadD X (rCntF X.K) fCount := by
  intro H a us w xs d z Q ha aa aw ef q
  unfold fCount at ef
  split at ef
  · rename_i hc
    simp only [Bool.and_eq_true] at hc
    cases ef
    obtain ⟨a', us', ea, ha', al⟩ := aa
    cases ea
    rw [ha] at ha'; cases ha'
    obtain ⟨e1, f1⟩ := flat_vals hc.1 al
    obtain ⟨e2, f2⟩ := flat_val hc.2 aw
    exact ⟨a, us, w, rfl, rfl, SqL.of ha, f2, f1, q _ fun _ => by rw [e1, e2]; rfl⟩
  · cases ef
@[simp] theorem e_mr {F : List D → D → Option D} {fo : Sm T} {fa : Sm (List T)} : mMR F fo fa δ M = bnd fo (fun o => fun δ M => if isL o δ M = true then (bnd fa fun ts => fun δ M => opt (match ts with
  | [t] => (vw o δ M).bind fun x => (vw t δ M).bind fun d => (match x with
    | .list xs => F xs d
    | _ => Option.none).bind fun z => if plain z = true then some (T.d z) else Option.none
  | _ => Option.none) δ M) δ M else .bad) δ M := rfl
end DL

end
section
namespace DL
open PySem PySem.Spec L2
variable {X : Cx} {W : WX} {K : KF} {H G : Hp} {ow : Addr → Option Who} {ι : List Addr} {σ : St} {δ : DL.Env} {τ : List (V × T)} {fs : List Fram} {M : Mem} {v u : V} {t : T} {e e' e2 : Expr} {p pos : Pos} {i : Nat}
/-! ### {}, {k: e} -/
theorem RepG.dct (x : RepG K H G ow ι (⟨σ, δ, τ⟩ :: fs) M) {p : Addr} (hp : H p = none) : Rep K (upd H p (.dK [])) (⟨σ, δ, (.ref p, .con (.dct [])) :: τ⟩ :: fs) M :=
  ⟨G, _, ι, (x.newO hp (.tmp fs.length τ.length)).push ⟨p, rfl, ownW_same, [], upd_same, rfl⟩⟩
def mDct0 : Sm T := ret (.con (.dct []))
theorem qe_dct0 : QE X W (.Dict [] [] pos) mDct0 := pe_dnewK.imp fun σ H Q ⟨δ, τ, fs, M, ⟨G, ow, ι, x⟩, q⟩ p hp => q _ _ (x.dct hp)
/-- the dict below gets its first entry -/
theorem Rep.first {a : Addr} {y : D} {w : V} {k : D} {kk : Key} (h : Rep K H (⟨σ, δ, (w, .d y) :: (.ref a, .con (.dct [])) :: τ⟩ :: fs) M) (ek : keyOf k = some kk) : H a = some (.dK []) ∧ Rep K (upd H a (.dK [(kk, w)])) (⟨σ, δ, (.ref a, .con (.dct [(k, y)])) :: τ⟩ :: fs) M := by
  obtain ⟨G, ow, ι, x⟩ := h
  have aw : At K G w y := x.top
  obtain ⟨b, eb, ob, vs', hb, al⟩ := x.pop.top
  cases eb
  have el : vs' = [] := al
  subst el
  have gb := (x.own a _ ob).1
  refine ⟨hb, G, ow, ι, RepG.push (x.pop.pop.chg (fun w => w = .tmp fs.length τ.length) (fun w e => ⟨_, e, Nat.le_refl _⟩) (fun b w e nb => ⟨e, upd_ne ?_⟩) (Same.refl _) (fun b u e => ?_) (fun b w e => ?_)) ?_⟩
  · intro z; subst z; rw [ob] at e; cases e; exact nb rfl
  · by_cases hba : b = a
    · subst hba; rw [gb] at e; cases e
    · rw [upd_ne hba]; exact x.sub _ _ e
  · refine ⟨(x.own b w e).1, ?_⟩
    by_cases hba : b = a
    · subst hba; exact ⟨_, upd_same⟩
    · rw [upd_ne hba]; exact (x.own b w e).2
  · exact ⟨a, rfl, ob, _, upd_same, kk, w, [], rfl, ek, aw, rfl⟩
def mDct1 (k : D) (f : Sm T) : Sm T := bnd (bnd f mFrz) fun t => match t with
  | .d y => ret (.con (.dct [(k, y)]))
  | _ => fail
theorem qe_dct1 {ke : Expr} {k : D} {kk : Key} {f : Sm T} (hk : PE X ke (tC (kV kk))) (ek : keyOf k = some kk) (h : QE X W e f) : QE X W (.Dict [some ke] [e] pos) (mDct1 k f) := by
  refine (pe_disp (pps_cons hk (qe_frz h) pps_nil) (by rfl) (by rfl) (fun z => by cases z) (by show 1 ≤ 15; decide)).imp fun σ H Q ⟨δ, τ, fs, M, ⟨G, ow, ι, x⟩, q⟩ p hp => ?_
  refine ⟨δ, (.ref p, .con (.dct [])) :: τ, fs, M, x.dct hp, Res.post_mono (bnd_post q) (fun t δ1 M1 q1 w H1 r1 => ?_) fun _ _ _ z => z.push⟩
  cases t with
  | d y =>
    obtain ⟨h1, r2⟩ := r1.first ek
    exact ⟨h1, [(kk, w)], rfl, by show 1 ≤ 15; decide, q1 _ _ r2⟩
  | _ => exact q1.elim
@[simp] theorem e_dct0 : mDct0 δ M = .ok (.con (.dct [])) δ M := rfl
@[simp] theorem e_dct1 {k : D} {f : Sm T} : mDct1 k f δ M = bnd (bnd f mFrz) (fun t => match t with
  | .d y => ret (.con (.dct [(k, y)]))
  | _ => fail) δ M := rfl
/-! ### list(range(..)) -/
def rgD (a b : Int) : List D := (List.range (b - a).toNat).map fun i => .int (a + (i : Nat))
theorem rg_atL : ∀ {l : List Nat} {a : Int}, AtL K G (l.map fun i => V.int (a + (i : Nat))) (l.map fun i => PyData.int (a + (i : Nat)))
  | [], _ => rfl
  | n :: l, a => ⟨_, _, rfl, rfl, rg_atL⟩
def okRg (a b : Int) : Bool := small62 a && small62 b && decide ((b - a).toNat ≤ 2 ^ 24)
theorem okRg_iff {a b : Int} (h : okRg a b = true) : RgOk a b := by
  unfold okRg at h
  simp only [Bool.and_eq_true, decide_eq_true_eq] at h
  obtain ⟨⟨h1, h2⟩, h3⟩ := h
  obtain ⟨a1, a2⟩ := small62_iff.mp h1
  obtain ⟨b1, b2⟩ := small62_iff.mp h2
  exact ⟨a1, a2, b1, b2, h3⟩
theorem Rep.rg {a b : Int} (r : Rep K H (⟨σ, δ, τ⟩ :: fs) M) {q : Addr} (hq : H q = none) : Rep K (upd H q (.lst (rgV a b))) (⟨σ, δ, (.ref q, .con (.lst (rgD a b))) :: τ⟩ :: fs) M :=
  let ⟨G, ow, ι, x⟩ := r; x.lst (show AtL K G (rgV a b) (rgD a b) from rg_atL) hq
def mLstRg1 (f : Sm T) : Sm T := bnd f fun t => match t with
  | .d (.int b) => if okRg 0 b = true then ret (.con (.lst (rgD 0 b))) else fail
  | _ => fail
def mLstRg2 (f g : Sm T) : Sm T := bnd f fun t => bnd g fun u => match t, u with
  | .d (.int a), .d (.int b) => if okRg a b = true then ret (.con (.lst (rgD a b))) else fail
  | _, _ => fail
theorem qe_lstRg1 {f : Sm T} {p2 pos2 : Pos} (hc : X.calm = true) (hg : Gl X "list") (hm : X.mg "list" = none) (hg2 : Gl X "range") (hm2 : X.mg "range" = none) (h : QE X W e f) (na2 : starEach [e] X.env = (false, eval e X.env) :: starEach [] X.env := by rfl)
    (na : starEach [.Call (.Name "range" p2) [e] [] pos2] X.env = (false, eval (.Call (.Name "range" p2) [e] [] pos2) X.env) :: starEach [] X.env := by rfl) :
    QE X W (.Call (.Name "list" p) [.Call (.Name "range" p2) [e] [] pos2] [] pos) (mLstRg1 f) := by
  refine (pe_listRg hc hg hm (prg_1 hg2 hm2 h na2) na).imp fun σ H Q ⟨δ, τ, fs, M, r, q⟩ => ⟨δ, τ, fs, M, r, Res.post_mono (bnd_post q) (fun t δ1 M1 q1 v H1 r1 => ?_) fun _ _ _ z => z⟩
  split at q1
  · rename_i b
    split at q1
    · rename_i ok
      have ev : v = .int b := r1.topD
      exact ⟨b, ev, okRg_iff ok, fun q hq => q1 _ _ (r1.pop.rg hq)⟩
    · exact q1.elim
  · exact q1.elim
theorem qe_lstRg2 {f g : Sm T} {p2 pos2 : Pos} (hc : X.calm = true) (hg : Gl X "list") (hm : X.mg "list" = none) (hg2 : Gl X "range") (hm2 : X.mg "range" = none) (h : QE X W e f) (h' : QE X W e2 g)
    (na2 : starEach [e, e2] X.env = (false, eval e X.env) :: starEach [e2] X.env := by rfl) (nb2 : starEach [e2] X.env = (false, eval e2 X.env) :: starEach [] X.env := by rfl) (hp2 : (backTo pos2 (starEach [e2] X.env)).any (·.1) = false := by rfl)
    (na : starEach [.Call (.Name "range" p2) [e, e2] [] pos2] X.env = (false, eval (.Call (.Name "range" p2) [e, e2] [] pos2) X.env) :: starEach [] X.env := by rfl) :
    QE X W (.Call (.Name "list" p) [.Call (.Name "range" p2) [e, e2] [] pos2] [] pos) (mLstRg2 f g) := by
  refine (pe_listRg hc hg hm (prg_2 hg2 hm2 h h' na2 nb2 hp2) na).imp fun σ H Q ⟨δ, τ, fs, M, r, q⟩ => ⟨δ, τ, fs, M, r, Res.post_mono (bnd_post q) (fun t δ1 M1 q1 v H1 r1 => ?_) fun _ _ _ z => z⟩
  refine ⟨δ1, (v, t) :: τ, fs, M1, r1, Res.post_mono (bnd_post q1) (fun u δ2 M2 q2 w H2 r2 => ?_) fun _ _ _ z => z.push⟩
  split at q2
  · rename_i a b
    split at q2
    · rename_i ok
      have ew : w = .int b := r2.topD
      have ev : v = .int a := r2.pop.topD
      exact ⟨a, b, ev, ew, okRg_iff ok, fun q hq => q2 _ _ (r2.pop.pop.rg hq)⟩
    · exact q2.elim
  · exact q2.elim
@[simp] theorem e_lstRg1 {f : Sm T} : mLstRg1 f δ M = bnd f (fun t => match t with
  | .d (.int b) => if okRg 0 b = true then ret (.con (.lst (rgD 0 b))) else fail
  | _ => fail) δ M := rfl
@[simp] theorem e_lstRg2 {f g : Sm T} : mLstRg2 f g δ M = bnd f (fun t => bnd g fun u => match t, u with
  | .d (.int a), .d (.int b) => if okRg a b = true then ret (.con (.lst (rgD a b))) else fail
  | _, _ => fail) δ M := rfl
end DL

end
section
namespace DL
open PySem PySem.Spec L2
variable {X : Cx} {W : WX} {K : KF} {H H' G : Hp} {ow : Addr → Option Who} {ι : List Addr} {σ : St} {δ : DL.Env} {τ τ1 : List (V × T)} {fs : List Fram} {M : Mem} {v u : V} {t : T} {e e' e2 : Expr} {p pos : Pos} {i : Nat}
/-! ### [e for a in xs for b in ys] -/
theorem RTs.mid {k : Nat} {p p' : V × T} (hw : ∀ j, j ≠ τ.length → ∀ a, ow a = some (.tmp k j) → H' a = H a) (hp : RT K H' G ow ι σ (.tmp k τ.length) p'.1 p'.2) : ∀ {τ1 : List (V × T)}, RTs K H G ow ι σ k (τ1 ++ p :: τ) → RTs K H' G ow ι σ k (τ1 ++ p' :: τ)
  | [], ⟨_, h2⟩ => ⟨hp, RTs.keep (Same.refl _) (fun j hj a q => ⟨q, hw j (by omega) a q⟩) (fun _ _ q => q) (fun _ _ _ _ q => q) h2⟩
  | q :: τ1, ⟨h1, h2⟩ => by
    have hl : (τ1 ++ p' :: τ).length = (τ1 ++ p :: τ).length := by simp
    refine ⟨?_, RTs.mid hw hp h2⟩
    show RT K H' G ow ι σ (.tmp k (τ1 ++ p' :: τ).length) q.1 q.2
    rw [hl]
    exact h1.keep (Same.refl _) (fun a e => ⟨e, hw _ (by simp; omega) a e⟩) (fun _ _ q => q) (fun _ _ q => q)
/-- the list somewhere below grows by the datum on top -/
theorem Rep.snocN {a : Addr} {acc : List D} {y : D} {w : V} {vs : List V} (h : Rep K H (⟨σ, δ, (w, .d y) :: (τ1 ++ (.ref a, .con (.lst acc)) :: τ)⟩ :: fs) M) (ha : H a = some (.lst vs)) : Rep K (upd H a (.lst (vs ++ [w]))) (⟨σ, δ, τ1 ++ (.ref a, .con (.lst (acc ++ [y]))) :: τ⟩ :: fs) M := by
  obtain ⟨G, ow, ι, x⟩ := h
  have aw : At K G w y := x.top
  have z := x.pop
  have rt : ∀ {τ1 : List (V × T)}, RTs K H G ow ι σ fs.length (τ1 ++ (V.ref a, T.con (.lst acc)) :: τ) → RT K H G ow ι σ (.tmp fs.length τ.length) (.ref a) (.con (.lst acc)) := fun {τ1} => by
    induction τ1 with
    | nil => exact fun h => h.1
    | cons q τ1 ih => exact fun h => ih h.2
  obtain ⟨b, eb, ob, vs', hb, al⟩ := rt z.frs.1.tmps
  cases eb
  rw [ha] at hb; cases hb
  have gb := (x.own a _ ob).1
  have s3 : ∀ c u', ow c = some u' → u' ≠ .tmp fs.length τ.length → upd H a (.lst (vs ++ [w])) c = H c := fun c u' e nu => upd_ne fun z => by
    rw [z, ob] at e; cases e; exact nu rfl
  refine ⟨G, ow, ι, fun b u e => ?_, fun b u e => ⟨(x.own b u e).1, ?_⟩, z.lenM, fun n c2 ec => ?_, ⟨z.frs.1.len, fun k t ej => ?_, ?_⟩, ?_⟩
  · by_cases hba : b = a
    · subst hba; rw [gb] at e; cases e
    · rw [upd_ne hba]; exact x.sub _ _ e
  · by_cases hba : b = a
    · subst hba; exact ⟨_, upd_same⟩
    · rw [upd_ne hba]; exact (x.own b u e).2
  · obtain ⟨b', q1, q2, q3⟩ := z.cells n c2 ec
    exact ⟨b', q1, q2, q3.keep (Same.refl _) (s3 b' _ q2 (fun z => nomatch z))⟩
  · obtain ⟨nu, v2, e2, r2⟩ := z.slots_of ej
    exact ⟨nu, v2, e2, r2.keep (Same.refl _) (fun b q => ⟨q, s3 b _ q (fun z => nomatch z)⟩) (fun _ _ q => q) (fun _ _ q => q)⟩
  · exact RTs.mid (fun j hj b q => s3 b _ q fun z => by injection z with _ z2; exact hj z2) (show RT K _ G ow ι σ _ (V.ref a) (T.con (.lst (acc ++ [y]))) from ⟨a, rfl, ob, vs ++ [w], upd_same, al.app (AtL.one aw)⟩) z.frs.1.tmps
  · exact z.frs.2.keep (Same.refl _) (fun w hl b q => ⟨q, s3 b _ q (fun z => by subst z; exact absurd (show fs.length < fs.length from hl) (by omega))⟩) (fun _ _ q => q)
def lc2F (vs vs1 : List Nat) (tg : T → Sm Unit) (g1 : Sm (List D)) (tg1 : T → Sm Unit) (tt1 : Sm Bool) (te : Sm T) : List D → List D → Sm (List D)
  | [], acc => ret acc
  | d :: ds, acc => fun δ M =>
    match tg (.d d) δ M with
    | .ok _ δ1 M1 => (bnd g1 fun ds1 => fun δ2 M2 => if acc.length + ds1.length ≤ 16000000 then
        bnd (fun δ3 M3 => lcF vs1 tg1 tt1 te ds1 acc (wipeE δ3 vs1) M3) (fun acc' => fun δ4 M4 => lc2F vs vs1 tg g1 tg1 tt1 te ds acc' (wipeE δ4 vs) M4) δ2 M2 else .bad) δ1 M1
    | _ => .bad
def mLc2 (vs vs1 : List Nat) (g : Sm (List D)) (tg : T → Sm Unit) (g1 : Sm (List D)) (tg1 : T → Sm Unit) (tt1 : Sm Bool) (te : Sm T) : Sm T := bnd g fun ds => fun δ M =>
  lcEnd δ vs (lc2F vs vs1 tg g1 tg1 tt1 te ds [] (wipeE δ vs) M)
theorem wipe_eq {σ3 σ : St} {vs : List Nat} (ew : wipe σ3 vs = wipe (wipe σ vs) vs) : wipe σ3 vs = wipe σ vs := by
  rw [ew]
  apply List.ext_getElem?
  intro j
  simp only [wipe_at]
  split
  · cases σ[j]? <;> rfl
  · rfl
theorem wipe_idem {σ : St} {vs : List Nat} : wipe (wipe σ vs) vs = wipe σ vs := wipe_eq rfl
theorem wipe_sub {σ : St} {vs vs1 : List Nat} (h : ∀ i ∈ vs1, i ∈ vs) : wipe (wipe σ vs1) vs = wipe σ vs := by
  apply List.ext_getElem?
  intro j
  simp only [wipe_at]
  by_cases hj : j ∈ vs
  · simp only [hj, if_true]
    split
    · cases σ[j]? <;> rfl
    · rfl
  · have : j ∉ vs1 := fun z => hj (h j z)
    simp only [hj, this, if_false]
theorem wipe_sub' {σ σ2 : St} {vs vs1 : List Nat} (h : ∀ i ∈ vs1, i ∈ vs) (e : wipe σ2 vs1 = wipe σ vs1) : wipe σ2 vs = wipe σ vs := by
  rw [← wipe_sub (σ := σ2) h, e, wipe_sub h]
theorem lc2_rd {vs vs1 : List Nat} {g g1 : Sm (List D)} {tg tg1 : T → Sm Unit} {tt1 : Sm Bool} {te : Sm T} {Q : VK} (hv : ∀ i ∈ vs1, i ∈ vs) (q : tE K W (mLc2 vs vs1 g tg g1 tg1 tt1 te) σ H Q) :
    tLc2 (tI K W g) (tGw K vs tg) (tT K WF (ret true)) (tI K WF g1) (tGw K vs1 tg1) (tT K WF tt1) (tE K WF te) vs vs1 σ H Q := by
  obtain ⟨δ, τ, fs, M, r, q⟩ := q
  refine ⟨δ, τ, fs, M, r, Res.post_mono (bnd_post q) (fun ds δ1 M1 q1 J H1 tm ok r1 Da hD => ?_) fun _ _ _ z => z⟩
  have r2 : Rep K (upd H1 Da (.lst [])) (⟨σ, δ1, (.ref Da, .con (.lst [])) :: tm :: τ⟩ :: fs) M1 := Rep.newLst (let ⟨G, ow, ι, y⟩ := r1; ⟨G, ow, ι, y, AtL.nil⟩) hD
  have nb0 : NB [tm, (V.ref Da, T.con (.lst []))] := NB.cons ok.nb (NB.cons rfl NB.nil)
  have r3 : Rep K (upd H1 Da (.lst [])) (⟨wipe σ vs, wipeE δ1 vs, [tm, (.ref Da, .con (.lst []))]⟩ :: ⟨σ, onlyE δ1 vs, τ⟩ :: fs) M1 := Rep.blockIn (τ1 := [tm, (.ref Da, .con (.lst []))]) vs r2.swap nb0
  have hlen : σ.length = δ1.length := r1.len
  have q2 := lcEnd_post q1
  let F : List Fram := ⟨σ, onlyE δ1 vs, τ⟩ :: fs
  let kp : List D → DL.Env → Mem → Prop := fun acc δ' M' => δ'.length = δ1.length ∧ ∀ v H', Rep K H' (⟨σ, mergeE δ1 δ' vs, (v, .con (.lst acc)) :: τ⟩ :: fs) M' → Q v H'
  let Out : Nat → Hp → Prop := fun i H => i ≤ ds.length ∧ ∃ acc δ' M', Rep K H (⟨wipe σ vs, δ', [tm, (.ref Da, .con (.lst acc))]⟩ :: F) M' ∧ (lc2F vs vs1 tg g1 tg1 tt1 te (ds.drop i) acc δ' M').post kp fun _ _ _ => False
  refine ⟨fun i m H => m = ds.length - i ∧ Out i H, ⟨_, rfl, Nat.zero_le _, [], _, _, r3, q2⟩, ?_⟩
  rintro i m H2 ⟨rfl, hi, acc, δ2, M2, r4, q4⟩
  obtain ⟨stop, step⟩ := ok.turn i H2 _ δ2 _ _ M2 r4
  by_cases hlt : i < ds.length
  · have ed : ds[i]? = some ds[i] := List.getElem?_eq_getElem hlt
    obtain ⟨go, yld⟩ := step _ ed
    rw [drop_cons' ed] at q4
    refine .inr ⟨go, fun H' => Out (i + 1) H', fun H' n => ⟨ds.length - (i + 1), by omega, rfl, n⟩, fun x H' y => ?_⟩
    have r5 := yld x H' y
    have nb : NB [tm, (V.ref Da, T.con (.lst acc))] := NB.cons ok.nb (NB.cons rfl NB.nil)
    unfold lc2F at q4
    refine ⟨.d ds[i], δ2, [tm, (.ref Da, .con (.lst acc))], _, M2, rfl, nb, r5, ?_⟩
    cases et : tg (.d ds[i]) δ2 M2 with
    | ex a b c => simp only [et] at q4; exact q4.elim
    | bad => simp only [et] at q4; exact q4.elim
    | ok _ δ3 M3 =>
      simp only [et] at q4
      refine fun σ3 H3 ew r6 => ⟨?_, δ3, [tm, (.ref Da, .con (.lst acc))], _, M3, r6, fun H4 r7 => ?_⟩
      · rw [ew, wipe_idem]
      have ew2 : wipe σ3 vs = wipe σ vs := wipe_eq ew
      simp only [if_true]
      refine ⟨δ3, [tm, (.ref Da, .con (.lst acc))], F, M3, r7, Res.post_mono (bnd_post q4) (fun ds1 δ4 M4 q5 J1 H5 tm1 ok1 r8 => ?_) fun _ _ _ z => z.elim⟩
      split at q5
      · rename_i hsz
        have q6 := bnd_post q5
        let kin : List D → DL.Env → Mem → Prop := fun acc' δ' M' => (lc2F vs vs1 tg g1 tg1 tt1 te (ds.drop (i + 1)) acc' (wipeE δ' vs) M').post kp fun _ _ _ => False
        have nb1 : ∀ acc : List D, NB [tm1, tm, (V.ref Da, T.con (.lst acc))] := fun acc => NB.cons ok1.nb (NB.cons ok.nb (NB.cons rfl NB.nil))
        have r9 := r8.scrub (vs := vs1) (nb1 acc)
        let In : Nat → Hp → Prop := fun j H => j ≤ ds1.length ∧ ∃ acc' δ' M', acc'.length ≤ acc.length + j ∧ Rep K H (⟨wipe σ3 vs1, δ', [tm1, tm, (.ref Da, .con (.lst acc'))]⟩ :: F) M' ∧ (lcF vs1 tg1 tt1 te (ds1.drop j) acc' δ' M').post kin fun _ _ _ => False
        refine ⟨fun j k H => k = ds1.length - j ∧ In j H, ⟨_, rfl, Nat.zero_le _, acc, _, _, Nat.le_refl _, r9, q6⟩, ?_⟩
        rintro j k H6 ⟨rfl, hj, acc', δ5, M5, hacc, r10, q7⟩
        obtain ⟨stop1, step1⟩ := ok1.turn j H6 _ δ5 _ _ M5 r10
        by_cases hlt1 : j < ds1.length
        · have ed1 : ds1[j]? = some ds1[j] := List.getElem?_eq_getElem hlt1
          obtain ⟨go1, yld1⟩ := step1 _ ed1
          rw [drop_cons' ed1] at q7
          refine .inr ⟨go1, fun H' => In (j + 1) H', fun H' n => ⟨ds1.length - (j + 1), by omega, rfl, n⟩, fun x1 H7 y1 => ?_⟩
          have r11 := yld1 x1 H7 y1
          unfold lcF at q7
          refine ⟨.d ds1[j], δ5, [tm1, tm, (.ref Da, .con (.lst acc'))], _, M5, rfl, nb1 acc', r11, ?_⟩
          cases et1 : tg1 (.d ds1[j]) δ5 M5 with
          | ex a b c => simp only [et1] at q7; exact q7.elim
          | bad => simp only [et1] at q7; exact q7.elim
          | ok _ δ6 M6 =>
            simp only [et1] at q7
            refine fun σ6 H8 ew6 r12 => ⟨?_, δ6, [tm1, tm, (.ref Da, .con (.lst acc'))], F, M6, r12, Res.post_mono (bnd_post q7) (fun b δ7 M7 q8 H9 r13 => ?_) fun _ _ _ z => z.elim⟩
            · rw [ew6, wipe_idem]
            have ew7 : wipe σ6 vs1 = wipe σ3 vs1 := wipe_eq ew6
            cases b with
            | false =>
              have r14 := r13.scrub (vs := vs1) (nb1 acc')
              rw [ew7] at r14
              exact ⟨hlt1, acc', _, M7, by omega, r14, q8⟩
            | true =>
              simp only [if_true] at q8 ⊢
              refine ⟨δ7, [tm1, tm, (.ref Da, .con (.lst acc'))], F, M7, r13, Res.post_mono (bnd_post (bnd_post q8)) (fun tv δ8 M8 q9 w H10 r14 => ?_) fun _ _ _ z => z.elim⟩
              cases ef : mFrz tv δ8 M8 with
              | ex a b c => rw [ef] at q9; exact q9.elim
              | bad => rw [ef] at q9; exact q9.elim
              | ok t2 δ9 M9 =>
                rw [ef] at q9
                have r15 := r14.frz ef
                cases t2 with
                | d yv =>
                  have hDl : ∃ us, H10 Da = some (.lst us) ∧ us.length = acc'.length := by
                    obtain ⟨G, ow, ι, z⟩ := r15
                    obtain ⟨b, eb, _, us, hb, al⟩ := z.pop.pop.pop.top
                    cases eb
                    exact ⟨us, hb, al.length⟩
                  obtain ⟨us, hus, hul⟩ := hDl
                  refine ⟨us, hus, line16 (by omega), hlt1, acc' ++ [yv], _, M9, by simp; omega, ?_, q9⟩
                  have r16 := (Rep.snocN (τ1 := [tm1, tm]) r15 hus).scrub (vs := vs1) (nb1 (acc' ++ [yv]))
                  rw [ew7] at r16
                  exact r16
                | _ => exact q9.elim
        · rw [List.drop_eq_nil_of_le (by omega)] at q7
          unfold lcF at q7
          have r11 := Rep.scrub (vs := vs) (Rep.pop r10) (NB.cons ok.nb (NB.cons rfl NB.nil))
          rw [wipe_sub hv, ew2] at r11
          exact .inl ⟨stop1 (by omega), hlt, acc', wipeE δ5 vs, M5, r11, q7⟩
      · exact q5.elim
  · refine .inl ⟨stop (by omega), ?_⟩
    rw [List.drop_eq_nil_of_le (by omega)] at q4
    unfold lc2F at q4
    exact q4.2 _ H2 (Rep.blockOut (σ1 := wipe σ vs) (Rep.swap r4).nip rfl (fun j hj => by rw [wipe_at, if_neg hj]) q4.1.symm hlen)
theorem qe_lc2 {elt tg iter tg1 iter1 : Expr} {ifs1 : List Expr} {scope : Scope} {own : List (Str × Nat)} {vs1 : List Nat} {g g1 : Sm (List D)} {f f1 : T → Sm Unit} {tt1 : Sm Bool} {te : Sm T} (hc : X.calm = true) (hN : X.N.Nodup) (hi : QI X W tg iter g) (ok : BlkOk X.N X.env.scope scope own) (hv : ∀ i ∈ vs1, i ∈ own.map (·.2))
    (hg : ∀ (s : Shared) (H : Hp) (C : Addr) (cl : List (Str × Addr)) (fp : List Addr), QGw (X.blk s H scope (compEnvC scope cl C X.env) fp) (own.map (·.2)) tg f)
    (hi1 : ∀ (s : Shared) (H : Hp) (C : Addr) (cl : List (Str × Addr)) (fp : List Addr), QI (X.blk s H scope (compEnvC scope cl C X.env) fp) WF tg1 iter1 g1)
    (hg1 : ∀ (s : Shared) (H : Hp) (C : Addr) (cl : List (Str × Addr)) (fp : List Addr), QGw (X.blk s H scope (compEnvC scope cl C X.env) fp) vs1 tg1 f1)
    (ht1 : ∀ (s : Shared) (H : Hp) (C : Addr) (cl : List (Str × Addr)) (fp : List Addr), QTs (X.blk s H scope (compEnvC scope cl C X.env) fp) ifs1 tt1)
    (he : ∀ (s : Shared) (H : Hp) (C : Addr) (cl : List (Str × Addr)) (fp : List Addr), QE (X.blk s H scope (compEnvC scope cl C X.env) fp) WF elt te) (hs : ∀ x, foldedSetIterable iter X.env x = pure x := by intro _; rfl) (hs1 : ∀ env x, foldedSetIterable iter1 env x = pure x := by intro _ _; rfl) :
    QE X W (.ListComp elt [⟨tg, iter, [], 0⟩, ⟨tg1, iter1, ifs1, 0⟩] scope pos) (mLc2 (own.map (·.2)) vs1 g f g1 f1 tt1 te) :=
  (pe_lc2 hc hN hi ok hv hg (fun _ _ _ _ _ => qts_nil) hi1 hg1 ht1 he hs hs1).imp fun _ _ _ q => lc2_rd hv q
theorem qs_setLc2 {i : Nat} {y : Str} {py : Pos} {elt tg iter tg1 iter1 : Expr} {ifs1 : List Expr} {scope : Scope} {own : List (Str × Nat)} {vs1 : List Nat} {spos : Pos} {g g1 : Sm (List D)} {f f1 : T → Sm Unit} {tt1 : Sm Bool} {te : Sm T} (hc : X.calm = true) (hN : X.N.Nodup) (hy : X.N[i]? = some y) (hyl : X.env.scope.names.lookup y = some .local)
    (hsw : swapsWith (.ListComp elt [⟨tg, iter, [], 0⟩, ⟨tg1, iter1, ifs1, 0⟩] scope pos) (some (.Name y py)) spos.line X.env = pure true) (hi : QI X W tg iter g) (ok : BlkOk X.N X.env.scope scope own) (hv : ∀ i ∈ vs1, i ∈ own.map (·.2))
    (hg : ∀ (s : Shared) (H : Hp) (C : Addr) (cl : List (Str × Addr)) (fp : List Addr), QGw (X.blk s H scope (compEnvC scope cl C X.env) fp) (own.map (·.2)) tg f)
    (hi1 : ∀ (s : Shared) (H : Hp) (C : Addr) (cl : List (Str × Addr)) (fp : List Addr), QI (X.blk s H scope (compEnvC scope cl C X.env) fp) WF tg1 iter1 g1)
    (hg1 : ∀ (s : Shared) (H : Hp) (C : Addr) (cl : List (Str × Addr)) (fp : List Addr), QGw (X.blk s H scope (compEnvC scope cl C X.env) fp) vs1 tg1 f1)
    (ht1 : ∀ (s : Shared) (H : Hp) (C : Addr) (cl : List (Str × Addr)) (fp : List Addr), QTs (X.blk s H scope (compEnvC scope cl C X.env) fp) ifs1 tt1)
    (he : ∀ (s : Shared) (H : Hp) (C : Addr) (cl : List (Str × Addr)) (fp : List Addr), QE (X.blk s H scope (compEnvC scope cl C X.env) fp) WF elt te) (hs : ∀ x, foldedSetIterable iter X.env x = pure x := by intro _; rfl) (hs1 : ∀ env x, foldedSetIterable iter1 env x = pure x := by intro _ _; rfl) :
    QS X W (.Assign [.Name y py] (.ListComp elt [⟨tg, iter, [], 0⟩, ⟨tg1, iter1, ifs1, 0⟩] scope pos) spos) (mSet i (mLc2 (own.map (·.2)) vs1 g f g1 f1 tt1 te)) := by
  refine (ps_setLc2 (g := tGw X.K (own.map (·.2)) f) (tt := tT X.K WF (ret true)) (wi1 := tI X.K WF g1) (g1 := tGw X.K vs1 f1) (tt1 := tT X.K WF tt1) (te := tE X.K WF te) hc hN hy hyl hsw hi ok hv hg (fun _ _ _ _ _ => qts_nil) hi1 hg1 ht1 he hs hs1).imp fun D σ H ⟨δ, τ, fs, M, nb, r, q⟩ => ?_
  refine lc2_rd (W := W) hv ⟨δ, τ, fs, M, r, Res.post_mono (bnd_post q) (fun t δ1 M1 q1 v H1 r1 => ?_) fun _ _ _ z => xw z⟩
  obtain ⟨r', δ2, M2, e2, q2⟩ := mOwn_post (bnd_post q1)
  obtain ⟨r2, nb2⟩ := r1.own e2
  split at q2
  · rename_i hl
    exact q2 _ H1 (r2.put nb2 nb (by rw [r2.len]; exact hl))
  · exact q2.elim
end DL

end
section
namespace DL
open PySem PySem.Spec L2
variable {X : Cx} {W : WX} {K : KF} {H G : Hp} {δ : DL.Env} {M : Mem} {σ : St}
theorem unit65 {k : Nat} {A : Around} (hr : Room k A) : A.units + 65 < cLine := by have := hr.un; omega
def clsBody : Stmt → List Stmt
  | .ClassDef _ _ _ body .. => body
  | _ => []
def clsDef (st : Stmt) (j : Nat) : Stmt := (clsBody st).getD j (.Pass ⟨0, 0, 0, 0⟩)
theorem boot_ty_bool : bootBuiltins "bool" = some (.type "bool") := by decide +kernel
theorem boot_ty_str : bootBuiltins "str" = some (.type "str") := by decide +kernel
theorem boot_ty_dict : bootBuiltins "dict" = some (.type "dict") := by decide +kernel
/-! ### repr of data with dicts -/
mutual
/-- a datum read off the heap; no dict of it is that of the modules -/
inductive RdN (h : Heap) : Value → PyData → Prop
  | none : RdN h .none .none
  | bool (b : Bool) : RdN h (.bool b) (.bool b)
  | int (i : Int) (t : Tok) : RdN h (.int i t) (.int i)
  | str (x : Str) (t : Tok) : RdN h (.str x t) (.str x)
  | list {a : Addr} {o : Obj} {vs : Array Value} {n : Nat} {xs : List PyData} (h1 : h.get? a = some o) (h2 : o.cls = .type "list") (h3 : o.data = .seq vs n) (h4 : RdNs h vs.toList xs) : RdN h (.ref a) (.list xs)
  | tuple {a : Addr} {o : Obj} {vs : Array Value} {n : Nat} {xs : List PyData} (h1 : h.get? a = some o) (h2 : o.cls = .type "tuple") (h3 : o.data = .seq vs n) (h4 : RdNs h vs.toList xs) : RdN h (.ref a) (.tuple xs)
  | dict {a : Addr} {o : Obj} {es : Array DictEntry} {n : Nat} {kvs : List (PyData × PyData)} (ns : (a == sysModules) = false) (h1 : h.get? a = some o) (h2 : o.cls = .type "dict") (h3 : o.data = .dict es n)
      (h4 : RdNs h (es.toList.map (·.key)) (kvs.map (·.1))) (h5 : RdNs h (es.toList.map (·.val)) (kvs.map (·.2))) : RdN h (.ref a) (.dict kvs)
inductive RdNs (h : Heap) : List Value → List PyData → Prop
  | nil : RdNs h [] []
  | cons {v : Value} {vs : List Value} {d : PyData} {ds : List PyData} (r : RdN h v d) (rs : RdNs h vs ds) : RdNs h (v :: vs) (d :: ds)
end
section
variable {prog : Program} {w : World} {h₀ : Heap}
mutual
theorem RdN.reads : ∀ {v : Value} {d : PyData}, RdN h₀ v d → ∃ as, Reads h₀ v d as
  | _, _, .none => ⟨_, .none⟩
  | _, _, .bool b => ⟨_, .bool b⟩
  | _, _, .int i t => ⟨_, .int i t⟩
  | _, _, .str x t => ⟨_, .str x t⟩
  | _, _, .list h1 h2 h3 h4 => let ⟨_, r⟩ := RdNs.reads h4; ⟨_, .list h1 h2 h3 r⟩
  | _, _, .tuple h1 h2 h3 h4 => let ⟨_, r⟩ := RdNs.reads h4; ⟨_, .tuple h1 h2 h3 r⟩
  | _, _, .dict _ h1 h2 h3 h4 h5 => let ⟨_, r⟩ := RdNs.reads h4; let ⟨_, r'⟩ := RdNs.reads h5; ⟨_, .dict h1 h2 h3 r r'⟩
theorem RdNs.reads : ∀ {vs : List Value} {ds : List PyData}, RdNs h₀ vs ds → ∃ as, ReadsAll h₀ vs ds as
  | _, _, .nil => ⟨_, .nil⟩
  | _, _, .cons r rs => let ⟨_, q⟩ := RdN.reads r; let ⟨_, q'⟩ := RdNs.reads rs; ⟨_, .cons q q'⟩
end
theorem keyLe {kvs : List (PyData × PyData)} (hz : (dictText (PyData.shownKv kvs)).length ≤ sizeLine) : ∀ t ∈ PyData.shownAll (kvs.map (·.1)), t.length ≤ sizeLine := fun t ht => by
  obtain ⟨p, hp, hl⟩ := PyData.shownKv_key_le kvs t ht
  exact Nat.le_trans hl (Nat.le_trans (dictText_mem_le hp) hz)
theorem valLe {kvs : List (PyData × PyData)} (hz : (dictText (PyData.shownKv kvs)).length ≤ sizeLine) : ∀ t ∈ PyData.shownAll (kvs.map (·.2)), t.length ≤ sizeLine := fun t ht => by
  obtain ⟨p, hp, hl⟩ := PyData.shownKv_val_le kvs t ht
  exact Nat.le_trans hl (Nat.le_trans (dictText_mem_le hp) hz)
mutual
theorem RdN.rk : ∀ {v : Value} {d : PyData}, RdN h₀ v d → d.showable = true → d.shown.length ≤ sizeLine → ∃ bs, ReadAtMost h₀ d.depth bs ∧ ReprK prog w bs h₀ d.depth v d.shown
  | _, _, .none, _, _ => ⟨[], (fun _ z => nomatch z), by rw [PyData.shown]; exact .of_is ReprIs.none _ _ _⟩
  | _, _, .bool b, _, _ => ⟨[], (fun _ z => nomatch z), by rw [PyData.shown]; exact .of_is (ReprIs.bool b) _ _ _⟩
  | _, _, .int i t, k, _ => ⟨[], (fun _ z => nomatch z), by rw [PyData.shown]; exact .of_is (ReprIs.int t (by simpa [PyData.showable] using k)) _ _ _⟩
  | _, _, .str x t, _, z => ⟨[], (fun _ z => nomatch z), by rw [PyData.shown] at z ⊢; exact .of_is (ReprIs.str x t z) _ _ _⟩
  | _, _, .list (a := a) (vs := els) (xs := xs) h1 h2 h3 h4, k, z => by
    rw [PyData.shown] at z
    obtain ⟨bs, hb, hk⟩ := RdNs.rk h4 (by simpa [PyData.showable] using k) fun t ht => Nat.le_trans (listText_mem_le ht) z
    obtain ⟨_, r⟩ := RdN.reads (.list h1 h2 h3 h4)
    have lt : PyData.depthAll xs < (PyData.list xs).depth := by rw [PyData.depth]; omega
    have out := not_mem_of_deeper r lt hb
    refine ⟨_, ReadAtMost.cons r (Nat.le_of_lt lt) hb, ?_⟩
    rw [PyData.depth, PyData.shown]
    rcases els with ⟨l⟩
    match l, h3, h4, hk with
    | [], h3, h4, _ =>
      have e : xs = [] := by cases (show RdNs h₀ [] xs from h4); rfl
      subst e
      rw [PyData.shownAll, listText_nil]
      exact .listEmpty h1 h2 h3
    | x :: l, h3, _, hk => exact .list h1 h2 h3 out (by simpa using hk.length_eq) fun i y e => hk.item i y (by simpa using e)
  | _, _, .tuple (a := a) (xs := xs) h1 h2 h3 h4, k, z => by
    rw [PyData.shown] at z
    obtain ⟨bs, hb, hk⟩ := RdNs.rk h4 (by simpa [PyData.showable] using k) fun t ht => Nat.le_trans (tupleText_mem_le ht) z
    obtain ⟨_, r⟩ := RdN.reads (.tuple h1 h2 h3 h4)
    have lt : PyData.depthAll xs < (PyData.tuple xs).depth := by rw [PyData.depth]; omega
    have out := not_mem_of_deeper r lt hb
    refine ⟨_, ReadAtMost.cons r (Nat.le_of_lt lt) hb, ?_⟩
    rw [PyData.depth, PyData.shown]
    exact .tuple h1 h2 h3 out hk
  | _, _, .dict (a := a) (es := es) (kvs := kvs) ns h1 h2 h3 h4 h5, k, z => by
    rw [PyData.shown] at z
    obtain ⟨s1, s2⟩ := PyData.showableKv_split kvs (by simpa [PyData.showable] using k)
    obtain ⟨c1, d1, k1⟩ := RdNs.rk h4 s1 (keyLe z)
    obtain ⟨c2, d2, k2⟩ := RdNs.rk h5 s2 (valLe z)
    obtain ⟨_, r⟩ := RdN.reads (.dict ns h1 h2 h3 h4 h5)
    have lt : PyData.depthKv kvs < (PyData.dict kvs).depth := by rw [PyData.depth]; omega
    have hb := (d1.mono (PyData.depthAll_keys_le kvs)).append (d2.mono (PyData.depthAll_vals_le kvs))
    have out := not_mem_of_deeper r lt hb
    refine ⟨_, ReadAtMost.cons r (Nat.le_of_lt lt) hb, ?_⟩
    rw [PyData.depth, PyData.shown, PyData.shownKv_eq]
    have m1 := k1.more_le (as' := c1 ++ c2) (fun b q => List.mem_append_left _ q) (PyData.depthAll_keys_le kvs)
    have m2 := k2.more_le (as' := c1 ++ c2) (fun b q => List.mem_append_right _ q) (PyData.depthAll_vals_le kvs)
    exact .dict h1 h2 h3 ns out (.of_two es.toList _ _ m1 m2)
theorem RdNs.rk : ∀ {vs : List Value} {ds : List PyData}, RdNs h₀ vs ds → PyData.showableAll ds = true → (∀ t ∈ PyData.shownAll ds, t.length ≤ sizeLine) → ∃ bs, ReadAtMost h₀ (PyData.depthAll ds) bs ∧ ReprAllK prog w bs h₀ (PyData.depthAll ds) vs (PyData.shownAll ds)
  | _, _, .nil, _, _ => ⟨[], (fun _ z => nomatch z), by rw [PyData.shownAll]; exact .nil⟩
  | _, _, .cons (d := d) (ds := ds) r rs, k, z => by
    rw [PyData.showableAll, Bool.and_eq_true] at k
    rw [PyData.shownAll] at z
    obtain ⟨c1, d1, k1⟩ := RdN.rk r k.1 (z _ List.mem_cons_self)
    obtain ⟨c2, d2, k2⟩ := RdNs.rk rs k.2 fun t ht => z t (List.mem_cons_of_mem _ ht)
    rw [PyData.depthAll, PyData.shownAll]
    have le1 := Nat.le_max_left d.depth (PyData.depthAll ds)
    have le2 := Nat.le_max_right d.depth (PyData.depthAll ds)
    exact ⟨c1 ++ c2, (d1.mono le1).append (d2.mono le2), .cons ((k1.more fun b q => List.mem_append_left _ q).level_le le1) (k2.more_le (fun b q => List.mem_append_right _ q) le2)⟩
end
theorem repr_rdN {a : Addr} {d : PyData} {A : Around} {E : Value → Shared → Prop} {s : Shared} {Q : Value → Shared → Prop} (r : RdN s.heap (.ref a) d) (k : d.showable = true) (z : d.shown.length ≤ sizeLine) (hg : A.guards = some []) (hu : A.units + (d.depth + 1) < cLine)
    (hQ : ∀ h' u tk, (∀ b o, s.heap.get? b = some o → h'.get? b = some o) → Q (.str d.shown u) { s with heap := h', toks := tk }) : wpAny (model prog w) A (call (.builtin "repr") [.ref a]) Q E s := by
  have su : A.in1.units + d.depth < cLine := by show A.units + 1 + d.depth < cLine; omega
  have lb : A.units + 1 < cLine := by omega
  cases r with
  | list h1 h2 h3 h4 =>
    rename_i o els n xs
    rw [PyData.shown] at z hQ
    rw [PyData.depth] at su
    obtain ⟨bs, hb, hk⟩ := RdNs.rk (prog := prog) (w := w) h4 (by simpa [PyData.showable] using k) fun t ht => Nat.le_trans (listText_mem_le ht) z
    obtain ⟨_, r⟩ := RdN.reads (.list h1 h2 h3 h4)
    have out := not_mem_of_deeper r (by rw [PyData.depth]; omega) hb
    refine call_repr_slot lb ⟨o, h1, h2⟩ F.slot_list_repr.toG ?_
    rcases els with ⟨l⟩
    match l, h3, h4, hk with
    | [], h3, h4, _ =>
      have e : xs = [] := by cases (show RdNs s.heap [] xs from h4); rfl
      subst e
      rw [PyData.shownAll, listText_nil] at hQ
      exact call_list_repr_empty ⟨o, h1, h2⟩ h1 h3 ⟨_, _, rfl, hQ s.heap _ _ fun _ _ e => e⟩
    | x :: l, h3, _, hk => exact call_list_reprK h1 h2 h3 out (by simpa using hk.length_eq) (fun i y e => hk.item i y (by simpa using e)) hg (fun b _ => Clear.nil b) su (fun _ _ e => e) (fun h' u tk q => ⟨_, _, rfl, hQ h' u tk q⟩) z
  | tuple h1 h2 h3 h4 =>
    rename_i o els n xs
    rw [PyData.shown] at z hQ
    rw [PyData.depth] at su
    obtain ⟨bs, hb, hk⟩ := RdNs.rk (prog := prog) (w := w) h4 (by simpa [PyData.showable] using k) fun t ht => Nat.le_trans (tupleText_mem_le ht) z
    obtain ⟨_, r⟩ := RdN.reads (.tuple h1 h2 h3 h4)
    have out := not_mem_of_deeper r (by rw [PyData.depth]; omega) hb
    exact call_repr_slot lb ⟨o, h1, h2⟩ F.slot_tuple_repr (call_tuple_reprK h1 h2 h3 out hk hg (fun b _ => Clear.nil b) su (fun _ _ e => e) (fun h' u tk q => ⟨_, _, rfl, hQ h' u tk q⟩) z)
  | dict ns h1 h2 h3 h4 h5 =>
    rename_i o es n kvs
    rw [PyData.shown] at z hQ
    rw [PyData.depth] at su
    obtain ⟨s1, s2⟩ := PyData.showableKv_split kvs (by simpa [PyData.showable] using k)
    obtain ⟨c1, d1, k1⟩ := RdNs.rk (prog := prog) (w := w) h4 s1 (keyLe z)
    obtain ⟨c2, d2, k2⟩ := RdNs.rk (prog := prog) (w := w) h5 s2 (valLe z)
    obtain ⟨_, r⟩ := RdN.reads (.dict ns h1 h2 h3 h4 h5)
    have hb := (d1.mono (PyData.depthAll_keys_le kvs)).append (d2.mono (PyData.depthAll_vals_le kvs))
    have out := not_mem_of_deeper r (by rw [PyData.depth]; omega) hb
    have m1 := k1.more_le (as' := c1 ++ c2) (fun b q => List.mem_append_left _ q) (PyData.depthAll_keys_le kvs)
    have m2 := k2.more_le (as' := c1 ++ c2) (fun b q => List.mem_append_right _ q) (PyData.depthAll_vals_le kvs)
    rw [PyData.shownKv_eq] at z hQ
    exact call_repr_slot lb ⟨o, h1, h2⟩ F.slot_dict_repr (call_dict_reprK h1 h2 h3 ns out (.of_two es.toList _ _ m1 m2) hg (fun b _ => Clear.nil b) su (fun _ _ e => e) (fun h' u tk q => ⟨_, _, rfl, hQ h' u tk q⟩) z)
end
section
variable {pins : List (Addr × Obj)} {s : Shared}
mutual
theorem At.rdN (I : Inv X pins σ H s) : ∀ (d : D) (v : V) (u : Value), At X.K H v d → RelV v u → RdN s.heap u d
  | .none, _, _, h, r => by cases (show _ = V.non from h); cases r; exact .none
  | .bool b, _, _, h, r => by cases (show _ = V.bl b from h); cases r; exact .bool b
  | .int i, _, _, h, r => by cases (show _ = V.int i from h); obtain ⟨t, rfl⟩ := r; exact .int i t
  | .str x, _, _, h, r => by cases (show _ = V.str x from h); obtain ⟨t, rfl⟩ := r; exact .str x t
  | .list ds, _, _, ⟨a, vs, e, hq, al⟩, r => by
    subst e
    obtain rfl := (show _ = Value.ref a from r)
    obtain ⟨_, its, n', rv, ho⟩ := (show ObjOk X.prog X.w H s.heap a (.lst vs) from I.hok a _ hq)
    exact .list ho rfl rfl (by simpa using AtL.rdN I ds vs its al rv)
  | .tuple ds, _, _, ⟨a, vs, e, hq, al⟩, r => by
    subst e
    obtain rfl := (show _ = Value.ref a from r)
    obtain ⟨its, rv, ⟨o, ho, hc, n', hd⟩, _⟩ := I.tuple hq
    exact .tuple ho hc hd (by simpa using AtL.rdN I ds vs its al rv)
  | .dict kvs, _, _, ⟨a, kv, e, hq, al⟩, r => by
    subst e
    obtain rfl := (show _ = Value.ref a from r)
    obtain ⟨_, hs, vs, rk, o, es, ep, ho, hx, hd, hk, hp, _⟩ := (show ObjOk X.prog X.w H s.heap a (.dK kv) from I.hok a _ hq)
    obtain ⟨h1, h2⟩ := AtK.rdN I kvs kv vs es.toList al rk hp
    exact .dict hs ho hx.1 hd h1 h2
theorem AtL.rdN (I : Inv X pins σ H s) : ∀ (ds : List D) (vs : List V) (us : List Value), AtL X.K H vs ds → Vals vs us → RdNs s.heap us ds
  | [], _, _, h, r => by cases (show _ = _ from h); cases r; exact .nil
  | d :: ds, _, _, ⟨v, rest, e, h1, h2⟩, r => by
    subst e
    cases r with
    | cons r1 r2 => exact .cons (At.rdN I d v _ h1 r1) (AtL.rdN I ds rest _ h2 r2)
theorem AtK.rdN (I : Inv X pins σ H s) : ∀ (kvs : List (D × D)) (kv : List (Key × V)) (vs : List (Key × Value)) (es : List DictEntry), AtK X.K H kv kvs → KV kv vs → Pairs (mixKind X.prog X.w) es vs →
    RdNs s.heap (es.map (·.key)) (kvs.map (·.1)) ∧ RdNs s.heap (es.map (·.val)) (kvs.map (·.2))
  | [], _, vs, es, h, r, p => by
    cases (show _ = _ from h)
    cases r
    cases p
    exact ⟨.nil, .nil⟩
  | (k, d) :: kvs, _, vs, es, ⟨q, v, rest, e, h0, h1, h2⟩, r, p => by
    subst e
    cases r with
    | cons r1 r2 =>
      cases p with
      | @cons ent pr es' ps' p1 p2 p3 =>
        obtain ⟨a1, a2⟩ := AtK.rdN I kvs rest _ _ h2 r2 p3
        have c1 := At.rdN I d v _ h1 (p2 ▸ r1.2)
        have hk : RdN s.heap ent.key k := by
          rw [← r1.1] at p1
          rcases keyIs_shape p1 with ⟨i, t, e1, e2⟩ | ⟨x, t, e1, e2⟩
          · have e3 : q = Sum.inl i := e1
            subst e3
            rw [e2]
            cases k with
            | int j => cases h0; exact .int _ _
            | str _ => cases h0
            | none => cases h0
            | bool _ => cases h0
            | list _ => cases h0
            | tuple _ => cases h0
            | dict _ => cases h0
          · have e3 : q = Sum.inr x := e1
            subst e3
            rw [e2]
            cases k with
            | str j => cases h0; exact .str _ _
            | int _ => cases h0
            | none => cases h0
            | bool _ => cases h0
            | list _ => cases h0
            | tuple _ => cases h0
            | dict _ => cases h0
        exact ⟨.cons hk a1, .cons c1 a2⟩
end
end
def showOkD (d : D) : Bool := d.showable && decide (d.depth ≤ 64) && decide (d.shown.length ≤ sizeLine)
def rReprD (K : KF) : List V → Hp → VK → Prop := fun xs H Q => ∃ v d, xs = [v] ∧ At K H v d ∧ showOkD d = true ∧ Q (.str d.shown) H
theorem call_reprD {k : Nat} (hr : Room k X.A) (hg : X.A.guards = some []) : CallR X (.builtin "repr") (rReprD X.K) := by
  intro pins s σ H xs us Q I rs h
  obtain ⟨v, d, rfl, av, ok, q⟩ := h
  obtain ⟨u, rfl, r⟩ := vals1 rs
  unfold showOkD at ok
  simp only [Bool.and_eq_true, decide_eq_true_eq] at ok
  obtain ⟨⟨c2, c3⟩, c4⟩ := ok
  have rd := At.rdN I d v u av r
  have hu := hr.un
  match d, av, rd, c2, c4, q with
  | .none, av, rd, c2, c4, q => cases rd; exact PySem.P.repr_of_none ⟨.str _, H, I.tok _, ⟨_, rfl⟩, by simpa [PyData.shown] using q⟩
  | .bool b, av, rd, c2, c4, q => cases rd; exact PySem.P.repr_of_bool ⟨.str _, H, I.tok _, ⟨_, rfl⟩, by simpa [PyData.shown] using q⟩
  | .int i, av, rd, c2, c4, q => cases rd; exact PySem.P.repr_of_int (by simpa [PyData.showable] using c2) ⟨.str _, H, I.tok _, ⟨_, rfl⟩, by simpa [PyData.shown] using q⟩
  | .str z, av, rd, c2, c4, q => cases rd; exact PySem.P.repr_of_str ⟨.str _, H, I.tok _, ⟨_, rfl⟩, by simpa [PyData.shown] using q⟩ (by simpa [PyData.shown] using c4)
  | .list ds, ⟨a, _, e, _, _⟩, rd, c2, c4, q =>
    subst e
    obtain rfl := (show _ = Value.ref a from r)
    exact repr_rdN rd c2 c4 hg (by omega) fun h' u tk hk => ⟨.str _, H, I.kept (t' := tk) hk, ⟨_, rfl⟩, q⟩
  | .tuple ds, ⟨a, _, e, _, _⟩, rd, c2, c4, q =>
    subst e
    obtain rfl := (show _ = Value.ref a from r)
    exact repr_rdN rd c2 c4 hg (by omega) fun h' u tk hk => ⟨.str _, H, I.kept (t' := tk) hk, ⟨_, rfl⟩, q⟩
  | .dict kvs, ⟨a, _, e, _, _⟩, rd, c2, c4, q =>
    subst e
    obtain rfl := (show _ = Value.ref a from r)
    exact repr_rdN rd c2 c4 hg (by omega) fun h' u tk hk => ⟨.str _, H, I.kept (t' := tk) hk, ⟨_, rfl⟩, q⟩
def fReprD : List D → Option D
  | [d] => if showOkD d = true then some (.str d.shown) else Option.none
  | _ => Option.none
theorem b_reprD : BltD X W (rReprD X.K) (mPl fReprD) := by
  refine pl_bltD fun H Q vs ds z hl hv ef k => ?_
  match ds, ef with
  | [d], ef =>
    have ef : (if showOkD d = true then some (PyData.str d.shown) else Option.none) = some z := ef
    split at ef
    · rename_i ok
      cases ef
      obtain ⟨v, rfl, a⟩ := one_arg hl hv
      exact ⟨v, d, rfl, a, ok, k _ fun G => rfl⟩
    · cases ef
theorem e_reprD {d : D} (h : showOkD d = true) : fReprD [d] = some (.str d.shown) := by unfold fReprD; simp [h]
end DL

end
section
namespace DL
open PySem PySem.Spec L2
variable {δ : DL.Env} {M : Mem}
/-! ### data whose text is short -/
structure Sh (k w : Nat) (d : D) : Prop where
  sh : d.showable = true
  dp : d.depth ≤ k
  ln : d.shown.length ≤ w
theorem Sh.mono {k w k' w' : Nat} {d : D} (h : Sh k w d) (hk : k ≤ k') (hw : w ≤ w') : Sh k' w' d := ⟨h.sh, Nat.le_trans h.dp hk, Nat.le_trans h.ln hw⟩
theorem Sh.none : Sh 0 4 .none := ⟨rfl, Nat.le_refl _, by show (PyData.shown .none).length ≤ 4; decide +kernel⟩
theorem Sh.bool {b : Bool} : Sh 0 5 (.bool b) := ⟨by simp [PyData.showable], by simp [PyData.depth], by cases b <;> decide +kernel⟩
theorem Sh.int {i : Int} (h : i.natAbs < 10 ^ 12) : Sh 0 13 (.int i) := ⟨(Small.int h).sh, by simp [PyData.depth], PyData.shown_int_le h⟩
theorem sh_all {k w : Nat} : ∀ {xs : List D}, (∀ x ∈ xs, Sh k w x) → PyData.showableAll xs = true ∧ PyData.depthAll xs ≤ k ∧ ((PyData.shownAll xs).map (·.length)).sum ≤ xs.length * w ∧ (PyData.shownAll xs).length = xs.length
  | [], _ => ⟨rfl, Nat.zero_le _, Nat.zero_le _, rfl⟩
  | x :: xs, h => by
    obtain ⟨b, e, f, g⟩ := sh_all (xs := xs) fun y hy => h y (List.mem_cons_of_mem _ hy)
    obtain ⟨b', e', f'⟩ := h x List.mem_cons_self
    refine ⟨by simp [PyData.showableAll, b, b'], by simp only [PyData.depthAll]; omega, ?_, by simp [PyData.shownAll, g]⟩
    simp only [PyData.shownAll, List.map_cons, List.sum_cons, List.length_cons]
    rw [Nat.add_mul, Nat.one_mul]
    omega
theorem Sh.tup {k w n : Nat} {xs : List D} (h : ∀ x ∈ xs, Sh k w x) (hn : xs.length ≤ n) : Sh (k + 1) (n * (w + 2) + 3) (.tuple xs) := by
  obtain ⟨b, e, f, g⟩ := sh_all h
  refine ⟨by simpa [PyData.showable] using b, by simp only [PyData.depth]; omega, ?_⟩
  have h2 := tupleText_len_le (PyData.shownAll xs)
  have h3 : xs.length * w ≤ n * w := Nat.mul_le_mul_right _ hn
  simp only [PyData.shown]
  rw [Nat.mul_add]
  omega
theorem Sh.lst {k w n : Nat} {xs : List D} (h : ∀ x ∈ xs, Sh k w x) (hn : xs.length ≤ n) : Sh (k + 1) (n * (w + 2) + 3) (.list xs) := by
  obtain ⟨b, e, f, g⟩ := sh_all h
  refine ⟨by simpa [PyData.showable] using b, by simp only [PyData.depth]; omega, ?_⟩
  have h2 := listText_len_le (PyData.shownAll xs)
  have h3 : xs.length * w ≤ n * w := Nat.mul_le_mul_right _ hn
  simp only [PyData.shown]
  rw [Nat.mul_add]
  omega
theorem Sh.dct {k w : Nat} {q x : D} (h : Sh k w x) (hq : Sh 0 20 q) : Sh (k + 1) (w + 30) (.dict [(q, x)]) := by
  have hd1 : PyData.depth q = 0 := Nat.le_zero.mp hq.dp
  refine ⟨by simp [PyData.showable, PyData.showableKv, h.sh, hq.sh], by simp [PyData.depth, PyData.depthKv, hd1]; exact h.dp, ?_⟩
  have h2 := dictText_len_le (PyData.shownKv [(q, x)])
  have e2 : (q.shown ++ ": " ++ x.shown).length = q.shown.length + 2 + x.shown.length := by
    rw [strLen_append, strLen_append]; rfl
  have := h.ln
  have := hq.ln
  simp only [PyData.shown]
  simp only [PyData.shownKv, List.map_cons, List.sum_cons, List.length_cons, List.map_nil, List.sum_nil, List.length_nil] at h2 ⊢
  omega
theorem Sh.okD {k w : Nat} {d : D} (h : Sh k w d) (hk : k ≤ 64) (hw : w ≤ 16000000) : showOkD d = true := by
  unfold showOkD
  rw [h.sh, decide_eq_true (Nat.le_trans h.dp hk), decide_eq_true (Nat.le_trans h.ln (line16' hw))]; rfl
theorem Sh.rep {k w : Nat} {d : D} (h : Sh k w d) (hk : k ≤ 64) (hw : w ≤ 16000000) : fReprD [d] = some (.str d.shown) := e_reprD (h.okD hk hw)
theorem bnd_ok {α β : Type} {f : Sm α} {g : α → Sm β} {a : α} {δ δ' : DL.Env} {M M' : Mem} (h : f δ M = .ok a δ' M') : bnd f g δ M = g a δ' M' := by rw [e_bnd, h]
theorem seq_nx {f g : Sm Fl} {δ δ' : DL.Env} {M M' : Mem} (h : f δ M = .ok .nx δ' M') : mSeq f g δ M = g δ' M' := bnd_ok h
theorem body_rt {n : Nat} {f : Sm Fl} {ts : List T} {r : T} {δ' : DL.Env} {M M' : Mem} (h : f (ts.map some ++ List.replicate n Option.none) M = .ok (.rt r) δ' M') : mBody n f ts M = .ok r [] M' := by rw [e_body, h]
theorem set_ok {i : Nat} {f : Sm T} {t r : T} {δ δ1 δ2 : DL.Env} {M M1 M2 : Mem} (h : f δ M = .ok t δ1 M1) (ho : mOwn t δ1 M1 = .ok r δ2 M2) (hi : i < δ2.length) : mSet i f δ M = .ok .nx (δ2.set i (some r)) M2 := by
  rw [e_set, bnd_ok h, bnd_ok ho, if_pos hi]
theorem tuple_ok {f : Sm T} {xs : List D} {δ δ' : DL.Env} {M M' : Mem} (h : f δ M = .ok (.con (.lst xs)) δ' M') : mBlt (mBT fTuple) (mCons f mNil) δ M = .ok (.d (.tuple xs)) δ' M' := by
  rw [e_blt, e_bnd, e_cons, e_bnd, h]; rfl
theorem ret_ok {f : Sm T} {t r : T} {δ δ1 δ2 : DL.Env} {M M1 M2 : Mem} (h : f δ M = .ok t δ1 M1) (ho : mOwn t δ1 M1 = .ok r δ2 M2) : mRet f δ M = .ok (.rt r) δ2 M2 := by
  rw [e_retS, bnd_ok h, bnd_ok ho]; rfl
theorem frz_ok {f : Sm T} {t : T} {r : Res T} {δ δ1 : DL.Env} {M M1 : Mem} (h : f δ M = .ok t δ1 M1) (hf : mFrz t δ1 M1 = r) : bnd f mFrz δ M = r := (bnd_ok h).trans hf
/-! ### comprehensions and loops without a change of the memory -/
theorem lcF_map {vs : List Nat} {tg : T → Sm Unit} {te : Sm T} {F : D → D} {δ0 : DL.Env} {M : Mem} :
    ∀ (ds acc : List D), (∀ d ∈ ds, ∃ δ1 δ2, tg (.d d) δ0 M = .ok () δ1 M ∧ (bnd te mFrz) δ1 M = .ok (.d (F d)) δ2 M ∧ wipeE δ2 vs = δ0) → lcF vs tg (ret true) te ds acc δ0 M = .ok (acc ++ ds.map F) δ0 M
  | [], acc, _ => by simp [lcF]
  | d :: ds, acc, h => by
    obtain ⟨δ1, δ2, e1, e2, e3⟩ := h d List.mem_cons_self
    have e4 := lcF_map ds (acc ++ [F d]) fun x hx => h x (List.mem_cons_of_mem _ hx)
    unfold lcF
    simp only [e1]
    unfold bnd at e2
    cases ete : te δ1 M with
    | ok a δ3 M3 =>
      simp only [ete] at e2
      simp only [bnd, ret, if_pos, ete, e2, e3, e4, List.append_assoc, List.singleton_append, List.map_cons]
    | ex a b c => simp only [ete] at e2; cases e2
    | bad => simp only [ete] at e2; cases e2
theorem mLc_map {vs : List Nat} {g : Sm (List D)} {tg : T → Sm Unit} {te : Sm T} {F : D → D} {δ1 : DL.Env} {M M1 : Mem} {ds : List D} (hg : g δ M = .ok ds δ1 M1) (hl : ds.length ≤ 16000000)
    (step : ∀ d ∈ ds, ∃ δ2 δ3, tg (.d d) (wipeE δ1 vs) M1 = .ok () δ2 M1 ∧ (bnd te mFrz) δ2 M1 = .ok (.d (F d)) δ3 M1 ∧ wipeE δ3 vs = wipeE δ1 vs) :
    mLc vs g tg (ret true) te δ M = .ok (.con (.lst (ds.map F))) (mergeE δ1 (wipeE δ1 vs) vs) M1 := by
  have e := lcF_map ds [] step
  unfold mLc bnd
  simp only [hg, if_pos hl, e, lcEnd, wipeE_length, if_pos, List.nil_append]
/-- with a test -/
theorem lcF_filter {vs : List Nat} {tg : T → Sm Unit} {tt : Sm Bool} {te : Sm T} {B : D → Bool} {F : D → D} {δ0 : DL.Env} {M : Mem} :
    ∀ (ds acc : List D), (∀ d ∈ ds, ∃ δ1 δ2, tg (.d d) δ0 M = .ok () δ1 M ∧ tt δ1 M = .ok (B d) δ2 M ∧ (B d = false → wipeE δ2 vs = δ0) ∧ (B d = true → ∃ δ3, (bnd te mFrz) δ2 M = .ok (.d (F d)) δ3 M ∧ wipeE δ3 vs = δ0)) →
      lcF vs tg tt te ds acc δ0 M = .ok (acc ++ (ds.filter B).map F) δ0 M
  | [], acc, _ => by simp [lcF]
  | d :: ds, acc, h => by
    obtain ⟨δ1, δ2, e1, e2, e3, e4⟩ := h d List.mem_cons_self
    have ih := fun acc => lcF_filter ds acc fun x hx => h x (List.mem_cons_of_mem _ hx)
    unfold lcF
    simp only [e1]
    cases hb : B d with
    | false =>
      rw [hb] at e2
      simp only [bnd, e2, Bool.false_eq_true, if_false, e3 hb, ih]
      rw [List.filter_cons_of_neg (by simp [hb])]
    | true =>
      rw [hb] at e2
      obtain ⟨δ3, e5, e6⟩ := e4 hb
      unfold bnd at e5
      cases ete : te δ2 M with
      | ok a δ4 M4 =>
        simp only [ete] at e5
        simp only [bnd, e2, if_pos, ete, e5, e6, ih]
        rw [List.filter_cons_of_pos hb]
        simp
      | ex a b c => simp only [ete] at e5; cases e5
      | bad => simp only [ete] at e5; cases e5
theorem mLc_filter {vs : List Nat} {g : Sm (List D)} {tg : T → Sm Unit} {tt : Sm Bool} {te : Sm T} {B : D → Bool} {F : D → D} {δ1 : DL.Env} {M M1 : Mem} {ds : List D} (hg : g δ M = .ok ds δ1 M1) (hl : ds.length ≤ 16000000)
    (step : ∀ d ∈ ds, ∃ δ2 δ3, tg (.d d) (wipeE δ1 vs) M1 = .ok () δ2 M1 ∧ tt δ2 M1 = .ok (B d) δ3 M1 ∧ (B d = false → wipeE δ3 vs = wipeE δ1 vs) ∧ (B d = true → ∃ δ4, (bnd te mFrz) δ3 M1 = .ok (.d (F d)) δ4 M1 ∧ wipeE δ4 vs = wipeE δ1 vs)) :
    mLc vs g tg tt te δ M = .ok (.con (.lst ((ds.filter B).map F))) (mergeE δ1 (wipeE δ1 vs) vs) M1 := by
  have e := lcF_filter ds [] step
  unfold mLc bnd
  simp only [hg, if_pos hl, e, lcEnd, wipeE_length, if_pos, List.nil_append]
/-- a tree by a comprehension -/
theorem lcFD_map {vs : List Nat} {tg : T → Sm Unit} {te : Sm T} {F : D → List D} {δ0 : DL.Env} {M : Mem} :
    ∀ (ds acc : List D), (∀ d ∈ ds, ∃ δ1 t δ2, tg (.d d) δ0 M = .ok () δ1 M ∧ te δ1 M = .ok t δ2 M ∧ mDeep t = some (F d, .list (F d)) ∧ wipeE δ2 vs = δ0) → lcFD vs tg te ds acc δ0 M = .ok (acc ++ ds.map fun d => .list (F d)) δ0 M
  | [], acc, _ => by simp [lcFD]
  | d :: ds, acc, h => by
    obtain ⟨δ1, t, δ2, e1, e2, e3, e4⟩ := h d List.mem_cons_self
    have e5 := lcFD_map ds (acc ++ [.list (F d)]) fun x hx => h x (List.mem_cons_of_mem _ hx)
    unfold lcFD
    simp only [e1, bnd, e2, e3, e4, e5]
    simp
theorem mLcD_map {vs : List Nat} {g : Sm (List D)} {tg : T → Sm Unit} {te : Sm T} {F : D → List D} {δ1 : DL.Env} {M M1 : Mem} {ds : List D} (hg : g δ M = .ok ds δ1 M1) (hl : ds.length ≤ 16000000)
    (step : ∀ d ∈ ds, ∃ δ2 t δ3, tg (.d d) (wipeE δ1 vs) M1 = .ok () δ2 M1 ∧ te δ2 M1 = .ok t δ3 M1 ∧ mDeep t = some (F d, .list (F d)) ∧ wipeE δ3 vs = wipeE δ1 vs) :
    mLcD vs g tg te δ M = .ok (.deep (ds.map fun d => .list (F d))) (mergeE δ1 (wipeE δ1 vs) vs) M1 := by
  have e := lcFD_map ds [] step
  unfold mLcD bnd
  simp only [hg, if_pos hl, e, lcEndD, wipeE_length, if_pos, List.nil_append]
/-! ### encodings -/
theorem all_enc {α : Type} {enc : α → D} {P : α → Prop} : ∀ {ds : List D}, (∀ d ∈ ds, ∃ a, d = enc a ∧ P a) → ∃ as : List α, ds = as.map enc ∧ ∀ a ∈ as, P a
  | [], _ => ⟨[], rfl, fun _ h => nomatch h⟩
  | d :: ds, h => by
    obtain ⟨a, e, p⟩ := h d List.mem_cons_self
    obtain ⟨as, e2, p2⟩ := all_enc (ds := ds) fun x hx => h x (List.mem_cons_of_mem _ hx)
    refine ⟨a :: as, by rw [e, e2]; rfl, fun b hb => ?_⟩
    rcases List.mem_cons.mp hb with rfl | hb
    · exact p
    · exact p2 b hb
theorem numD_mem {xs : List D} {d : D} (h : d ∈ numD xs) : ∃ (i : Nat) (x : D), d = .tuple [.int i, x] ∧ xs[i]? = some x := by
  obtain ⟨i, hi⟩ := List.mem_iff_getElem?.mp h
  obtain ⟨x, hx, rfl⟩ := numD_at hi
  exact ⟨i, x, rfl, hx⟩
theorem stD_ok {i : Nat} {fs : List (DL.Env → Option Int)} {y : D} {ds ds' : List D} {ns : List Int} (h1 : δ[i]? = some (some (.deep ds))) (h2 : fs.mapM (fun f => f δ) = some ns) (ny : notList y = true) (nn : ∀ n ∈ ns, 0 ≤ n)
    (hd : dset (ns.map Int.toNat) ds y = some ds') : mStD i fs (.d y) δ M = .ok () (δ.set i (some (.deep ds'))) M := by
  unfold mStD
  simp only [h1, h2]
  rw [if_pos ⟨ny, List.all_eq_true.mpr fun n hn => decide_eq_true (nn n hn)⟩]
  simp only [hd]
@[simp] theorem e_vwB {i : Nat} : vw (.bor i) δ M = (match δ[i]? with
    | some (some (.con c)) => c.sD
    | some (some (.d x)) => some x
    | _ => Option.none) := rfl
@[simp] theorem e_ownB {i : Nat} : mOwn (.bor i) δ M = (match δ[i]? with
    | some (some (.con c)) => .ok (.con c) (δ.set i none) M
    | some (some (.deep c)) => .ok (.deep c) (δ.set i none) M
    | some (some (.d x)) => .ok (.d x) δ M
    | _ => .bad) := rfl
@[simp] theorem e_frzB {i : Nat} : mFrz (.bor i) δ M = (match δ[i]? with
    | some (some (.con c)) => (match c.sD with
      | some x => .ok (.d x) (δ.set i (some (.d x))) M
      | Option.none => .bad)
    | some (some (.deep ds)) => .ok (.d (.list ds)) (δ.set i (some (.d (.list ds)))) M
    | some (some (.d x)) => .ok (.d x) δ M
    | _ => .bad) := rfl
@[simp] theorem e_conB {i : Nat} : conOf (.bor i) δ M = (match δ[i]? with
    | some (some (.con c)) => some c
    | _ => Option.none) := rfl
@[simp] theorem e_putEB {i : Nat} {c : C} : putE (.bor i) c δ = δ.set i (some (.con c)) := rfl
@[simp] theorem e_putMB {i : Nat} {c : C} : putM (.bor i) c M = M := rfl
@[simp] theorem e_isLst {o : T} : isLst o δ M = (match conOf o δ M with
  | some (.lst _) => true
  | _ => false) := rfl
@[simp] theorem e_meth {fo : Sm T} {fa : Sm (List T)} {F : List D → List D → Option (List D × D)} : mMeth fo fa F δ M = bnd fo (fun o => fun δ M =>
  if isLst o δ M = true then (bnd fa fun ts => fun δ M =>
    match conOf o δ M with
    | some (.lst xs) => (match (allD ts).bind fun ds => F xs ds with
      | some (xs', z) => .ok (.d z) (putE o (.lst xs') δ) (putM o (.lst xs') M)
      | Option.none => .bad)
    | _ => .bad) δ M else .bad) δ M := rfl
@[simp] theorem e_isL {o : T} : isL o δ M = (match vw o δ M with
  | some (.list _) => true
  | _ => false) := rfl
end DL

end
section
namespace DL
open PySem PySem.Spec L2
variable {X : Cx} {W : WX} {K : KF} {H G : Hp} {σ : St} {δ : DL.Env} {τ : List (V × T)} {fs : List Fram} {M : Mem} {v u : V} {t : T} {e : Expr} {pos : Pos}
/-! ### a, b, .. = a list or a tuple -/
def mGtA (n : Nat) (g : List D → Sm Unit) : T → Sm Unit := fun t => match t with
  | .d (.tuple ds) => if ds.length = n then g ds else fail
  | .d (.list ds) => if ds.length = n then g ds else fail
  | .con (.lst ds) => if ds.length = n then g ds else fail
  | _ => fail
theorem qg_tupA {es : List Expr} {k n : Nat} {g : List D → Sm Unit} (hc : X.calm = true) (h : QGs X es g) (hn : (assignEach es X.env).length = n := by rfl) (hst : (assignEach es X.env).findIdx? (·.1) = none := by rfl) :
    QG X (.Tuple es k pos) (mGtA n g) := by
  refine ⟨fun pins s σ H v u Q I r h' => ?_⟩
  obtain ⟨t, δ, τ, fs, M, nt, nb, rp, q⟩ := h'
  cases t with
  | d x =>
    cases x with
    | tuple ds =>
      refine (pg_tup hc h hn hst).run pins s σ H v u Q I r ?_
      unfold mGtA at q
      simp only at q
      split at q
      · rename_i hl
        obtain ⟨G, ow, ι, y⟩ := rp
        obtain ⟨a, vs, e, sq, al⟩ := y.top
        have hlen := al.length
        exact ⟨a, vs, e, SqT.grow y.sub sq, by omega, ds, δ, τ, fs, M, hlen, nb, ⟨G, ow, ι, y.pop.pushAll al⟩, q⟩
      · exact q.elim
    | list ds =>
      refine (pg_unl hc h hn hst).run pins s σ H v u Q I r ?_
      unfold mGtA at q
      simp only at q
      split at q
      · rename_i hl
        obtain ⟨G, ow, ι, y⟩ := rp
        obtain ⟨a, vs, e, sq, al⟩ := y.top
        have hlen := al.length
        exact ⟨a, vs, e, SqL.of (y.sub _ _ sq), by omega, ds, δ, τ, fs, M, hlen, nb, ⟨G, ow, ι, y.pop.pushAll al⟩, q⟩
      · exact q.elim
    | _ => exact q.elim
  | con c =>
    cases c with
    | lst ds =>
      refine (pg_unl hc h hn hst).run pins s σ H v u Q I r ?_
      unfold mGtA at q
      simp only at q
      split at q
      · rename_i hl
        obtain ⟨G, ow, ι, y⟩ := rp
        obtain ⟨a, e, oa, vs, ha, al⟩ := y.top
        have hlen := al.length
        exact ⟨a, vs, e, SqL.of ha, by omega, ds, δ, τ, fs, M, hlen, nb, ⟨G, ow, ι, y.pop.pushAll al⟩, q⟩
      · exact q.elim
    | _ => exact q.elim
  | _ => exact q.elim
@[simp] theorem e_gtA {n : Nat} {g : List D → Sm Unit} {ds : List D} : mGtA n g (.con (.lst ds)) δ M = if ds.length = n then g ds δ M else .bad := by
  unfold mGtA; simp only; split <;> rfl
@[simp] theorem e_gtAd {n : Nat} {g : List D → Sm Unit} {ds : List D} : mGtA n g (.d (.list ds)) δ M = if ds.length = n then g ds δ M else .bad := by
  unfold mGtA; simp only; split <;> rfl
@[simp] theorem e_gtAt {n : Nat} {g : List D → Sm Unit} {ds : List D} : mGtA n g (.d (.tuple ds)) δ M = if ds.length = n then g ds δ M else .bad := by
  unfold mGtA; simp only; split <;> rfl
/-! ### and, or, not as values; chains -/
@[simp] theorem e_andV {f g : Sm T} : mAndV f g δ M = bnd f (fun t => match t with
  | .d (.bool b) => if b = true then g else ret (.d (.bool false))
  | _ => fail) δ M := rfl
@[simp] theorem e_orV {f g : Sm T} : mOrV f g δ M = bnd f (fun t => match t with
  | .d (.bool b) => if b = true then ret (.d (.bool true)) else g
  | _ => fail) δ M := rfl
@[simp] theorem e_notV {f : Sm T} : mNotV f δ M = bnd f (fun t => match t with
  | .d (.bool b) => ret (.d (.bool !b))
  | _ => fail) δ M := rfl
@[simp] theorem e_chn {F F' : D → D → Option D} {f g h : Sm T} : mChain F F' f g h δ M = bnd f (fun x => bnd g fun y => fun δ M =>
  match (vw x δ M).bind fun a => (vw y δ M).bind fun b => F a b with
  | some (.bool true) => (bnd h fun z => fun δ' M' => opt (((vw y δ' M').bind fun b => (vw z δ' M').bind fun c => F' b c).bind fun w => if plain w = true then some (T.d w) else Option.none) δ' M') δ M
  | some (.bool false) => .ok (.d (.bool false)) δ M
  | _ => .bad) δ M := rfl
@[simp] theorem e_neg1 : mNeg (mD (.int 1)) δ M = .ok (.d (.int (-1))) δ M := rfl
theorem fNe_str {s : Str} : fNe (.str s) (.str s) = some (.bool false) := by
  unfold fNe eqOk
  simp [PyData.plain, PyData.depth, PyData.eqv]
end DL

end
section
namespace DL
open PySem PySem.Spec L2
variable {X : Cx} {W : WX} {K : KF} {H G : Hp} {ow : Addr → Option Who} {ι : List Addr} {σ : St} {δ : DL.Env} {τ : List (V × T)} {fs : List Fram} {M : Mem} {v u : V} {t : T} {e e' : Expr} {pos : Pos} {k : Nat}
/-! ### dicts: keys ints and texts -/
def lookD (q : Key) (kvs : List (D × D)) : Option D := (kvs.find? fun p => decide (keyOf p.1 = some q)).map (·.2)
def putD (q : Key) (y d : D) (kvs : List (D × D)) : List (D × D) :=
  if (kvs.any fun p => decide (keyOf p.1 = some q)) = true then kvs.map (fun p => if keyOf p.1 = some q then (p.1, d) else p) else kvs ++ [(y, d)]
theorem keyV {q : Key} {x : D} (h : keyOf x = some q) (a : At K G v x) : v = kV q := by
  cases x with
  | int i => cases h; exact a
  | str z => cases h; exact a
  | _ => cases h
theorem AtK.len : ∀ {kvs : List (D × D)} {kv : List (Key × V)}, AtK K G kv kvs → kv.length = kvs.length
  | [], _, h => by rw [show _ = _ from h]; rfl
  | (_, _) :: r, _, ⟨_, _, _, e, _, _, h⟩ => by rw [e, List.length_cons, List.length_cons, AtK.len h]
theorem AtK.look {q : Key} : ∀ {kvs : List (D × D)} {kv : List (Key × V)}, AtK K G kv kvs → (∀ d, lookD q kvs = some d → ∃ v, valV kv q = some v ∧ At K G v d) ∧ (lookD q kvs = none → valV kv q = none)
  | [], kv, h => by
    have : kv = [] := h
    subst this
    exact ⟨fun d e => (nomatch e), fun _ => rfl⟩
  | (x, d) :: r, kv, ⟨p, w, s, e, hk, a, h⟩ => by
    subst e
    obtain ⟨h1, h2⟩ := AtK.look (q := q) h
    by_cases hq : p = q
    · subst hq
      have e : lookD p ((x, d) :: r) = some d := by unfold lookD; rw [List.find?_cons_of_pos (by simp [hk])]; rfl
      rw [e, valV_pos rfl]
      exact ⟨fun z ez => ⟨w, rfl, by cases ez; exact a⟩, fun z => nomatch z⟩
    · have e : lookD q ((x, d) :: r) = lookD q r := by
        unfold lookD
        rw [List.find?_cons_of_neg (by rw [hk]; simpa using fun z => hq z)]
      rw [e, valV_neg hq]
      exact ⟨h1, h2⟩
theorem AtK.isSome {q : Key} {kvs : List (D × D)} {kv : List (Key × V)} (h : AtK K G kv kvs) : (valV kv q).isSome = (lookD q kvs).isSome := by
  obtain ⟨h1, h2⟩ := h.look (q := q)
  cases e : lookD q kvs with
  | none => rw [h2 e]; rfl
  | some d => obtain ⟨v, e2, _⟩ := h1 d e; rw [e2]; rfl
theorem AtK.any {q : Key} : ∀ {kvs : List (D × D)} {kv : List (Key × V)}, AtK K G kv kvs → (kv.any fun p => decide (p.1 = q)) = kvs.any fun p => decide (keyOf p.1 = some q)
  | [], kv, h => by rw [show kv = [] from h]; rfl
  | (x, d) :: r, kv, ⟨p, w, s, e, hk, a, h⟩ => by
    subst e
    rw [List.any_cons, List.any_cons, AtK.any h, hk]
    congr 1
    simp
theorem AtK.app : ∀ {kvs : List (D × D)} {kv : List (Key × V)} {q : Key} {x d : D} {w : V}, AtK K G kv kvs → keyOf x = some q → At K G w d → AtK K G (kv ++ [(q, w)]) (kvs ++ [(x, d)])
  | [], kv, q, x, d, w, h, hk, a => by
    rw [show kv = [] from h]
    exact ⟨q, w, [], rfl, hk, a, rfl⟩
  | (y, z) :: r, kv, q, x, d, w, ⟨p, b, s, e, h1, h2, h3⟩, hk, a => by
    subst e
    exact ⟨p, b, s ++ [(q, w)], rfl, h1, h2, AtK.app h3 hk a⟩
theorem AtK.repl : ∀ {kvs : List (D × D)} {kv : List (Key × V)} {q : Key} {d : D} {w : V}, AtK K G kv kvs → At K G w d → AtK K G (kv.map fun p => if p.1 = q then (p.1, w) else p) (kvs.map fun p => if keyOf p.1 = some q then (p.1, d) else p)
  | [], kv, q, d, w, h, a => by rw [show kv = [] from h]; rfl
  | (y, z) :: r, kv, q, d, w, ⟨p, b, s, e, h1, h2, h3⟩, a => by
    subst e
    have ih := AtK.repl (q := q) h3 a
    simp only [List.map_cons]
    by_cases hq : p = q
    · subst hq
      rw [if_pos rfl, if_pos h1]
      exact ⟨p, w, _, rfl, h1, a, ih⟩
    · rw [if_neg hq, if_neg (by rw [h1]; exact fun z => hq (Option.some.inj z))]
      exact ⟨p, b, _, rfl, h1, h2, ih⟩
theorem AtK.put {kvs : List (D × D)} {kv : List (Key × V)} {q : Key} {x d : D} {w : V} (h : AtK K G kv kvs) (hk : keyOf x = some q) (a : At K G w d) : AtK K G (putK kv q w) (putD q x d kvs) := by
  unfold putK putD
  rw [h.any]
  split
  · exact h.repl a
  · exact h.app hk a
/-! ### in, not in -/
def fInA (g : Bool → Bool) (x c : D) : Option D :=
  match c with
  | .dict kvs => (keyOf x).map fun q => .bool (g (lookD q kvs).isSome)
  | c => fInB g x c
def rInK (g : Bool → Bool) : R2 := fun x y H Q => ∃ a o, y = .ref a ∧ DGet H a x o ∧ Q (.bl (g o.isSome)) H
theorem op_inK (hu : X.A.units + 1 < cLine) : OpR X (compareOp .In) (rInK id) := by
  intro pins s σ H x y w z Q I rx ry h
  obtain ⟨a, o, rfl, g, q⟩ := h
  cases (show z = Value.ref a from ry)
  exact d_in hu I g rx fun s' I' => ⟨.bl o.isSome, H, I', rfl, q⟩
theorem op_notInK (hu : X.A.units + 1 < cLine) : OpR X (compareOp .NotIn) (rInK not) := by
  intro pins s σ H x y w z Q I rx ry h
  obtain ⟨a, o, rfl, g, q⟩ := h
  cases (show z = Value.ref a from ry)
  exact d_notIn hu I g rx fun s' I' => ⟨.bl (!o.isSome), H, I', rfl, q⟩
theorem opd_inA {g : Bool → Bool} : OpD X (fun x y H Q => rInP g X.K x y H Q ∨ rInK g x y H Q) (fInA g) := by
  intro v u H Q a b z ha hb ef q
  cases b with
  | dict kvs =>
    obtain ⟨p, kv, rfl, hp, al⟩ := hb
    unfold fInA at ef
    simp only at ef
    cases hk : keyOf a with
    | none => rw [hk] at ef; cases ef
    | some j =>
      rw [hk] at ef
      cases ef
      refine .inr ⟨p, valV kv j, rfl, ?_, ?_⟩
      · rw [keyV hk ha]; exact DGet.k hp
      · rw [al.isSome]; exact q _ fun _ => rfl
  | _ => exact .inl (opd_inP v u H Q a _ z ha hb ef q)
theorem cd_inA (hr : Room k X.A) : CD X .In (fInA id) := ⟨_, (op_inP hr.units).or (op_inK (by have := hr.units; omega)), opd_inA⟩
theorem cd_notInA (hr : Room k X.A) : CD X .NotIn (fInA not) := ⟨_, (op_notInP hr.units).or (op_notInK (by have := hr.units; omega)), opd_inA⟩
/-! ### d[k] -/
def rIxK : R2 := fun x y H Q => ∃ a w, x = .ref a ∧ DGet H a y (some w) ∧ Q w H
theorem ix_dict (hu : X.A.units + 1 < cLine) : IxR X rIxK := by
  intro value slice pins s σ H x y w z Q I rx ry h hs
  obtain ⟨a, v, rfl, g, q⟩ := h
  cases (show w = Value.ref a from rx)
  have hT := dict_typeIs I g
  have hi := d_getItem (E := X.xe) (Q := EP X pins σ Q) hu I g ry fun w' s3 I3 rw' => ⟨v, H, I3, rw', q⟩
  unfold PyProof.Rows.subscriptTail; refine wpAny_bind ?_; rw [getitemInPython_of_ne hT.not_modules]
  refine wpAny_bind (wpAny_specialOf hT PySem.F.slot_dict_getitem.lookup ?_)
  have last : wpAny (model X.prog X.w) X.A (subscripted slice false (.ref a) z) (fun r s3 => wpAny (model X.prog X.w) X.A (letTemporaryGo value (.ref a) r >>= fun _ => pure r) (EP X pins σ Q) X.xe s3) X.xe s := by
    rw [hs]; exact wpAny_operating (wpAny_mono hi (fun r s3 h3 => wpAny_bind (wpAny_letTemporaryGo (wpAny_pure h3))) fun _ _ x => x)
  first | exact wpAny_pure (wpAny_bind last) | exact wpAny_bind (wpAny_pure (wpAny_bind last)) | exact wpAny_bind last
def fIxA : D → D → Option T := fun a b => match a with
  | .dict kvs => (keyOf b).bind fun q => (lookD q kvs).map T.d
  | a => fIx a b
theorem opt_ixA : OpT X (fun x y H Q => rIx X.K x y H Q ∨ rIxK x y H Q) fIxA := by
  intro σ δ τ fs M v u H G ow ι Q a b z x ha hb ef q
  cases a with
  | dict kvs =>
    obtain ⟨p, kv, rfl, hp, al⟩ := ha
    unfold fIxA at ef
    simp only at ef
    cases hk : keyOf b with
    | none => rw [hk] at ef; cases ef
    | some j =>
      rw [hk, Option.bind_some] at ef
      cases hd : lookD j kvs with
      | none => rw [hd] at ef; cases ef
      | some d =>
        rw [hd] at ef
        cases ef
        obtain ⟨w, ew, aw⟩ := (al.look (q := j)).1 d hd
        refine .inr ⟨p, w, rfl, ?_, q w H ⟨G, ow, ι, x.push (t := .d d) aw⟩⟩
        rw [keyV hk (hb.at x.sub), ← ew]
        exact DGet.k hp
  | _ => exact .inl (opt_ix σ δ τ fs M v u H G ow ι Q _ b z x ha hb ef q)
theorem qe_ixA {f g : Sm T} (hr : Room k X.A) (h : QE X W e f) (h' : QE X W e' g) (hs : PlainIx e' := by exact fun _ _ => rfl) : QE X W (.Subscript e e' pos) (mOpT fIxA f g) :=
  (pe_ix (ix_seq.or (ix_dict (by have := hr.units; omega))) h h' hs).imp fun _ _ _ q => two_opsT opt_ixA q
/-! ### d[k] = v -/
def mStoreA (fo fi : Sm T) : T → Sm Unit := fun t => bnd (mFrz t) fun y => bnd fo fun o => bnd fi fun i => fun δ M =>
  match y, conOf o δ M, i with
  | .d y, some (.lst xs), .d (.int i) => (match ixN xs.length i with
    | some j => .ok () (putE o (.lst (xs.set j y)) δ) (putM o (.lst (xs.set j y)) M)
    | Option.none => .bad)
  | .d y, some (.dct kvs), .d x => (match keyOf x with
    | some q => if kvs.length < 16000000 then .ok () (putE o (.dct (putD q x y kvs)) δ) (putM o (.dct (putD q x y kvs)) M) else .bad
    | Option.none => .bad)
  | _, _, _ => .bad
theorem set_seq (hu : X.A.units + 1 < cLine) : PSet X (fun o i v H Q => L2.rSetL o i v H Q ∨ rSetD o i v H Q) := by
  intro pins s σ H o i v ov iv u Q I ro ri rv h
  rcases h with h | h
  · exact set_list pins s σ H o i v ov iv u Q I ro ri rv h
  · exact set_dict hu pins s σ H o i v ov iv u Q I ro ri rv h
theorem qg_storeA {o i : Expr} {fo fi : Sm T} (hr : Room k X.A) (ho : QE X WF o fo) (hi : QE X WF i fi)
    (ha : ∀ v, assign (.Subscript o i pos) X.env v = (do let ov ← holding [v] (eval o X.env); let iv ← holding [v, ov] (eval i X.env); standAt pos; holding [v, ov, iv] (setItem ov iv v); release [v, ov, iv] []) := by intro _; rfl) :
    QG X (.Subscript o i pos) (mStoreA fo fi) := by
  refine ⟨fun pins s σ H v u Q I r h => (pg_sub ho hi (set_seq (by have := hr.units; omega)) ha).run pins s σ H v u Q I r ?_⟩
  obtain ⟨t, δ, τ, fs, M, nt, nb, rp, q⟩ := h
  have q := bnd_post q
  cases ef : mFrz t δ M with
  | ex a b c => rw [ef] at q; exact q.elim
  | bad => rw [ef] at q; exact q.elim
  | ok y δ1 M1 =>
    rw [ef] at q
    have r1 := rp.frz ef
    refine ⟨δ1, (v, y) :: τ, fs, M1, r1, Res.post_mono (bnd_post q) (fun ot δ2 M2 q2 ov H2 r2 => ?_) fun _ _ _ z => z.elim⟩
    refine ⟨δ2, (ov, ot) :: (v, y) :: τ, fs, M2, r2, Res.post_mono (bnd_post q2) (fun it δ3 M3 q3 iv H3 r3 => ?_) fun _ _ _ z => z.elim⟩
    split at q3
    · rename_i y' xs k e1
      obtain ⟨G, ow, ι, x⟩ := r3
      obtain ⟨a, ea, ⟨us, ha2, al⟩, go⟩ := x.mod x.pop.top e1
      have ek : iv = .int k := x.top
      have ay : At X.K G v y' := x.pop.pop.top
      cases ej : ixN xs.length k with
      | none => rw [ej] at q3; exact q3.elim
      | some j =>
        rw [ej] at q3
        refine .inl ⟨a, us, k, j, ea, ek, ha2, by rw [al.length]; exact ej, q3 σ _ ?_⟩
        exact ⟨G, ow, ι, (go (.lst (xs.set j y')) (.lst (us.set j v)) ⟨us.set j v, upd_same, al.set ay⟩).pop.pop.pop⟩
    · rename_i y' kvs x' e1
      obtain ⟨G, ow, ι, x⟩ := r3
      obtain ⟨a, ea, ⟨kv, ha2, al⟩, go⟩ := x.mod x.pop.top e1
      have ex : At X.K G iv x' := x.top
      have ay : At X.K G v y' := x.pop.pop.top
      cases ej : keyOf x' with
      | none => rw [ej] at q3; exact q3.elim
      | some j =>
        rw [ej] at q3
        simp only at q3
        split at q3
        · rename_i hl
          refine .inr ⟨a, _, ea, ?_, q3 σ _ ⟨G, ow, ι, (go (.dct (putD j x' y' kvs)) (.dK (putK kv j v)) ⟨putK kv j v, upd_same, al.put ej ay⟩).pop.pop.pop⟩⟩
          rw [keyV ej ex]
          exact DPut.k ha2 (by rw [al.len]; exact Nat.lt_of_lt_of_le hl (by decide))
        · exact q3.elim
    · exact q3.elim
/-! ### sorted(d): keys ints -/
def fSortedA : D → Option T
  | .dict kvs => (intsOf (kvs.map (·.1))).bind fun ns => if ns.length < 64 then some (.con (.lst ((sortI ns).map PyData.int))) else none
  | d => fSorted d
end DL

end
section
namespace DL
open PySem PySem.Spec L2
variable {X : Cx} {W : WX} {K : KF} {H G : Hp} {ow : Addr → Option Who} {ι : List Addr} {σ : St} {δ : DL.Env} {τ : List (V × T)} {fs : List Fram} {M : Mem} {v u : V} {t : T} {e e' : Expr} {pos : Pos} {k : Nat}
/-! ### {k: v for target in .. if ..} -/
theorem putD_len (q : Key) (x y : D) (kvs : List (D × D)) : (putD q x y kvs).length ≤ kvs.length + 1 := by
  unfold putD
  split
  · rw [List.length_map]; exact Nat.le_succ _
  · rw [List.length_append]; exact Nat.le_refl _
def dcF (vs : List Nat) (tg : T → Sm Unit) (tt : Sm Bool) (tk tv : Sm T) : List D → List (D × D) → Sm (List (D × D))
  | [], acc => ret acc
  | d :: ds, acc => fun δ M =>
    match tg (.d d) δ M with
    | .ok _ δ1 M1 => (bnd tt fun b => if b = true then bnd tk fun kt => bnd (bnd tv mFrz) fun t => (match kt, t with
        | .d x, .d y => (match keyOf x with
          | some q => fun δ2 M2 => dcF vs tg tt tk tv ds (putD q x y acc) (wipeE δ2 vs) M2
          | none => fail)
        | _, _ => fail) else fun δ2 M2 => dcF vs tg tt tk tv ds acc (wipeE δ2 vs) M2) δ1 M1
    | _ => .bad
def dcEnd (δ : DL.Env) (vs : List Nat) (r : Res (List (D × D))) : Res T :=
  match r with
  | .ok acc δ' M' => if δ'.length = δ.length then .ok (.con (.dct acc)) (mergeE δ δ' vs) M' else .bad
  | _ => .bad
def mDc (vs : List Nat) (g : Sm (List D)) (tg : T → Sm Unit) (tt : Sm Bool) (tk tv : Sm T) : Sm T := bnd g fun ds => fun δ M =>
  if ds.length ≤ 16000000 then dcEnd δ vs (dcF vs tg tt tk tv ds [] (wipeE δ vs) M) else .bad
theorem dcEnd_post {δ : DL.Env} {vs : List Nat} {r : Res (List (D × D))} {k2 : T → DL.Env → Mem → Prop} {x : XD → DL.Env → Mem → Prop} (q : (dcEnd δ vs r).post k2 x) : r.post (fun acc δ' M' => δ'.length = δ.length ∧ k2 (.con (.dct acc)) (mergeE δ δ' vs) M') fun _ _ _ => False := by
  cases r with
  | ok a δ' M =>
    unfold dcEnd at q
    simp only at q
    split at q
    · rename_i h; exact ⟨h, q⟩
    · exact q.elim
  | ex a b c => exact q
  | bad => exact q
theorem Rep.putK2 {a : Addr} {acc : List (D × D)} {x y : D} {w kw : V} {vs : List (Key × V)} {tm : V × T} {q : Key} (h : Rep K H (⟨σ, δ, (w, .d y) :: (kw, .d x) :: tm :: (.ref a, .con (.dct acc)) :: τ⟩ :: fs) M) (ek : keyOf x = some q) (ha : H a = some (.dK vs)) : Rep K (upd H a (.dK (putK vs q w))) (⟨σ, δ, tm :: (.ref a, .con (.dct (putD q x y acc))) :: τ⟩ :: fs) M := by
  obtain ⟨G, ow, ι, z⟩ := h
  have aw : At K G w y := z.top
  obtain ⟨b, eb, ob, vs', hb, al⟩ := z.pop.pop.pop.top
  cases eb
  rw [ha] at hb; cases hb
  have gb := (z.own a _ ob).1
  have rt := z.pop.pop.top
  refine ⟨G, ow, ι, RepG.push (RepG.push (z.pop.pop.pop.pop.chg (fun w => w = .tmp fs.length τ.length) (fun w e => ⟨_, e, Nat.le_refl _⟩) (fun b w e nb => ⟨e, upd_ne ?_⟩) (Same.refl _) (fun b u e => ?_) (fun b w e => ?_)) ?_) ?_⟩
  · intro y2; subst y2; rw [ob] at e; cases e; exact nb rfl
  · by_cases hba : b = a
    · subst hba; rw [gb] at e; cases e
    · rw [upd_ne hba]; exact z.sub _ _ e
  · refine ⟨(z.own b w e).1, ?_⟩
    by_cases hba : b = a
    · subst hba; exact ⟨_, upd_same⟩
    · rw [upd_ne hba]; exact (z.own b w e).2
  · exact ⟨a, rfl, ob, _, upd_same, al.put ek aw⟩
  · refine rt.keep (Same.refl _) (fun b q => ⟨q, upd_ne ?_⟩) (fun _ _ q => q) (fun _ _ q => q)
    intro y2; subst y2
    rw [ob] at q
    have := Option.some.inj q
    injection this with _ e2
    simp at e2
theorem dc_rd {vs : List Nat} {g : Sm (List D)} {tg : T → Sm Unit} {tt : Sm Bool} {tk tv : Sm T} {Q : VK} (q : tE K W (mDc vs g tg tt tk tv) σ H Q) : tDc (tI K W g) (tGw K vs tg) (tT K WF tt) (tE K WF tk) (tE K WF tv) vs σ H Q := by
  obtain ⟨δ, τ, fs, M, r, q⟩ := q
  refine ⟨δ, τ, fs, M, r, Res.post_mono (bnd_post q) (fun ds δ1 M1 q1 J H1 tm ok r1 D hD => ?_) fun _ _ _ z => z⟩
  split at q1
  · rename_i hz
    -- the new list, then the block's frame
    have r2 : Rep K (upd H1 D (.dK [])) (⟨σ, δ1, (.ref D, .con (.dct [])) :: tm :: τ⟩ :: fs) M1 := (let ⟨G, ow, ι, y⟩ := r1; y.dct hD)
    have nb0 : NB [tm, (V.ref D, T.con (.dct []))] := NB.cons ok.nb (NB.cons rfl NB.nil)
    have r3 : Rep K (upd H1 D (.dK [])) (⟨wipe σ vs, wipeE δ1 vs, [tm, (.ref D, .con (.dct []))]⟩ :: ⟨σ, onlyE δ1 vs, τ⟩ :: fs) M1 := Rep.blockIn (τ1 := [tm, (.ref D, .con (.dct []))]) vs r2.swap nb0
    have hlen : σ.length = δ1.length := r1.len
    have q2 := dcEnd_post q1
    refine ⟨fun i m H => m = ds.length - i ∧ i ≤ ds.length ∧ ∃ acc δ' M', acc.length ≤ i ∧ Rep K H (⟨wipe σ vs, δ', [tm, (.ref D, .con (.dct acc))]⟩ :: ⟨σ, onlyE δ1 vs, τ⟩ :: fs) M' ∧
      (dcF vs tg tt tk tv (ds.drop i) acc δ' M').post (fun acc δ' M' => δ'.length = δ1.length ∧ ∀ v H', Rep K H' (⟨σ, mergeE δ1 δ' vs, (v, .con (.dct acc)) :: τ⟩ :: fs) M' → Q v H') fun _ _ _ => False,
      ⟨_, rfl, Nat.zero_le _, [], _, _, Nat.le_refl _, r3, q2⟩, ?_⟩
    rintro i m H2 ⟨rfl, hi, acc, δ2, M2, hacc, r4, q4⟩
    obtain ⟨stop, step⟩ := ok.turn i H2 _ δ2 _ _ M2 r4
    by_cases hlt : i < ds.length
    · have ed : ds[i]? = some ds[i] := List.getElem?_eq_getElem hlt
      obtain ⟨go, yld⟩ := step _ ed
      rw [drop_cons' ed] at q4
      refine .inr ⟨go, fun H' => i + 1 ≤ ds.length ∧ ∃ acc δ' M', acc.length ≤ i + 1 ∧ Rep K H' (⟨wipe σ vs, δ', [tm, (.ref D, .con (.dct acc))]⟩ :: ⟨σ, onlyE δ1 vs, τ⟩ :: fs) M' ∧
        (dcF vs tg tt tk tv (ds.drop (i + 1)) acc δ' M').post (fun acc δ' M' => δ'.length = δ1.length ∧ ∀ v H', Rep K H' (⟨σ, mergeE δ1 δ' vs, (v, .con (.dct acc)) :: τ⟩ :: fs) M' → Q v H') fun _ _ _ => False,
        fun H' n => ⟨ds.length - (i + 1), by omega, rfl, n.1, n.2⟩, fun x H' y => ?_⟩
      have r5 := yld x H' y
      have nb : NB [tm, (V.ref D, T.con (.dct acc))] := NB.cons ok.nb (NB.cons rfl NB.nil)
      unfold dcF at q4
      refine ⟨.d ds[i], δ2, [tm, (.ref D, .con (.dct acc))], _, M2, rfl, nb, r5, ?_⟩
      cases et : tg (.d ds[i]) δ2 M2 with
      | ex a b c => simp only [et] at q4; exact q4.elim
      | bad => simp only [et] at q4; exact q4.elim
      | ok _ δ3 M3 =>
        simp only [et] at q4
        refine fun σ3 H3 ew r6 => ⟨?_, δ3, [tm, (.ref D, .con (.dct acc))], _, M3, r6, Res.post_mono (bnd_post q4) (fun b δ4 M4 q5 H4 r7 => ?_) fun _ _ _ z => z.elim⟩
        · rw [ew]
          apply List.ext_getElem?
          intro j
          simp only [wipe_at]
          split
          · cases σ[j]? <;> rfl
          · rfl
        have ew2 : wipe σ3 vs = wipe σ vs := by
          rw [ew]
          apply List.ext_getElem?
          intro j
          simp only [wipe_at]
          split
          · cases σ[j]? <;> rfl
          · rfl
        cases b with
        | false =>
          have r8 := r7.scrub (vs := vs) nb
          rw [ew2] at r8
          exact ⟨hlt, acc, _, M4, by omega, r8, q5⟩
        | true =>
          simp only [if_true] at q5 ⊢
          refine ⟨δ4, [tm, (.ref D, .con (.dct acc))], _, M4, r7, Res.post_mono (bnd_post q5) (fun kt δ5 M5 q7 kv H5 r8 => ?_) fun _ _ _ z => z.elim⟩
          refine ⟨δ5, (kv, kt) :: [tm, (.ref D, .con (.dct acc))], _, M5, r8, Res.post_mono (bnd_post (bnd_post q7)) (fun vt δ6 M6 q8 w H6 r9 => ?_) fun _ _ _ z => z.elim⟩
          cases ef : mFrz vt δ6 M6 with
          | ex a b c => rw [ef] at q8; exact q8.elim
          | bad => rw [ef] at q8; exact q8.elim
          | ok t2 δ7 M7 =>
            rw [ef] at q8
            have r10 := r9.frz ef
            replace q8 := post_ok.mp q8
            split at q8
            · rename_i x y
              cases ek : keyOf x with
              | none => rw [ek] at q8; exact q8.elim
              | some q =>
                rw [ek] at q8
                have hDl : ∃ us, H6 D = some (.dK us) ∧ us.length = acc.length ∧ kv = kV q := by
                  obtain ⟨G, ow, ι, z⟩ := r10
                  obtain ⟨b, eb, _, us, hb, al⟩ := z.pop.pop.pop.top
                  cases eb
                  exact ⟨us, hb, al.len, keyV ek (show At K G kv x from z.pop.top)⟩
                obtain ⟨us, hus, hul, ekv⟩ := hDl
                refine ⟨us, q, ekv, hus, line16 (by omega), hlt, putD q x y acc, _, M7, Nat.le_trans (putD_len _ _ _ _) (by omega), ?_, q8⟩
                have r11 := (r10.putK2 ek hus).scrub (vs := vs) (NB.cons ok.nb (NB.cons rfl NB.nil))
                rw [ew2] at r11
                exact r11
            · exact q8.elim
    · refine .inl ⟨stop (by omega), ?_⟩
      rw [List.drop_eq_nil_of_le (by omega)] at q4
      unfold dcF at q4
      exact q4.2 _ H2 (Rep.blockOut (σ1 := wipe σ vs) (Rep.swap r4).nip rfl (fun j hj => by rw [wipe_at, if_neg hj]) q4.1.symm hlen)
  · exact q1.elim
theorem qe_dc {kx vx tg iter : Expr} {ifs : List Expr} {scope : Scope} {own : List (Str × Nat)} {g : Sm (List D)} {f : T → Sm Unit} {tt : Sm Bool} {tk tv : Sm T} (hc : X.calm = true) (hN : X.N.Nodup) (hi : QI X W tg iter g) (ok : BlkOk X.N X.env.scope scope own)
    (hg : ∀ (s : Shared) (H : Hp) (C : Addr) (cl : List (Str × Addr)) (fp : List Addr), QGw (X.blk s H scope (compEnvC scope cl C X.env) fp) (own.map (·.2)) tg f)
    (ht : ∀ (s : Shared) (H : Hp) (C : Addr) (cl : List (Str × Addr)) (fp : List Addr), QTs (X.blk s H scope (compEnvC scope cl C X.env) fp) ifs tt)
    (hk : ∀ (s : Shared) (H : Hp) (C : Addr) (cl : List (Str × Addr)) (fp : List Addr), QE (X.blk s H scope (compEnvC scope cl C X.env) fp) WF kx tk)
    (he : ∀ (s : Shared) (H : Hp) (C : Addr) (cl : List (Str × Addr)) (fp : List Addr), QE (X.blk s H scope (compEnvC scope cl C X.env) fp) WF vx tv) (hs : ∀ x, foldedSetIterable iter X.env x = pure x := by intro _; rfl) :
    QE X W (.DictComp kx vx [⟨tg, iter, ifs, 0⟩] scope pos) (mDc (own.map (·.2)) g f tt tk tv) :=
  (pe_dc hc hN hi ok hg ht hk he hs).imp fun _ _ _ q => dc_rd q
end DL

end
section
namespace DL
open PySem PySem.Spec L2
variable {X : Cx} {W : WX} {K : KF} {H G : Hp} {ow : Addr → Option Who} {ι : List Addr} {σ : St} {δ : DL.Env} {τ : List (V × T)} {fs : List Fram} {M : Mem} {v u : V} {t : T} {e e' : Expr} {pos : Pos} {k : Nat}
/-! ### sorted(d) -/
def fSortedK : D → Option T
  | .dict kvs => (intsOf (kvs.map (·.1))).bind fun ns => if ns.length < 64 then some (.con (.lst ((sortI ns).map PyData.int))) else none
  | d => fSorted d
theorem AtK.ints : ∀ {kvs : List (D × D)} {kv : List (Key × V)} {ns : List Int}, AtK K G kv kvs → intsOf (kvs.map (·.1)) = some ns → kv.map (·.1) = ns.map Sum.inl
  | [], kv, ns, h, e => by
    rw [show kv = [] from h]
    cases e; rfl
  | (x, d) :: r, kv, ns, ⟨p, w, s, e1, hk, a, h⟩, e => by
    subst e1
    have e2 := intsOf_eq e
    cases ns with
    | nil => simp at e2
    | cons n ns =>
      simp only [List.map_cons, List.cons.injEq] at e2 ⊢
      obtain ⟨rfl, e3⟩ := e2
      cases hk
      refine ⟨rfl, AtK.ints h ?_⟩
      rw [List.map_cons] at e
      unfold intsOf at e
      cases e4 : intsOf (r.map (·.1)) with
      | none => rw [e4] at e; cases e
      | some m => rw [e4] at e; cases e; rfl
def rSortedA (K : KF) : List V → Hp → VK → Prop := fun xs H Q => rSortedI K xs H Q ∨ ∃ (a : Addr) (kvs : List (Key × V)) (ks : List Int), xs = [.ref a] ∧ Rd H a (.dK kvs) ∧ kvs.map (·.1) = ks.map Sum.inl ∧ ks.length < 64 ∧
    ∀ (ys : List Int) (p : Addr), ys.Perm ks → ys.Pairwise (· ≤ ·) → H p = none → Q (.ref p) (upd H p (.lst (ys.map V.int)))
theorem cr_sortedA (hc : X.calm = true) : CallR X (.builtin "sorted") (rSortedA X.K) := cr_sortedI.or (call_sortedDI hc)
theorem b_sortedA : BltD X W (rSortedA X.K) (mBT fSortedK) := by
  intro σ δ τ fs M H Q vs ts hl rp q
  obtain ⟨v, d, z, G, ow, ι, e1, x, av, ef, q2⟩ := mBT_post hl rp q
  cases d with
  | dict kvs =>
    obtain ⟨a, kv, rfl, ha, al⟩ := av
    unfold fSortedK at ef
    simp only at ef
    cases en : intsOf (kvs.map (·.1)) with
    | none => rw [en] at ef; cases ef
    | some ns =>
      rw [en, Option.bind_some] at ef
      split at ef
      · rename_i h64
        cases ef
        refine .inr ⟨a, kv, ns, e1, .inl ha, al.ints en, h64, fun ys p pm ri hp => ?_⟩
        rw [ris_uniq (pm.trans (sortI_perm ns).symm) ri (sortI_ris ns)]
        exact q2 _ _ (x.lst (vs := (sortI ns).map V.int) ints_atL hp)
      · cases ef
  | list ds =>
    refine .inl ?_
    obtain ⟨a, us, e, h, al⟩ := av
    cases en : intsOf ds with
    | none => simp [fSortedK, fSorted, en] at ef
    | some ns =>
      have ez : z = .con (.lst ((sortI ns).map PyData.int)) := by simpa [fSortedK, fSorted, en] using ef.symm
      subst ez
      rw [intsOf_eq en] at al
      rw [atL_ints al] at h
      refine ⟨a, ns, e1.trans (congrArg (fun y => [y]) e), SqL.of h, fun ns' p pm ri hp => ?_⟩
      rw [ris_uniq (pm.trans (sortI_perm ns).symm) ri (sortI_ris ns)]
      exact q2 _ _ (x.lst (vs := (sortI ns).map V.int) ints_atL hp)
  | none => cases ef
  | bool _ => cases ef
  | int _ => cases ef
  | str _ => cases ef
  | tuple _ => cases ef
/-! ### methods that change a dict -/
def isDct (o : T) (δ : DL.Env) (M : Mem) : Bool :=
  match conOf o δ M with
  | some (.dct _) => true
  | _ => false
def mMethK (fo : Sm T) (fa : Sm (List T)) (F : List (D × D) → List D → Option (List (D × D) × D)) : Sm T := bnd fo fun o => fun δ M =>
  if isDct o δ M = true then (bnd fa fun ts => fun δ M =>
    match conOf o δ M with
    | some (.dct xs) => (match (allD ts).bind fun ds => F xs ds with
      | some (xs', z) => .ok (.d z) (putE o (.dct xs') δ) (putM o (.dct xs') M)
      | Option.none => .bad)
    | _ => .bad) δ M else .bad
def MethK (K : KF) (r : V → List V → Hp → VK → Prop) (F : List (D × D) → List D → Option (List (D × D) × D)) : Prop := ∀ (H G : Hp) (a : Addr) (kv : List (Key × V)) (vs : List V) (kvs : List (D × D)) (ds : List D) (kvs' : List (D × D)) (z : D) (Q : VK), Same G H → G a = none → H a = some (.dK kv) → AtK K G kv kvs → AtL K G vs ds → F kvs ds = some (kvs', z) →
  (∀ kv' w, AtK K G kv' kvs' → At K G w z → Q w (upd H a (.dK kv'))) → r (.ref a) vs H Q
theorem RepG.gone {o : T} {c : C} {w : Who} {a : Addr} (x : RepG K H G ow ι (⟨σ, δ, τ⟩ :: fs) M) (r : RT K H G ow ι σ w v o) (hc : conOf o δ M = some c) (ha : v = .ref a) : G a = none := by
  cases o with
  | bor i =>
    have hv : σ[i]? = some (some v) := r
    unfold conOf at hc
    simp only at hc
    split at hc
    · rename_i c0 qe
      cases hc
      obtain ⟨_, v', e1, rt⟩ := x.slots_of qe
      rw [hv] at e1; cases e1
      obtain ⟨b, ev, oa, rc⟩ := rt
      rw [ha] at ev; cases ev
      exact (x.own _ _ oa).1
    · cases hc
  | ref n =>
    obtain ⟨b, ev, ea⟩ := r
    rw [ha] at ev; cases ev
    obtain ⟨b, q1, oa, rc⟩ := x.cells n c (real_of (o := M[n]?) hc).1
    rw [ea] at q1; cases q1
    exact (x.own _ _ oa).1
  | d x => cases hc
  | v x => cases hc
  | con c => cases hc
  | deep c => cases hc
  | scr ns => cases hc
  | exn x => cases hc
  | st φ => cases hc
  | ext φ => cases hc
  | fz x => cases hc
theorem methK_end {r : V → List V → Hp → VK → Prop} {F : List (D × D) → List D → Option (List (D × D) × D)} {Q : VK} {ov : V} {o : T} {vs : List V} {ts : List T} {x' : XD → DL.Env → Mem → Prop} (hF : MethK K r F) (hl : vs.length = ts.length) (rp : Rep K H (⟨σ, δ, rz vs ts ((ov, o) :: τ)⟩ :: fs) M)
    (q : (match conOf o δ M with
    | some (.dct xs) => (match (allD ts).bind fun ds => F xs ds with
      | some (xs', z) => Res.ok (T.d z) (putE o (.dct xs') δ) (putM o (.dct xs') M)
      | Option.none => .bad)
    | _ => .bad).post (fun r δ' M' => ∀ v H', Rep K H' (⟨σ, δ', (v, r) :: τ⟩ :: fs) M' → Q v H') x') : r ov vs H Q := by
  cases ec : conOf o δ M with
  | none => rw [ec] at q; exact q.elim
  | some c =>
    rw [ec] at q
    cases c with
    | lst _ => exact q.elim
    | tab _ => exact q.elim
    | obj _ _ => exact q.elim
    | dcn _ => exact q.elim
    | dct xs =>
      simp only at q
      cases ed : allD ts with
      | none => rw [ed] at q; exact q.elim
      | some ds =>
        rw [ed] at q
        simp only [Option.bind_some] at q
        cases ef : F xs ds with
        | none => rw [ef] at q; exact q.elim
        | some p =>
          obtain ⟨xs', z⟩ := p
          rw [ef] at q
          obtain ⟨G, ow, ι, x, al⟩ := rp.pops hl ed
          obtain ⟨a, ea, ⟨us, ha, au⟩, go⟩ := x.mod x.top ec
          have ea' : ov = .ref a := ea
          subst ea'
          refine hF H G a us vs xs ds xs' z Q x.sub (x.gone x.top ec rfl) ha au al ef fun us' w a1 a2 => q w _ ?_
          exact ⟨G, ow, ι, (go (.dct xs') (.dK us') ⟨us', upd_same, a1⟩).pop.push (t := .d z) a2⟩
theorem dct_ty {o : T} {ov : V} (rp : Rep K H (⟨σ, δ, (ov, o) :: τ⟩ :: fs) M) (h : isDct o δ M = true) : tyV K "dict" ov H := by
  unfold isDct at h
  split at h
  · rename_i xs e
    obtain ⟨G, ow, ι, x⟩ := rp
    obtain ⟨a, ea, ⟨us, ha, _⟩, _⟩ := x.mod x.top e
    have ea' : ov = .ref a := ea
    subst ea'
    exact .inr (.inr (.inl ⟨rfl, .inl ⟨us, ha⟩⟩))
  · cases h
section
variable {name : Str} {id : String} {r : V → List V → Hp → VK → Prop} {F : List (D × D) → List D → Option (List (D × D) × D)} {o : Expr} {es : List Expr} {apos cpos : Pos} {fo : Sm T} {fa : Sm (List T)}
theorem qe_methK (slot : Slot "dict" name id) (hty : typeOf (.builtin id) = pure (.type "method_descriptor")) (hm : MtR X id r) (hF : MethK X.K r F) (ho : QE X W o fo) (ha : QA X W (e :: es) fa)
    (hbase : attributeBase o name X.env (eval o X.env) = eval o X.env := by rfl)
    (hfew : ((backTo cpos (starEach (e :: es) X.env)).all (fun x => !x.1) && (backToKw cpos (keywordEach [] X.env)).all (fun x => x.1.isSome) && decide ((e :: es).length + ([] : List Keyword).length + (if ([] : List Keyword).isEmpty then 0 else 1) < 30)) = true := by rfl)
    (hline : (apos.endLine == cpos.line) = true := by rfl) (hs : starEach (e :: es) X.env = (false, eval e X.env) :: starEach es X.env := by rfl) (hplain : (backTo cpos (starEach es X.env)).any (·.1) = false := by rfl) :
    QE X W (.Call (.Attribute o name apos) (e :: es) [] cpos) (mMethK fo fa F) := by
  refine (pe_bm PySem.F.plainAttrs_dict slot hty hm ho ha hbase hfew hline hs hplain).imp fun σ H Q ⟨δ, τ, fs, M, rp, q⟩ => ⟨δ, τ, fs, M, rp, Res.post_mono (bnd_post q) (fun ot δ1 M1 q1 ov H1 r1 => ?_) fun _ _ _ z => z⟩
  split at q1
  · rename_i hl
    exact ⟨dct_ty r1 hl, δ1, (ov, ot) :: τ, fs, M1, r1, Res.post_mono (bnd_post q1) (fun ts δ2 M2 q2 vs H2 hl2 r2 => methK_end hF hl2 r2 q2) fun _ _ _ z => z.push⟩
  · exact q1.elim
end
/-! ### d.update(d2) -/
def mergeD (kvs more : List (D × D)) : List (D × D) := more.foldl (fun acc p => match keyOf p.1 with
  | some q => putD q p.1 p.2 acc
  | none => acc) kvs
theorem AtK.merge : ∀ {more : List (D × D)} {mv : List (Key × V)} {kvs : List (D × D)} {kv : List (Key × V)}, AtK K G kv kvs → AtK K G mv more → AtK K G (mergeK kv mv) (mergeD kvs more)
  | [], mv, kvs, kv, h, h2 => by rw [show mv = [] from h2]; exact h
  | (x, d) :: r, mv, kvs, kv, h, ⟨p, w, s, e, hk, a, h2⟩ => by
    subst e
    have e1 : mergeK kv ((p, w) :: s) = mergeK (putK kv p w) s := rfl
    have e2 : mergeD kvs ((x, d) :: r) = mergeD (putD p x d kvs) r := by
      unfold mergeD
      rw [List.foldl_cons, hk]
    rw [e1, e2]
    exact AtK.merge (h.put hk a) h2
def rUpd : V → List V → Hp → VK → Prop := fun x vs H Q => ∃ (a b : Addr) (kvs more : List (Key × V)), x = .ref a ∧ vs = [.ref b] ∧ a ≠ b ∧ H a = some (.dK kvs) ∧ H b = some (.dK more) ∧ kvs.length + more.length ≤ sizeLine ∧ Q .non (upd H a (.dK (mergeK kvs more)))
theorem mtd_update : MtR X "dict.update" rUpd := by
  intro pins s σ H x vs v us Q I rx rv h
  obtain ⟨a, b, kvs, more, rfl, rfl, hab, ha, hb, hz, q⟩ := h
  cases (show v = Value.ref a from rx)
  obtain rfl := Vals.ref1 rv
  obtain ⟨z, hd, ws, rel, dd⟩ := dk_of I.hok ha
  obtain ⟨z2, hd2, ms, rel2, dd2⟩ := dk_of I.hok hb
  refine call_meetsIn PySem.F.slot_dict_update dd.typeIs PySem.F.entry_dict_update (PySem.F.args_dict_update_2 _ _) (meets_dict_update (mixKind X.prog X.w) a b hab hd2) ⟨ws, ms, dd, dd2, by rw [← rel.length, ← rel2.length]; exact hz, fun h' dd' _ hs => ?_⟩
  have he : ∃ q, h'.get? a = some q := let ⟨q, _, _, hq, _⟩ := dd'; ⟨q, hq⟩
  exact ⟨.non, _, d_write (t' := s.toks) I (by rw [ha]; exact True.intro) hs he (dk_new (Nat.le_trans (length_mergeK _ _) hz) hd (KV.merge rel2 rel) dd'), rfl, q⟩
def fUpdate (kvs : List (D × D)) : List D → Option (List (D × D) × D)
  | [.dict more] => if kvs.length + more.length ≤ 16000000 then some (mergeD kvs more, .none) else none
  | _ => none
theorem m_update : MethK K rUpd fUpdate := by
  intro H G a kv vs kvs ds kvs' z Q s ga ha al av ef q
  match ds, ef with
  | [.dict more], ef =>
    have ef : (if kvs.length + more.length ≤ 16000000 then some (mergeD kvs more, PyData.none) else none) = some (kvs', z) := ef
    split at ef
    · rename_i hl
      cases ef
      obtain ⟨w, r, rfl, ⟨b, mv, rfl, gb, am⟩, hr⟩ := av
      have : r = [] := hr
      subst this
      refine ⟨a, b, kv, mv, rfl, rfl, fun z => ?_, ha, s _ _ gb, ?_, q _ _ (al.merge am) rfl⟩
      · rw [← z, ga] at gb; cases gb
      · rw [al.len, am.len]; exact Nat.le_trans hl (by decide)
    · cases ef
end DL

end
section
namespace DL
open PySem PySem.Spec L2
open PySem.W (kdx_alive)
open RZ
open PyProof.Rows (callWith_type1 Call_)
/-! ### zip of two tuples whose own pair may be out: its turn under any target that keeps the pair -/
abbrev ZipS (h : Heap) (z TI TO : Addr) (f0 : Value) (f1 : Bool) : Prop :=
  h.get? z = some { cls := .type "zip", dict := none, data := .fields #[f0, .bool f1, .bool false, .ref TI, .ref TO], slots := #[] }
def OwnF (f0 : Value) : Prop := f0 = .none ∨ ∃ T : Addr, f0 = rawInt T
section
variable {prog : Program} {w : World} {A : Around} {E : Value → Shared → Prop} {s : Shared}
theorem loadAlive {a : Addr} {Q : Option Obj → Shared → Prop} (h : Q (s.heap.get? a) s) : wpAny (model prog w) A (loadIfAlive a) Q E s := fun _ _ _ => h
theorem own_zip {z TI TO : Addr} {f0 : Value} {f1 : Bool} {Q : Bool → Shared → Prop} (hf : OwnF f0) (hz : ZipS s.heap z TI TO f0 f1)
    (h1 : Q true s) (h2 : ∀ h', ZipS h' z TI TO f0 true → Heap.SameBut z s.heap h' → Q false { s with heap := h' }) : wpAny (model prog w) A (Builtin.SmallTypes.ownedTupleIsFree (.ref z)) Q E s := by
  unfold Builtin.SmallTypes.ownedTupleIsFree
  refine wpAny_bind (wpAny_field hz rfl (x := f0) rfl ?_)
  rcases hf with rfl | ⟨T, rfl⟩
  · exact wpAny_pure h1
  · show wpAny _ _ (loadIfAlive ((T : Int).toNat) >>= _) _ _ _
    rw [Int.toNat_natCast]
    refine wpAny_bind (loadAlive ?_)
    cases hT : s.heap.get? T with
    | none =>
      simp only [Option.isNone_none, if_true]
      exact wpAny_pure h1
    | some o =>
      simp only [Option.isNone_some, Bool.false_eq_true, if_false]
      refine wpAny_bind (wpAny_field hz rfl (x := .bool f1) rfl ?_)
      cases f1 with
      | true =>
        rw [if_neg (show ¬ ((Value.bool true != Value.bool true) = true) from Bool.false_ne_true)]
        exact wpAny_pure (h2 s.heap hz (Heap.SameBut.refl _ _))
      | false =>
        rw [if_pos (show (Value.bool false != Value.bool true) = true from rfl)]
        exact wpAny_bind (wpAny_setField_rec hz (by simp) fun h₁ hz₁ hs₁ => wpAny_pure (h2 h₁ hz₁ hs₁))
theorem zipS_next_item {z TI TO i1 i2 l1 l2 : Addr} {k1 k2 : Nat} {xs ys : Array Value} {x y a b f0 : Value} {f1 : Bool} {Q : Value → Shared → Prop} (D : ZipApart z TI TO i1 i2 l1 l2)
    (hf : OwnF f0) (hz : ZipS s.heap z TI TO f0 f1) (hTI : IsPair s.heap TI (.ref i1) (.ref i2)) (hTO : IsPair s.heap TO a b)
    (h1 : s.heap.IsTupleIter i1 l1 k1) (h2 : s.heap.IsTupleIter i2 l2 k2) (hl1 : s.heap.IsTuple l1 xs) (hl2 : s.heap.IsTuple l2 ys) (hx : xs[k1]? = some x) (hy : ys[k2]? = some y)
    (hQ : ∀ h' f0' f1' a' b', OwnF f0' → ZipS h' z TI TO f0' f1' → IsPair h' TO a' b' → h'.IsTupleIter i1 l1 (k1 + 1) → h'.IsTupleIter i2 l2 (k2 + 1) → IsPair h' s.heap.objs.size x y → h'.objs.size = s.heap.objs.size + 1 →
      (∀ c o, c ≠ z → c ≠ TO → c ≠ i1 → c ≠ i2 → s.heap.get? c = some o → h'.get? c = some o) → Q (.ref s.heap.objs.size) { s with heap := h' }) :
    wpAny (model prog w) A (Builtin.«zip.__next__» ⟨[.ref z], []⟩) (fun fin s' => ∃ v, fin = .done (.ret v) ∧ Q v s') E s := by
  show wpAny _ _ (field (.ref z) 2 >>= _) _ _ _
  refine wpAny_bind (wpAny_field hz rfl (x := .bool false) rfl ?_)
  show wpAny _ _ (field (.ref z) 3 >>= _) _ _ _
  refine wpAny_bind (wpAny_field hz rfl (x := .ref TI) rfl ?_)
  refine wpAny_bind (wpAny_seqItems hTI rfl ?_)
  show wpAny _ _ (Builtin.SmallTypes.ownedTupleIsFree (.ref z) >>= _) _ _ _
  refine wpAny_bind (own_zip hf hz ?_ fun h₁ hz₁ hs₁ => ?_)
  · simp only [if_true]
    refine wpAny_bind (wpAny_rule ?_)
    refine wpAny_bind (wpAny_field hz rfl (x := .ref TO) rfl ?_)
    refine wpAny_bind (wpAny_setField_rec hz (by simp) fun h₁ hz₁ hs₁ => ?_)
    replace hz₁ : ZipS h₁ z TI TO .ellipsis f1 := hz₁
    refine wpAny_bind ?_
    simp only [List.zipIdx_cons, List.zipIdx_nil, List.forIn_cons, List.forIn_nil]
    refine wpAny_bind (wpAny_bind (wpAny_onRaise ?_))
    show wpAny _ _ (Builtin.SmallTypes.nextOf (.ref i1) >>= _) _ _ _
    refine wpAny_bind (nextOf_tuple_item (h1.extBut hs₁.extBut D.i1z) (hl1.extBut hs₁.extBut D.l1z) hx fun h₂ h1₂ hs₂ => wpAny_pure ?_)
    have hTO₂ : IsPair h₂ TO a b := hs₂.extBut _ _ D.TOi1 (hs₁.extBut _ _ D.TOz hTO)
    refine wpAny_bind (wpAny_seqItems hTO₂ rfl ?_)
    refine wpAny_bind (wpAny_updateSeq_pair hTO₂ fun h₃ hTO₃ hs₃ => ?_)
    replace hTO₃ : IsPair h₃ TO x b := hTO₃
    refine wpAny_bind (wpAny_letGo (wpAny_pure ?_))
    refine wpAny_bind (wpAny_bind (wpAny_onRaise ?_))
    show wpAny _ _ (Builtin.SmallTypes.nextOf (.ref i2) >>= _) _ _ _
    refine wpAny_bind (nextOf_tuple_item (((h2.extBut hs₁.extBut D.i2z).extBut hs₂.extBut D.i12.symm).extBut hs₃.extBut D.TOi2.symm)
      (((hl2.extBut hs₁.extBut D.l2z).extBut hs₂.extBut D.l2i1).extBut hs₃.extBut D.l2TO) hy fun h₄ h2₄ hs₄ => wpAny_pure ?_)
    have hTO₄ : IsPair h₄ TO x b := hs₄.extBut _ _ D.TOi2 hTO₃
    refine wpAny_bind (wpAny_seqItems hTO₄ rfl ?_)
    refine wpAny_bind (wpAny_updateSeq_pair hTO₄ fun h₅ hTO₅ hs₅ => ?_)
    replace hTO₅ : IsPair h₅ TO x y := hTO₅
    refine wpAny_bind (wpAny_letGo (wpAny_pure (wpAny_pure ?_)))
    refine wpAny_bind (wpAny_seqItems hTO₅ rfl ?_)
    refine wpAny_bind (wpAny_newTuple ?_)
    have hsz : h₅.objs.size = s.heap.objs.size := by rw [hs₅.1, hs₄.1, hs₃.1, hs₂.1, hs₁.1]
    have hz₅ : ZipS h₅ z TI TO .ellipsis f1 := hs₅.extBut _ _ D.TOz.symm (hs₄.extBut _ _ D.i2z.symm (hs₃.extBut _ _ D.TOz.symm (hs₂.extBut _ _ D.i1z.symm hz₁)))
    have hk₅ : ∀ c o, c ≠ z → c ≠ TO → c ≠ i1 → c ≠ i2 → s.heap.get? c = some o → h₅.get? c = some o := fun c o c1 c2 c3 c4 e =>
      hs₅.extBut _ _ c2 (hs₄.extBut _ _ c4 (hs₃.extBut _ _ c2 (hs₂.extBut _ _ c3 (hs₁.extBut _ _ c1 e))))
    have h1₅ : h₅.IsTupleIter i1 l1 (k1 + 1) := ((h1₂.extBut hs₃.extBut D.TOi1.symm).extBut hs₄.extBut D.i12).extBut hs₅.extBut D.TOi1.symm
    have h2₅ : h₅.IsTupleIter i2 l2 (k2 + 1) := h2₄.extBut hs₅.extBut D.TOi2.symm
    have hzlt : z < h₅.objs.size := Heap.lt_size hz₅
    show wpAny _ _ (Builtin.SmallTypes.ownedTupleHandOut (.ref z) (.ref h₅.objs.size) >>= _) _ _ _
    refine wpAny_bind ?_
    unfold Builtin.SmallTypes.ownedTupleHandOut
    have hz₆ : ZipS (h₅.push { cls := .type "tuple", data := .seq #[x, y] }) z TI TO .ellipsis f1 := Heap.get?_push_of_some _ hz₅
    refine wpAny_bind (wpAny_setField_rec hz₆ (by simp) fun h₇ hz₇ hs₇ => ?_)
    replace hz₇ : ZipS h₇ z TI TO (rawInt h₅.objs.size) f1 := hz₇
    refine wpAny_setField_rec hz₇ (by simp) fun h₈ hz₈ hs₈ => ?_
    replace hz₈ : ZipS h₈ z TI TO (rawInt h₅.objs.size) false := hz₈
    have up : ∀ c o, c ≠ z → h₅.get? c = some o → h₈.get? c = some o := fun c o c1 e => hs₈.extBut _ _ c1 (hs₇.extBut _ _ c1 (Heap.get?_push_of_some _ e))
    have hT₈ : IsPair h₈ h₅.objs.size x y := hs₈.extBut _ _ (Nat.ne_of_gt hzlt) (hs₇.extBut _ _ (Nat.ne_of_gt hzlt) (Heap.get?_push_size _ rfl))
    have hz8 : h₈.objs.size = h₅.objs.size + 1 := by rw [hs₈.1, hs₇.1, Heap.size_push]
    rw [hsz] at hz₈ hT₈ hz8
    refine wpAny_pure ⟨_, rfl, ?_⟩
    show Q (.ref h₅.objs.size) _
    rw [hsz]
    exact hQ h₈ _ _ _ _ (.inr ⟨_, rfl⟩) hz₈ (up _ _ D.TOz hTO₅) (h1₅.at fun o e => up _ o D.i1z e) (h2₅.at fun o e => up _ o D.i2z e) hT₈ hz8 fun c o c1 c2 c3 c4 e => up c o c1 (hk₅ c o c1 c2 c3 c4 e)
  · simp only [Bool.false_eq_true, if_false]
    refine wpAny_bind ?_
    rw [← Array.forIn_toList]
    simp only [List.forIn_cons, List.forIn_nil]
    refine wpAny_bind (wpAny_bind (wpAny_holding ?_))
    show wpAny _ _ (Builtin.SmallTypes.nextOf (.ref i1) >>= _) _ _ _
    refine wpAny_bind (nextOf_tuple_item (s := { s with heap := h₁ }) (h1.extBut hs₁.extBut D.i1z) (hl1.extBut hs₁.extBut D.l1z) hx fun h₂ h1₂ hs₂ => wpAny_pure ?_)
    refine wpAny_pure ?_
    refine wpAny_bind (wpAny_bind (wpAny_holding ?_))
    show wpAny _ _ (Builtin.SmallTypes.nextOf (.ref i2) >>= _) _ _ _
    refine wpAny_bind (nextOf_tuple_item (s := { s with heap := h₂ }) ((h2.extBut hs₁.extBut D.i2z).extBut hs₂.extBut D.i12.symm) ((hl2.extBut hs₁.extBut D.l2z).extBut hs₂.extBut D.l2i1) hy fun h₃ h2₃ hs₃ => wpAny_pure ?_)
    refine wpAny_pure (wpAny_pure ?_)
    show wpAny _ _ (newTuple [x, y] >>= _) _ _ _
    refine wpAny_bind (wpAny_newTuple ?_)
    have hsz : h₃.objs.size = s.heap.objs.size := by rw [hs₃.1, hs₂.1, hs₁.1]
    have hz₃ : ZipS h₃ z TI TO f0 true := hs₃.extBut _ _ D.i2z.symm (hs₂.extBut _ _ D.i1z.symm hz₁)
    have hTO₃ : IsPair h₃ TO a b := hs₃.extBut _ _ D.TOi2 (hs₂.extBut _ _ D.TOi1 (hs₁.extBut _ _ D.TOz hTO))
    have hk : ∀ c o, c ≠ z → c ≠ i1 → c ≠ i2 → s.heap.get? c = some o → h₃.get? c = some o := fun c o c1 c2 c3 e => hs₃.extBut _ _ c3 (hs₂.extBut _ _ c2 (hs₁.extBut _ _ c1 e))
    have h1₃ : h₃.IsTupleIter i1 l1 (k1 + 1) := h1₂.extBut hs₃.extBut D.i12
    refine wpAny_pure ⟨_, rfl, ?_⟩
    show Q (.ref h₃.objs.size) _
    have hp : IsPair (h₃.push { cls := .type "tuple", data := .seq #[x, y] }) h₃.objs.size x y := Heap.get?_push_size _ rfl
    have hz4 : (h₃.push { cls := .type "tuple", data := .seq #[x, y] }).objs.size = h₃.objs.size + 1 := Heap.size_push ..
    rw [hsz] at hp hz4 ⊢
    exact hQ _ _ _ _ _ hf (Heap.get?_push_of_some _ hz₃) (Heap.get?_push_of_some _ hTO₃) (h1₃.at fun o e => Heap.get?_push_of_some _ e) (h2₃.at fun o e => Heap.get?_push_of_some _ e) hp hz4 fun c o c1 _ c2 c3 e => Heap.get?_push_of_some _ (hk c o c1 c2 c3 e)
theorem zipS_next_end {z TI TO i1 i2 l1 l2 : Addr} {k1 k2 : Nat} {xs ys : Array Value} {a b f0 : Value} {f1 : Bool} {Q : Fin → Shared → Prop} (hh : A.handled = none) (D : ZipApart z TI TO i1 i2 l1 l2)
    (hf : OwnF f0) (hz : ZipS s.heap z TI TO f0 f1) (hTI : IsPair s.heap TI (.ref i1) (.ref i2)) (hTO : IsPair s.heap TO a b)
    (h1 : s.heap.IsTupleIter i1 l1 k1) (h2 : s.heap.IsTupleIter i2 l2 k2) (hl1 : s.heap.IsTuple l1 xs) (hl2 : s.heap.IsTuple l2 ys) (hend : xs[k1]? = none ∨ ys[k2]? = none)
    (hE : ∀ h' e, (∀ c o, c ≠ z → c ≠ TO → c ≠ i1 → c ≠ i2 → s.heap.get? c = some o → h'.get? c = some o) → (∃ o, h'.get? e = some o ∧ o.cls = .type "StopIteration") → E (.ref e) { s with heap := h' }) :
    wpAny (model prog w) A (Builtin.«zip.__next__» ⟨[.ref z], []⟩) Q E s := by
  show wpAny _ _ (field (.ref z) 2 >>= _) _ _ _
  refine wpAny_bind (wpAny_field hz rfl (x := .bool false) rfl ?_)
  show wpAny _ _ (field (.ref z) 3 >>= _) _ _ _
  refine wpAny_bind (wpAny_field hz rfl (x := .ref TI) rfl ?_)
  refine wpAny_bind (wpAny_seqItems hTI rfl ?_)
  show wpAny _ _ (Builtin.SmallTypes.ownedTupleIsFree (.ref z) >>= _) _ _ _
  refine wpAny_bind (own_zip hf hz ?_ fun h₁ hz₁ hs₁ => ?_)
  · simp only [if_true]
    refine wpAny_bind (wpAny_rule ?_)
    refine wpAny_bind (wpAny_field hz rfl (x := .ref TO) rfl ?_)
    refine wpAny_bind (wpAny_setField_rec hz (by simp) fun h₁ hz₁ hs₁ => ?_)
    replace hz₁ : ZipS h₁ z TI TO .ellipsis f1 := hz₁
    refine wpAny_bind ?_
    simp only [List.zipIdx_cons, List.zipIdx_nil, List.forIn_cons, List.forIn_nil]
    refine wpAny_bind (wpAny_bind (wpAny_onRaise ?_))
    show wpAny _ _ (Builtin.SmallTypes.nextOf (.ref i1) >>= _) _ _ _
    cases hx : xs[k1]? with
    | none =>
      refine wpAny_bind (nextOf_tuple_end hh (h1.extBut hs₁.extBut D.i1z) (hl1.extBut hs₁.extBut D.l1z) hx fun h₂ e hs₂ he => ?_)
      obtain ⟨oe, hoe, hce⟩ := he
      have hz₂ : ZipS h₂ z TI TO .ellipsis f1 := hs₂ _ _ D.i1z.symm hz₁
      have hez : e ≠ z := fun x => by subst x; rw [hz₂] at hoe; cases hoe; simp at hce
      refine wpAny_setField_rec hz₂ (by simp) fun h₃ _ hs₃ => hE h₃ e (fun c o c1 _ c3 _ x => hs₃.extBut _ _ c1 (hs₂ _ _ c3 (hs₁.extBut _ _ c1 x))) ⟨oe, hs₃.extBut _ _ hez hoe, hce⟩
    | some x =>
      have hy : ys[k2]? = none := by rcases hend with h | h; rw [hx] at h; cases h; exact h
      refine wpAny_bind (nextOf_tuple_item (h1.extBut hs₁.extBut D.i1z) (hl1.extBut hs₁.extBut D.l1z) hx fun h₂ h1₂ hs₂ => wpAny_pure ?_)
      have hTO₂ : IsPair h₂ TO a b := hs₂.extBut _ _ D.TOi1 (hs₁.extBut _ _ D.TOz hTO)
      refine wpAny_bind (wpAny_seqItems hTO₂ rfl ?_)
      refine wpAny_bind (wpAny_updateSeq_pair hTO₂ fun h₃ hTO₃ hs₃ => ?_)
      refine wpAny_bind (wpAny_letGo (wpAny_pure ?_))
      refine wpAny_bind (wpAny_bind (wpAny_onRaise ?_))
      show wpAny _ _ (Builtin.SmallTypes.nextOf (.ref i2) >>= _) _ _ _
      refine wpAny_bind (nextOf_tuple_end hh (((h2.extBut hs₁.extBut D.i2z).extBut hs₂.extBut D.i12.symm).extBut hs₃.extBut D.TOi2.symm)
        (((hl2.extBut hs₁.extBut D.l2z).extBut hs₂.extBut D.l2i1).extBut hs₃.extBut D.l2TO) hy fun h₄ e hs₄ he => ?_)
      obtain ⟨oe, hoe, hce⟩ := he
      have hz₄ : ZipS h₄ z TI TO .ellipsis f1 := hs₄ _ _ D.i2z.symm (hs₃.extBut _ _ D.TOz.symm (hs₂.extBut _ _ D.i1z.symm hz₁))
      have hez : e ≠ z := fun x => by subst x; rw [hz₄] at hoe; cases hoe; simp at hce
      refine wpAny_setField_rec hz₄ (by simp) fun h₅ _ hs₅ => hE h₅ e (fun c o c1 c2 c3 c4 x => hs₅.extBut _ _ c1 (hs₄ _ _ c4 (hs₃.extBut _ _ c2 (hs₂.extBut _ _ c3 (hs₁.extBut _ _ c1 x))))) ⟨oe, hs₅.extBut _ _ hez hoe, hce⟩
  · simp only [Bool.false_eq_true, if_false]
    refine wpAny_bind ?_
    rw [← Array.forIn_toList]
    simp only [List.forIn_cons, List.forIn_nil]
    refine wpAny_bind (wpAny_bind (wpAny_holding ?_))
    show wpAny _ _ (Builtin.SmallTypes.nextOf (.ref i1) >>= _) _ _ _
    cases hx : xs[k1]? with
    | none =>
      refine wpAny_bind (nextOf_tuple_end (s := { s with heap := h₁ }) hh (h1.extBut hs₁.extBut D.i1z) (hl1.extBut hs₁.extBut D.l1z) hx fun h₂ e hs₂ he => ?_)
      exact hE h₂ e (fun c o c1 _ c2 _ x => hs₂ _ _ c2 (hs₁.extBut _ _ c1 x)) he
    | some x =>
      have hy : ys[k2]? = none := by rcases hend with h | h; rw [hx] at h; cases h; exact h
      refine wpAny_bind (nextOf_tuple_item (s := { s with heap := h₁ }) (h1.extBut hs₁.extBut D.i1z) (hl1.extBut hs₁.extBut D.l1z) hx fun h₂ h1₂ hs₂ => wpAny_pure ?_)
      refine wpAny_pure ?_
      refine wpAny_bind (wpAny_bind (wpAny_holding ?_))
      show wpAny _ _ (Builtin.SmallTypes.nextOf (.ref i2) >>= _) _ _ _
      refine wpAny_bind (nextOf_tuple_end (s := { s with heap := h₂ }) hh ((h2.extBut hs₁.extBut D.i2z).extBut hs₂.extBut D.i12.symm) ((hl2.extBut hs₁.extBut D.l2z).extBut hs₂.extBut D.l2i1) hy fun h₃ e hs₃ he => ?_)
      exact hE h₃ e (fun c o c1 _ c2 c3 x => hs₃ _ _ c3 (hs₂.extBut _ _ c2 (hs₁.extBut _ _ c1 x))) he
theorem pyNext_zipS_item {z TI TO i1 i2 l1 l2 : Addr} {k1 k2 : Nat} {xs ys : Array Value} {x y a b f0 : Value} {f1 : Bool} {Q : Option Value → Shared → Prop} (D : ZipApart z TI TO i1 i2 l1 l2)
    (hf : OwnF f0) (hz : ZipS s.heap z TI TO f0 f1) (hTI : IsPair s.heap TI (.ref i1) (.ref i2)) (hTO : IsPair s.heap TO a b)
    (h1 : s.heap.IsTupleIter i1 l1 k1) (h2 : s.heap.IsTupleIter i2 l2 k2) (hl1 : s.heap.IsTuple l1 xs) (hl2 : s.heap.IsTuple l2 ys) (hx : xs[k1]? = some x) (hy : ys[k2]? = some y)
    (hQ : ∀ h' f0' f1' a' b', OwnF f0' → ZipS h' z TI TO f0' f1' → IsPair h' TO a' b' → h'.IsTupleIter i1 l1 (k1 + 1) → h'.IsTupleIter i2 l2 (k2 + 1) → IsPair h' s.heap.objs.size x y → h'.objs.size = s.heap.objs.size + 1 →
      (∀ c o, c ≠ z → c ≠ TO → c ≠ i1 → c ≠ i2 → s.heap.get? c = some o → h'.get? c = some o) → Q (some (.ref s.heap.objs.size)) { s with heap := h' }) :
    wpAny (model prog w) A (pyNext (.ref z)) Q E s := by
  have hT : s.TypeIs (.ref z) "zip" := ⟨_, hz, rfl⟩
  unfold pyNext
  exact wpAny_bind (wpAny_attempt (wpAny_callSpecial?_slot (name := Str.ofString "__next__") hT F.slot_zip_next
    (wpAny_call_entry F.slot_zip_next hT F.entry_zip_next
      (zipS_next_item D hf hz hTI hTO h1 h2 hl1 hl2 hx hy fun h' f0' f1' a' b' a0 a1 a2 a3 a4 a5 a6 a7 => wpAny_pure (hQ h' f0' f1' a' b' a0 a1 a2 a3 a4 a5 a6 a7)) (F.args_zip_next_1 _))))
theorem pyNext_zipS_end {z TI TO i1 i2 l1 l2 : Addr} {k1 k2 : Nat} {xs ys : Array Value} {a b f0 : Value} {f1 : Bool} {Q : Option Value → Shared → Prop} (hh : A.handled = none) (D : ZipApart z TI TO i1 i2 l1 l2)
    (hf : OwnF f0) (hz : ZipS s.heap z TI TO f0 f1) (hTI : IsPair s.heap TI (.ref i1) (.ref i2)) (hTO : IsPair s.heap TO a b)
    (h1 : s.heap.IsTupleIter i1 l1 k1) (h2 : s.heap.IsTupleIter i2 l2 k2) (hl1 : s.heap.IsTuple l1 xs) (hl2 : s.heap.IsTuple l2 ys) (hend : xs[k1]? = none ∨ ys[k2]? = none)
    (hQ : ∀ h', (∀ c o, c ≠ z → c ≠ TO → c ≠ i1 → c ≠ i2 → s.heap.get? c = some o → h'.get? c = some o) → Q none { s with heap := h' }) : wpAny (model prog w) A (pyNext (.ref z)) Q E s := by
  have hT : s.TypeIs (.ref z) "zip" := ⟨_, hz, rfl⟩
  unfold pyNext
  refine wpAny_bind (wpAny_attempt (wpAny_callSpecial?_slot (name := Str.ofString "__next__") hT F.slot_zip_next
    (wpAny_call_entry F.slot_zip_next hT F.entry_zip_next (zipS_next_end hh D hf hz hTI hTO h1 h2 hl1 hl2 hend fun h' e hk he => ?_) (F.args_zip_next_1 _))))
  obtain ⟨o, ho, hc⟩ := he
  refine wpAny_bind (wpAny_isInstance (T := "StopIteration") (b := true) ⟨o, ho, hc⟩ isSubtype_stop ?_)
  exact wpAny_pure (hQ _ hk)
theorem pyIter_zipS {z TI TO : Addr} {f0 : Value} {f1 : Bool} {Q : Value → Shared → Prop} (hz : ZipS s.heap z TI TO f0 f1) (h : Q (.ref z) s) : wpAny (model prog w) A (pyIter (.ref z)) Q E s := by
  have hT : s.TypeIs (.ref z) "zip" := ⟨_, hz, rfl⟩
  refine wpAny_pyIter_slot hT F.slot_zip_iter (wpAny_call_entry F.slot_zip_iter hT F.entry_zip_iter ?_ (F.args_zip_iter_1 _))
  show wpAny _ _ (PySem.ret (.ref z)) _ _ s
  exact wpAny_pure ⟨_, rfl, "zip", _, hT, F.slot_zip_next.lookup, h⟩
end
theorem turn_zipN {P : Program} {w : World} {K : KF} {x : Str} {tpos : Pos} {a b z TI TO i1 i2 : Addr} (D : ZipApart z TI TO i1 i2 a b) :
    Turn P w K (.Name x tpos) (ItzT K a b) [z, TI, TO, i1, i2] z (fun i h => (∃ f0 f1, OwnF f0 ∧ ZipS h z TI TO f0 f1) ∧ IsPair h TI (.ref i1) (.ref i2) ∧ (∃ x y, IsPair h TO x y) ∧ h.IsTupleIter i1 a i ∧ h.IsTupleIter i2 b i) where
  mem := by simp
  obj := fun i h st c hc => by
    obtain ⟨⟨f0, f1, hf, hz⟩, hTI, ⟨x, y, hTO⟩, ⟨o1, e1, _, d1⟩, ⟨o2, e2, _, d2⟩⟩ := st
    have e' : c = z ∨ c = TI ∨ c = TO ∨ c = i1 ∨ c = i2 := by simpa using hc
    rcases e' with q | q | q | q | q
    · rw [q]; exact ⟨_, hz, fun v q => nomatch q⟩
    · rw [q]; exact ⟨_, hTI, fun v q => nomatch q⟩
    · rw [q]; exact ⟨_, hTO, fun v q => nomatch q⟩
    · rw [q]; exact ⟨o1, e1, fun v q => by rw [d1] at q; cases q⟩
    · rw [q]; exact ⟨o2, e2, fun v q => by rw [d2] at q; cases q⟩
  keep := fun i h h' st k => by
    obtain ⟨⟨f0, f1, hf, hz⟩, hTI, ⟨x, y, hTO⟩, h1, h2⟩ := st
    exact ⟨⟨f0, f1, hf, k z (by simp) _ hz⟩, k TI (by simp) _ hTI, ⟨x, y, k TO (by simp) _ hTO⟩, h1.at fun o q => k i1 (by simp) o q, h2.at fun o q => k i2 (by simp) o q⟩
  item := by
    intro X hP hw hK hc i pins s σ H E I hf st hg
    subst hP hw hK
    obtain ⟨⟨f0, f1, hof, hz⟩, hTI, ⟨x0, y0, hTO⟩, h1, h2⟩ := st
    obtain ⟨xs, ys, x, y, hqx, hqy, hx, hy⟩ := hg
    obtain ⟨its, rv, p, _⟩ := I.tuple hqx
    obtain ⟨its2, rv2, p2, _⟩ := I.tuple hqy
    obtain ⟨u, hu, ru⟩ := rv.get hx
    obtain ⟨u2, hu2, ru2⟩ := rv2.get hy
    have hzl : z < s.heap.objs.size := Heap.lt_size hz
    refine pyNext_zipS_item D hof hz hTI hTO h1 h2 p p2 (x := u) (y := u2) (by simpa using hu) (by simpa using hu2) fun h' f0' f1' a' b' hof' z' TO' h1' h2' hT hsz hk => ?_
    refine ⟨_, rfl, wpAny_pure ?_⟩
    have new : ObjOk X.prog X.w (upd H s.heap.objs.size (.tup [x, y])) h' s.heap.objs.size (.tup [x, y]) :=
      ⟨by show 2 ≤ sizeLine; decide, [u, u2], .cons ru (.cons ru2 .nil), ⟨_, hT, rfl, _, rfl⟩⟩
    have I1 : Inv X pins σ (upd H s.heap.objs.size (.tup [x, y])) { s with heap := h' } :=
      I.turnedNew (t' := s.toks) (ch := [z, TI, TO, i1, i2]) (fun c o hb q => hk c o (fun q' => hb (by simp [q'])) (fun q' => hb (by simp [q'])) (fun q' => hb (by simp [q'])) (fun q' => hb (by simp [q'])) q) hf (Nat.le_refl _) new
    refine ⟨.ref s.heap.objs.size, _, I1, rfl, ⟨_, x, y, rfl, I.hok.fresh (Nat.le_refl _), rfl, fun l hl => by rw [I.tuple_inj hl hqx]; exact hx, fun l hl => by rw [I.tuple_inj hl hqy]; exact hy⟩, ⟨⟨_, _, hof', z'⟩, ?_, ⟨_, _, TO'⟩, h1', h2'⟩, fun c hcm => ?_⟩
    · exact hk _ _ D.TIz D.TITO D.TIi1 D.TIi2 hTI
    · have hlt : c < s.heap.objs.size := by
        have e' : c = z ∨ c = TI ∨ c = TO ∨ c = i1 ∨ c = i2 := by simpa using hcm
        rcases e' with q | q | q | q | q
        · rw [q]; exact hzl
        · rw [q]; exact Heap.lt_size hTI
        · rw [q]; exact Heap.lt_size hTO
        · rw [q]; obtain ⟨_, e1, _⟩ := h1; exact Heap.lt_size e1
        · rw [q]; obtain ⟨_, e2, _⟩ := h2; exact Heap.lt_size e2
      rw [upd_ne (Nat.ne_of_lt hlt)]
      exact (hf c hcm).1
  done := by
    intro X hP hw hK hc i pins s σ H E I hf st hg
    subst hP hw hK
    obtain ⟨⟨f0, f1, hof, hz⟩, hTI, ⟨x0, y0, hTO⟩, h1, h2⟩ := st
    obtain ⟨xs, ys, hqx, hqy, hend⟩ := hg
    obtain ⟨its, rv, p, _⟩ := I.tuple hqx
    obtain ⟨its2, rv2, p2, _⟩ := I.tuple hqy
    have l1 := rv.length
    have l2 := rv2.length
    have he : its.toArray[i]? = none ∨ its2.toArray[i]? = none := by
      rcases hend with q | q
      · exact .inl (by simp; omega)
      · exact .inr (by simp; omega)
    exact pyNext_zipS_end (I.ok.hd hc) D hof hz hTI hTO h1 h2 p p2 he fun h' hk => ⟨rfl, I.turnedL (t' := s.toks) (ch := [z, TI, TO, i1, i2]) (fun c o hb q =>
      hk c o (fun q' => hb (by simp [q'])) (fun q' => hb (by simp [q'])) (fun q' => hb (by simp [q'])) (fun q' => hb (by simp [q'])) q) hf⟩
  self := fun A i s Q E st h => pyIter_zipS st.1.choose_spec.choose_spec.2 h
section
variable {X : Cx} {W : WX} {K : KF} {H G : Hp} {ow : Addr → Option Who} {ι : List Addr} {σ : St} {δ : DL.Env} {τ : List (V × T)} {fs : List Fram} {M : Mem} {v u : V} {t : T} {e e' e2 : Expr} {p pos : Pos}
def iZipN (K : KF) (ta : TA) : TI := fun σ H R => ta σ H fun vs H1 => ∃ a b xs ys, vs = [.ref a, .ref b] ∧ SqT K H1 a xs ∧ SqT K H1 b ys ∧ R (ItzT K a b) H1
theorem pi_zipN {x : Str} {ta : TA} {tpos : Pos} (hg : Gl X "zip") (hm : X.mg "zip" = none) (ha : PA X [e, e2] ta)
    (hs : starEach [e, e2] X.env = (false, eval e X.env) :: starEach [e2] X.env := by rfl) (hpl : (backTo pos (starEach [e2] X.env)).any (·.1) = false := by rfl) :
    PI X (.Name x tpos) (.Call (.Name "zip" p) [e, e2] [] pos) (iZipN X.K ta) := by
  refine ⟨fun pins s σ H R I h => ?_⟩
  refine Call_ (ld_blt I hg hm PyProof.Rows.boot_zip (callWith_type1 (thn (ha.run pos pins s σ H _ I h) fun us s1 ⟨vs, H1, I1, r1, q1⟩ => ?_) hs hpl))
  obtain ⟨a, b, xs, ys, ex, hqx, hqy, q⟩ := q1
  subst ex
  cases r1 with
  | cons r rr =>
    cases rr with
    | cons r' rr =>
      cases rr
      cases r
      cases r'
      have fresh5 : ∀ c, c ∈ [s1.heap.objs.size + 4, s1.heap.objs.size + 2, s1.heap.objs.size + 3, s1.heap.objs.size, s1.heap.objs.size + 1] → FpOk X pins H1 c := fun c hcm => by
        have e' : c = s1.heap.objs.size + 4 ∨ c = s1.heap.objs.size + 2 ∨ c = s1.heap.objs.size + 3 ∨ c = s1.heap.objs.size ∨ c = s1.heap.objs.size + 1 := by simpa using hcm
        have hle : s1.heap.objs.size ≤ c := by omega
        exact I1.fpOk hle (I1.hok.fresh hle)
      obtain ⟨its, rv, p1, _⟩ := I1.tuple hqx
      obtain ⟨its2, rv2, p2, _⟩ := I1.tuple hqy
      obtain ⟨o1, ho1, _⟩ := id p1
      obtain ⟨o2, ho2, _⟩ := id p2
      refine call_zipT (show s1.heap.IsTuple a its.toArray from p1) (show s1.heap.IsTuple b its2.toArray from p2) fun h' hz hTI hTO h1 h2 hsz hk => wpAny_pyIter_zip hz ?_
      have I2 : Inv X pins σ H1 { s1 with heap := h' } := I1.kept (t' := s1.toks) hk
      exact ⟨s1.heap.objs.size + 4, [s1.heap.objs.size + 4, s1.heap.objs.size + 2, s1.heap.objs.size + 3, s1.heap.objs.size, s1.heap.objs.size + 1], _, _, H1, rfl, I2, turn_zipN (PySem.W.ktu_apart s1.heap.objs.size a b (Heap.lt_size ho1) (Heap.lt_size ho2)), ⟨⟨_, _, .inl rfl, hz⟩, hTI, ⟨_, _, hTO⟩, h1, h2⟩, fresh5, q⟩
def mZipN (fa : Sm (List T)) : Sm (List D) := bnd fa fun ts => match ts with
  | [.d (.tuple xs), .d (.tuple ys)] => ret (zipD xs ys)
  | _ => fail
@[simp] theorem e_zipN {fa : Sm (List T)} : mZipN fa δ M = bnd fa (fun ts => match ts with
  | [.d (.tuple xs), .d (.tuple ys)] => ret (zipD xs ys)
  | _ => fail) δ M := rfl
theorem qi_zipN {x : Str} {tpos : Pos} {fa : Sm (List T)} (hg : Gl X "zip") (hm : X.mg "zip" = none) (ha : QA X W [e, e2] fa)
    (hs : starEach [e, e2] X.env = (false, eval e X.env) :: starEach [e2] X.env := by rfl) (hpl : (backTo pos (starEach [e2] X.env)).any (·.1) = false := by rfl) : QI X W (.Name x tpos) (.Call (.Name "zip" p) [e, e2] [] pos) (mZipN fa) := by
  refine (pi_zipN hg hm ha hs hpl).imp fun σ H R ⟨δ, τ, fs, M, r, q⟩ => ⟨δ, τ, fs, M, r, Res.post_mono (bnd_post q) (fun ts δ1 M1 q1 vs H1 hl r1 => ?_) fun _ _ _ z => z⟩
  split at q1
  · rename_i xs ys
    match vs, hl, r1 with
    | [v, w], _, r1 =>
      obtain ⟨G, ow, ι, x⟩ := r1
      have hb : At X.K G w (.tuple ys) := x.top
      have ha : At X.K G v (.tuple xs) := x.pop.top
      obtain ⟨a, us, rfl, qa, la⟩ := id ha
      obtain ⟨b, ws, rfl, qb, lb⟩ := id hb
      exact ⟨a, b, us, ws, rfl, SqT.grow x.sub qa, SqT.grow x.sub qb, q1 _ H1 _ iter_zipT ⟨G, ow, ι, x.pop.pop.push fun G' s => ⟨At.mono s _ _ ha, At.mono s _ _ hb⟩⟩⟩
  · exact q1.elim
end
end DL

end
section
namespace DL
open PySem PySem.Spec L2
open RZ
open PyProof.Rows (callWith_type1 Call_)
/-! ### enumerate(zip(..)) of two tuples -/
section
variable {prog : Program} {w : World} {A : Around} {E : Value → Shared → Prop} {s : Shared}
theorem enumG_next_item {e it : Addr} {c : Int} {R : Value → Heap → Prop} {old : Value} {Q : Value → Shared → Prop}
    (he : IsEnum s.heap e it c old)
    (hin : ∀ {Q' : Value → Shared → Prop}, (∀ x h₁, R x h₁ → Q' x { s with heap := h₁ }) → wpAny (model prog w) A (Builtin.SmallTypes.nextOf (.ref it)) Q' E s)
    (hR : ∀ x h₁, R x h₁ → IsEnum h₁ e it c old)
    (hQ : ∀ x h₁ h' tk, R x h₁ → IsEnumOut h' e it (c + 1) x h₁.objs.size →
      h'.get? h₁.objs.size = some { cls := .type "tuple", data := .seq #[.int c tk, x] } → h'.objs.size = h₁.objs.size + 1 →
      (∀ b o, b ≠ e → h₁.get? b = some o → h'.get? b = some o) → Q (.ref h₁.objs.size) { s with heap := h', toks := tk + 1 }) :
    wpAny (model prog w) A (Builtin.«enumerate.__next__» ⟨[.ref e], []⟩) (fun fin s' => ∃ v, fin = .done (.ret v) ∧ Q v s') E s := by
  obtain ⟨hp, g, d, tk, os⟩ := s
  show wpAny _ _ (field (.ref e) 2 >>= _) _ _ _
  refine wpAny_bind (wpAny_field he rfl (x := .ref it) rfl ?_)
  refine wpAny_bind (hin fun x h₁ hPx => ?_)
  have he₁ : IsEnum h₁ e it c old := hR x h₁ hPx
  show wpAny _ _ (field (.ref e) 3 >>= _) _ _ ⟨h₁, g, d, tk, os⟩
  refine wpAny_bind (wpAny_field he₁ rfl (x := rawInt c) rfl ?_)
  show wpAny _ _ (field (.ref e) 4 >>= _) _ _ ⟨h₁, g, d, tk, os⟩
  refine wpAny_bind (wpAny_field he₁ rfl (x := .none) rfl ?_)
  show wpAny _ _ (mkInt c >>= _) _ _ ⟨h₁, g, d, tk, os⟩
  refine wpAny_bind (wpAny_mkInt ?_)
  show wpAny _ _ (setField (.ref e) 3 (rawInt (c + 1)) >>= _) _ _ ⟨h₁, g, d, tk + 1, os⟩
  refine wpAny_bind (wpAny_setField_rec he₁ (by simp) fun h₂ he₂ hs₂ => ?_)
  replace hs₂ : Heap.SameBut e h₁ h₂ := hs₂
  replace he₂ : IsEnum h₂ e it (c + 1) old := he₂
  show wpAny _ _ (setField (.ref e) 4 .none >>= _) _ _ ⟨h₂, g, d, tk + 1, os⟩
  refine wpAny_bind (wpAny_setField_rec he₂ (by simp) fun h₃ he₃ hs₃ => ?_)
  replace hs₃ : Heap.SameBut e h₂ h₃ := hs₃
  replace he₃ : IsEnum h₃ e it (c + 1) old := he₃
  show wpAny _ _ (newTuple [.int c tk, x] >>= _) _ _ ⟨h₃, g, d, tk + 1, os⟩
  refine wpAny_bind (wpAny_newTuple ?_)
  have he₄ : IsEnum (h₃.push { cls := .type "tuple", data := .seq #[.int c tk, x] }) e it (c + 1) old := Heap.get?_push_of_some _ he₃
  generalize hh₄ : h₃.push { cls := .type "tuple", data := .seq #[.int c tk, x] } = h₄ at he₄
  have hsz : h₃.objs.size = h₁.objs.size := by rw [hs₃.1, hs₂.1]
  have hel : e < h₁.objs.size := Heap.lt_size he₁
  have ht₄ : h₄.get? h₁.objs.size = some { cls := .type "tuple", data := .seq #[.int c tk, x] } := by rw [← hh₄, ← hsz]; exact Heap.get?_push_size _ rfl
  have hz₄ : h₄.objs.size = h₁.objs.size + 1 := by rw [← hh₄, Heap.size_push, hsz]
  have hk₄ : ∀ b o, b ≠ e → h₁.get? b = some o → h₄.get? b = some o := fun b o hbe hb => by
    rw [← hh₄]; exact Heap.get?_push_of_some _ (hs₃.extBut b o hbe (hs₂.extBut b o hbe hb))
  show wpAny _ _ (Builtin.SmallTypes.ownedTupleIsFree (.ref e) >>= _) _ _ ⟨h₄, g, d, tk + 1, os⟩
  rw [hsz]
  clear hh₄ he₃ hs₃ he₂ hs₂ hsz h₃ h₂
  refine wpAny_bind ?_
  unfold Builtin.SmallTypes.ownedTupleIsFree
  refine wpAny_bind (wpAny_field he₄ rfl (x := .none) rfl (wpAny_pure ?_))
  simp only [if_true]
  refine wpAny_bind (wpAny_rule ?_)
  refine wpAny_bind (wpAny_field he₄ rfl (x := old) rfl ?_)
  refine wpAny_bind (wpAny_setField_rec he₄ (by simp) fun h₅ he₅ hs₅ => ?_)
  replace hs₅ : Heap.SameBut e h₄ h₅ := hs₅
  replace he₅ : IsEnum h₅ e it (c + 1) x := he₅
  show wpAny _ _ (Builtin.SmallTypes.ownedTupleHandOut (.ref e) (.ref h₁.objs.size) >>= _) _ _ ⟨h₅, g, d, tk + 1, os⟩
  refine wpAny_bind ?_
  unfold Builtin.SmallTypes.ownedTupleHandOut
  refine wpAny_bind (wpAny_setField_rec he₅ (by simp) fun h₆ he₆ hs₆ => ?_)
  replace hs₆ : Heap.SameBut e h₅ h₆ := hs₆
  replace he₆ : IsEnumOut h₆ e it (c + 1) x h₁.objs.size := he₆
  refine wpAny_setField_rec he₆ (by simp) fun h₇ he₇ hs₇ => ?_
  replace hs₇ : Heap.SameBut e h₆ h₇ := hs₇
  replace he₇ : IsEnumOut h₇ e it (c + 1) x h₁.objs.size := he₇
  refine wpAny_bind (wpAny_letGo (wpAny_pure ⟨_, rfl, hQ x h₁ h₇ tk hPx he₇ ?_ ?_ ?_⟩))
  · exact hs₇.extBut _ _ (Nat.ne_of_gt hel) (hs₆.extBut _ _ (Nat.ne_of_gt hel) (hs₅.extBut _ _ (Nat.ne_of_gt hel) ht₄))
  · rw [hs₇.1, hs₆.1, hs₅.1, hz₄]
  · exact fun b o hbe hb => hs₇.extBut b o hbe (hs₆.extBut b o hbe (hs₅.extBut b o hbe (hk₄ b o hbe hb)))
theorem pyNext_enumG_item {e it : Addr} {c : Int} {R : Value → Heap → Prop} {old : Value} {Q : Option Value → Shared → Prop}
    (he : IsEnum s.heap e it c old)
    (hin : ∀ {E : Value → Shared → Prop} {Q' : Value → Shared → Prop}, (∀ x h₁, R x h₁ → Q' x { s with heap := h₁ }) → wpAny (model prog w) A.in1 (Builtin.SmallTypes.nextOf (.ref it)) Q' E s)
    (hR : ∀ x h₁, R x h₁ → IsEnum h₁ e it c old)
    (hQ : ∀ x h₁ h' tk, R x h₁ → IsEnumOut h' e it (c + 1) x h₁.objs.size →
      h'.get? h₁.objs.size = some { cls := .type "tuple", data := .seq #[.int c tk, x] } → h'.objs.size = h₁.objs.size + 1 →
      (∀ b o, b ≠ e → h₁.get? b = some o → h'.get? b = some o) → Q (some (.ref h₁.objs.size)) { s with heap := h', toks := tk + 1 }) :
    wpAny (model prog w) A (pyNext (.ref e)) Q E s := by
  have hT : s.TypeIs (.ref e) "enumerate" := ⟨_, he, rfl⟩
  unfold pyNext
  exact wpAny_bind (wpAny_attempt (wpAny_callSpecial?_slot (name := Str.ofString "__next__") hT F.slot_enumerate_next
    (wpAny_call_entry F.slot_enumerate_next hT F.entry_enumerate_next
      (enumG_next_item he hin hR fun x h₁ h' tk a b c d k => wpAny_pure (hQ x h₁ h' tk a b c d k)) (F.args_enumerate_next_1 _))))
theorem nextOf_zipS_item {z TI TO i1 i2 l1 l2 : Addr} {k1 k2 : Nat} {xs ys : Array Value} {x y a b f0 : Value} {f1 : Bool} {Q : Value → Shared → Prop} (D : ZipApart z TI TO i1 i2 l1 l2)
    (hf : OwnF f0) (hz : ZipS s.heap z TI TO f0 f1) (hTI : IsPair s.heap TI (.ref i1) (.ref i2)) (hTO : IsPair s.heap TO a b)
    (h1 : s.heap.IsTupleIter i1 l1 k1) (h2 : s.heap.IsTupleIter i2 l2 k2) (hl1 : s.heap.IsTuple l1 xs) (hl2 : s.heap.IsTuple l2 ys) (hx : xs[k1]? = some x) (hy : ys[k2]? = some y)
    (hQ : ∀ h' f0' f1' a' b', OwnF f0' → ZipS h' z TI TO f0' f1' → IsPair h' TO a' b' → h'.IsTupleIter i1 l1 (k1 + 1) → h'.IsTupleIter i2 l2 (k2 + 1) → IsPair h' s.heap.objs.size x y → h'.objs.size = s.heap.objs.size + 1 →
      (∀ c o, c ≠ z → c ≠ TO → c ≠ i1 → c ≠ i2 → s.heap.get? c = some o → h'.get? c = some o) → Q (.ref s.heap.objs.size) { s with heap := h' }) :
    wpAny (model prog w) A (Builtin.SmallTypes.nextOf (.ref z)) Q E s := by
  have hT : s.TypeIs (.ref z) "zip" := ⟨_, hz, rfl⟩
  unfold Builtin.SmallTypes.nextOf
  refine wpAny_bind (wpAny_callSpecial?_slot (name := Str.ofString "__next__") hT F.slot_zip_next
    (wpAny_call_entry F.slot_zip_next hT F.entry_zip_next
      (zipS_next_item D hf hz hTI hTO h1 h2 hl1 hl2 hx hy fun h' f0' f1' a' b' a0 a1 a2 a3 a4 a5 a6 a7 => wpAny_pure (hQ h' f0' f1' a' b' a0 a1 a2 a3 a4 a5 a6 a7)) (F.args_zip_next_1 _)))
theorem nextOf_zipS_end {z TI TO i1 i2 l1 l2 : Addr} {k1 k2 : Nat} {xs ys : Array Value} {a b f0 : Value} {f1 : Bool} {Q : Value → Shared → Prop} (hh : A.handled = none) (D : ZipApart z TI TO i1 i2 l1 l2)
    (hf : OwnF f0) (hz : ZipS s.heap z TI TO f0 f1) (hTI : IsPair s.heap TI (.ref i1) (.ref i2)) (hTO : IsPair s.heap TO a b)
    (h1 : s.heap.IsTupleIter i1 l1 k1) (h2 : s.heap.IsTupleIter i2 l2 k2) (hl1 : s.heap.IsTuple l1 xs) (hl2 : s.heap.IsTuple l2 ys) (hend : xs[k1]? = none ∨ ys[k2]? = none)
    (hE : ∀ h' e, (∀ c o, c ≠ z → c ≠ TO → c ≠ i1 → c ≠ i2 → s.heap.get? c = some o → h'.get? c = some o) → (∃ o, h'.get? e = some o ∧ o.cls = .type "StopIteration") → E (.ref e) { s with heap := h' }) :
    wpAny (model prog w) A (Builtin.SmallTypes.nextOf (.ref z)) Q E s := by
  have hT : s.TypeIs (.ref z) "zip" := ⟨_, hz, rfl⟩
  unfold Builtin.SmallTypes.nextOf
  exact wpAny_bind (wpAny_callSpecial?_slot (name := Str.ofString "__next__") hT F.slot_zip_next
    (wpAny_call_entry F.slot_zip_next hT F.entry_zip_next (zipS_next_end hh D hf hz hTI hTO h1 h2 hl1 hl2 hend hE) (F.args_zip_next_1 _)))
theorem pyNext_enumZ_end {e z TI TO i1 i2 l1 l2 : Addr} {c : Int} {old : Value} {k1 k2 : Nat} {xs ys : Array Value} {a b f0 : Value} {f1 : Bool} {Q : Option Value → Shared → Prop} (hh : A.handled = none) (he : IsEnum s.heap e z c old) (D : ZipApart z TI TO i1 i2 l1 l2)
    (hf : OwnF f0) (hz : ZipS s.heap z TI TO f0 f1) (hTI : IsPair s.heap TI (.ref i1) (.ref i2)) (hTO : IsPair s.heap TO a b)
    (h1 : s.heap.IsTupleIter i1 l1 k1) (h2 : s.heap.IsTupleIter i2 l2 k2) (hl1 : s.heap.IsTuple l1 xs) (hl2 : s.heap.IsTuple l2 ys) (hend : xs[k1]? = none ∨ ys[k2]? = none)
    (hQ : ∀ h', (∀ c o, c ≠ z → c ≠ TO → c ≠ i1 → c ≠ i2 → s.heap.get? c = some o → h'.get? c = some o) → Q none { s with heap := h' }) : wpAny (model prog w) A (pyNext (.ref e)) Q E s := by
  have hT : s.TypeIs (.ref e) "enumerate" := ⟨_, he, rfl⟩
  unfold pyNext
  refine wpAny_bind (wpAny_attempt (wpAny_callSpecial?_slot (name := Str.ofString "__next__") hT F.slot_enumerate_next
    (wpAny_call_entry F.slot_enumerate_next hT F.entry_enumerate_next ?_ (F.args_enumerate_next_1 _))))
  show wpAny _ _ (field (.ref e) 2 >>= _) _ _ _
  refine wpAny_bind (wpAny_field he rfl (x := .ref z) rfl ?_)
  refine wpAny_bind (nextOf_zipS_end (show A.in1.handled = none from hh) D hf hz hTI hTO h1 h2 hl1 hl2 hend fun h' x he' hx' => ?_)
  obtain ⟨o, ho, hc⟩ := hx'
  refine wpAny_bind (wpAny_isInstance (T := "StopIteration") (b := true) ⟨o, ho, hc⟩ isSubtype_stop ?_)
  exact wpAny_pure (hQ _ he')
theorem enum_newZ {z TI TO : Addr} {f0 : Value} :
    Meets (Builtin.«enumerate.__new__» ⟨[.type "enumerate", .ref z], []⟩) (fun _ R s => IsZip s.heap z TI TO f0 ∧
      R (.ok (.ret (.ref s.heap.objs.size))) { s with heap := s.heap.push { cls := .type "enumerate", data := .fields #[.none, .bool false, .ref z, rawInt 0, .none, .none] } }) :=
  .of_wp fun prog w A R s ⟨h1, hR⟩ => by
    obtain ⟨hp, g, d, tk, os⟩ := s
    have se := sub_enumerate
    have it : ∀ {A' : Around} {E : Value → Shared → Prop} {Q : Value → Shared → Prop}, Q (.ref z) ⟨hp, g, d, tk, os⟩ → wpAny (model prog w) A' (pyIter (.ref z)) Q E ⟨hp, g, d, tk, os⟩ :=
      fun q => wpAny_pyIter_zip h1 q
    wp_walk using it
    refine wpAny_stack_any fun st => (wpAny_pure ?_)
    split
    · rename_i c _ _ _ _ _
      cases (c == Value.type "enumerate")
      all_goals
        wp_walk using it
        exact ⟨_, rfl, hR⟩
    · wp_walk using it
      exact ⟨_, rfl, hR⟩
theorem enum_callZ {z TI TO : Addr} {f0 : Value} {Q : Value → Shared → Prop} (hz : IsZip s.heap z TI TO f0)
    (h : ∀ h', IsEnum h' s.heap.objs.size z 0 .none → (∀ b o, s.heap.get? b = some o → h'.get? b = some o) → Q (.ref s.heap.objs.size) { s with heap := h' }) :
    wpAny (model prog w) A (call (.type "enumerate") [.ref z]) Q E s := by
  refine callType_new F.called_enumerate (by decide) (F.typeCall_enumerate_1 _) (F.newCall_enumerate_1 _) (fun ob => F.args_object_init_2 ob _) F.entry_enumerate_new enum_newZ ⟨hz, ?_⟩
  have he := Heap.get?_push_size s.heap (o := { cls := .type "enumerate", data := .fields #[.none, .bool false, .ref z, rawInt 0, .none, .none] }) rfl
  exact ⟨⟨_, he, rfl⟩, h _ he fun b o x => Heap.get?_push_of_some _ x⟩
end
theorem neA {n : Addr} (i j : Nat) (h : i ≠ j) : (n + i : Nat) ≠ (n + j : Nat) := fun e => h (Nat.add_left_cancel e)
def IteZ (K : KF) (a b : Addr) : It :=
  ⟨fun i H => ∃ (xs ys : List V) (x y : V), SqT K H a xs ∧ SqT K H b ys ∧ xs[i]? = some x ∧ ys[i]? = some y,
    fun i H v H' => ∃ T1 T2 x y, v = .ref T2 ∧ H T1 = none ∧ (upd H T1 (.tup [x, y])) T2 = none ∧ H' = upd (upd H T1 (.tup [x, y])) T2 (.tup [.int (i : Nat), .ref T1]) ∧ (∀ xs, SqT K H a xs → xs[i]? = some x) ∧ ∀ ys, SqT K H b ys → ys[i]? = some y,
    fun i H => ∃ xs ys : List V, SqT K H a xs ∧ SqT K H b ys ∧ (xs.length ≤ i ∨ ys.length ≤ i)⟩
theorem turn_enumZ {P : Program} {w : World} {K : KF} {elts : List Expr} {kk : Nat} {tpos : Pos} {a b e z TI TO i1 i2 : Addr} (D : ZipApart z TI TO i1 i2 a b) (n1 : e ≠ z) (n2 : e ≠ TI) (n3 : e ≠ TO) (n4 : e ≠ i1) (n5 : e ≠ i2) :
    Turn P w K (.Tuple elts kk tpos) (IteZ K a b) [e, z, TI, TO, i1, i2] e (fun i h => (∃ old, IsEnum h e z ((i : Nat) : Int) old) ∧ (∃ f0 f1, OwnF f0 ∧ ZipS h z TI TO f0 f1) ∧ IsPair h TI (.ref i1) (.ref i2) ∧ (∃ x y, IsPair h TO x y) ∧ h.IsTupleIter i1 a i ∧ h.IsTupleIter i2 b i) where
  mem := by simp
  obj := fun i h st c hc => by
    obtain ⟨⟨old, he⟩, ⟨f0, f1, hf, hz⟩, hTI, ⟨x, y, hTO⟩, ⟨o1, e1, _, d1⟩, ⟨o2, e2, _, d2⟩⟩ := st
    have e' : c = e ∨ c = z ∨ c = TI ∨ c = TO ∨ c = i1 ∨ c = i2 := by simpa using hc
    rcases e' with q | q | q | q | q | q
    · rw [q]; exact ⟨_, he, fun v q => nomatch q⟩
    · rw [q]; exact ⟨_, hz, fun v q => nomatch q⟩
    · rw [q]; exact ⟨_, hTI, fun v q => nomatch q⟩
    · rw [q]; exact ⟨_, hTO, fun v q => nomatch q⟩
    · rw [q]; exact ⟨o1, e1, fun v q => by rw [d1] at q; cases q⟩
    · rw [q]; exact ⟨o2, e2, fun v q => by rw [d2] at q; cases q⟩
  keep := fun i h h' st k => by
    obtain ⟨⟨old, he⟩, ⟨f0, f1, hf, hz⟩, hTI, ⟨x, y, hTO⟩, h1, h2⟩ := st
    exact ⟨⟨old, k e (by simp) _ he⟩, ⟨f0, f1, hf, k z (by simp) _ hz⟩, k TI (by simp) _ hTI, ⟨x, y, k TO (by simp) _ hTO⟩, h1.at fun o q => k i1 (by simp) o q, h2.at fun o q => k i2 (by simp) o q⟩
  item := by
    intro X hP hw hK hc i pins s σ H E I hf st hg
    subst hP hw hK
    obtain ⟨⟨old, he⟩, ⟨f0, f1, hof, hz⟩, hTI, ⟨x0, y0, hTO⟩, h1, h2⟩ := st
    obtain ⟨xs, ys, x, y, hqx, hqy, hx, hy⟩ := hg
    obtain ⟨its, rv, p, _⟩ := I.tuple hqx
    obtain ⟨its2, rv2, p2, _⟩ := I.tuple hqy
    obtain ⟨u, hu, ru⟩ := rv.get hx
    obtain ⟨u2, hu2, ru2⟩ := rv2.get hy
    have hzl : z < s.heap.objs.size := Heap.lt_size hz
    have hel : e < s.heap.objs.size := Heap.lt_size he
    have hin : ∀ c, c ∈ [e, z, TI, TO, i1, i2] → c < s.heap.objs.size := fun c hcm => by
      have e' : c = e ∨ c = z ∨ c = TI ∨ c = TO ∨ c = i1 ∨ c = i2 := by simpa using hcm
      rcases e' with q | q | q | q | q | q
      · rw [q]; exact hel
      · rw [q]; exact hzl
      · rw [q]; exact Heap.lt_size hTI
      · rw [q]; exact Heap.lt_size hTO
      · rw [q]; obtain ⟨_, e1, _⟩ := h1; exact Heap.lt_size e1
      · rw [q]; obtain ⟨_, e2, _⟩ := h2; exact Heap.lt_size e2
    refine pyNext_enumG_item (R := fun v h' => ∃ f0' f1' a' b', v = .ref s.heap.objs.size ∧ OwnF f0' ∧ ZipS h' z TI TO f0' f1' ∧ IsPair h' TO a' b' ∧ h'.IsTupleIter i1 a (i + 1) ∧ h'.IsTupleIter i2 b (i + 1) ∧ IsPair h' s.heap.objs.size u u2 ∧ h'.objs.size = s.heap.objs.size + 1 ∧
      (∀ c o, c ≠ z → c ≠ TO → c ≠ i1 → c ≠ i2 → s.heap.get? c = some o → h'.get? c = some o)) he (fun hQ' => nextOf_zipS_item D hof hz hTI hTO h1 h2 p p2 (by simpa using hu) (by simpa using hu2) fun h' f0' f1' a' b' q0 q1 q2 q3 q4 q5 q6 q7 => hQ' _ _ ⟨f0', f1', a', b', rfl, q0, q1, q2, q3, q4, q5, q6, q7⟩) (fun v h' q => ?_) fun v h1' h2' tk q he' hT2 hsz2 hk2 => ?_
    · obtain ⟨f0', f1', a', b', -, q0, q1, q2, q3, q4, q5, q6, q7⟩ := q
      exact q7 e _ n1 n3 n4 n5 he
    · obtain ⟨f0', f1', a', b', rfl, q0, q1, q2, q3, q4, q5, q6, q7⟩ := q
      refine ⟨_, rfl, wpAny_letOwnedTupleGo_enum (s := { s with heap := h2', toks := tk + 1 }) he' fun h'' he'' sb => ?_⟩
      have hn1 : H s.heap.objs.size = none := I.hok.fresh (Nat.le_refl _)
      have new : ObjOk X.prog X.w (upd H s.heap.objs.size (.tup [x, y])) h1' s.heap.objs.size (.tup [x, y]) :=
        ⟨by show 2 ≤ sizeLine; decide, [u, u2], .cons ru (.cons ru2 .nil), ⟨_, q5, rfl, _, rfl⟩⟩
      have I1 : Inv X pins σ (upd H s.heap.objs.size (.tup [x, y])) { s with heap := h1' } :=
        I.turnedNew (t' := s.toks) (ch := [e, z, TI, TO, i1, i2]) (fun c o hb q => q7 c o (fun q' => hb (by simp [q'])) (fun q' => hb (by simp [q'])) (fun q' => hb (by simp [q'])) (fun q' => hb (by simp [q'])) q) hf (Nat.le_refl _) new
      have hf1 : ∀ c ∈ [e, z, TI, TO, i1, i2], FpOk X pins (upd H s.heap.objs.size (.tup [x, y])) c := fun c hcm => by
        obtain ⟨k1, k2⟩ := hf c hcm
        exact ⟨by rw [upd_ne (Nat.ne_of_lt (hin c hcm))]; exact k1, k2⟩
      have hn2 : (upd H s.heap.objs.size (.tup [x, y])) h1'.objs.size = none := I1.hok.fresh (Nat.le_refl _)
      have hT3 : h''.get? h1'.objs.size = some { cls := .type "tuple", data := .seq #[.int (i : Nat) tk, .ref s.heap.objs.size] } := (sb.2 _ (by rw [q6]; exact Nat.ne_of_gt (Nat.lt_succ_of_lt hel))).trans hT2
      have new2 : ObjOk X.prog X.w (upd (upd H s.heap.objs.size (.tup [x, y])) h1'.objs.size (.tup [.int (i : Nat), .ref s.heap.objs.size])) h'' h1'.objs.size (.tup [.int (i : Nat), .ref s.heap.objs.size]) :=
        ⟨by show 2 ≤ sizeLine; decide, [.int (i : Nat) tk, .ref s.heap.objs.size], .cons ⟨_, rfl⟩ (.cons rfl .nil), ⟨_, hT3, rfl, _, rfl⟩⟩
      have hk3 : ∀ c o, c ≠ e → h1'.get? c = some o → h''.get? c = some o := fun c o hc q => (sb.2 c hc).trans (hk2 c o hc q)
      have I2 : Inv X pins σ (upd (upd H s.heap.objs.size (.tup [x, y])) h1'.objs.size (.tup [.int (i : Nat), .ref s.heap.objs.size])) { s with heap := h'', toks := tk + 1 } :=
        I1.turnedNew (t' := tk + 1) (ch := [e, z, TI, TO, i1, i2]) (fun c o hb q => hk3 c o (fun q' => hb (by simp [q'])) q) hf1 (Nat.le_refl _) new2
      have e1 : ((i + 1 : Nat) : Int) = (i : Int) + 1 := by omega
      refine ⟨.ref h1'.objs.size, _, I2, rfl, ⟨_, _, x, y, rfl, hn1, hn2, rfl, fun l hl => by rw [I.tuple_inj hl hqx]; exact hx, fun l hl => by rw [I.tuple_inj hl hqy]; exact hy⟩, ⟨⟨_, by rw [e1]; exact he''⟩, ⟨_, _, q0, hk3 _ _ n1.symm q1⟩, ?_, ⟨_, _, hk3 _ _ n3.symm q2⟩, q3.at fun o q => hk3 _ o n4.symm q, q4.at fun o q => hk3 _ o n5.symm q⟩, fun c hcm => ?_⟩
      · exact hk3 _ _ n2.symm (q7 _ _ D.TIz D.TITO D.TIi1 D.TIi2 hTI)
      · have := hin c hcm
        rw [upd_ne (by rw [q6]; exact Nat.ne_of_lt (Nat.lt_succ_of_lt this)), upd_ne (Nat.ne_of_lt this)]
        exact (hf c hcm).1
  done := by
    intro X hP hw hK hc i pins s σ H E I hf st hg
    subst hP hw hK
    obtain ⟨⟨old, he⟩, ⟨f0, f1, hof, hz⟩, hTI, ⟨x0, y0, hTO⟩, h1, h2⟩ := st
    obtain ⟨xs, ys, hqx, hqy, hend⟩ := hg
    obtain ⟨its, rv, p, _⟩ := I.tuple hqx
    obtain ⟨its2, rv2, p2, _⟩ := I.tuple hqy
    have l1 := rv.length
    have l2 := rv2.length
    have hx : its.toArray[i]? = none ∨ its2.toArray[i]? = none := by
      rcases hend with q | q
      · exact .inl (by simp; omega)
      · exact .inr (by simp; omega)
    exact pyNext_enumZ_end (I.ok.hd hc) he D hof hz hTI hTO h1 h2 p p2 hx fun h' hk => ⟨rfl, I.turnedL (t' := s.toks) (ch := [e, z, TI, TO, i1, i2]) (fun c o hb q =>
      hk c o (fun q' => hb (by simp [q'])) (fun q' => hb (by simp [q'])) (fun q' => hb (by simp [q'])) (fun q' => hb (by simp [q'])) q) hf⟩
  self := fun A i s Q E st h => wpAny_pyIter_enum st.1.choose_spec h
section
variable {X : Cx} {W : WX} {K : KF} {H G : Hp} {ow : Addr → Option Who} {ι : List Addr} {σ : St} {δ : DL.Env} {τ : List (V × T)} {fs : List Fram} {M : Mem} {v u : V} {t : T} {e e' e2 : Expr} {p p2 pos pos2 : Pos}
def iEnumZ (K : KF) (ta : TA) : TI := fun σ H R => ta σ H fun vs H1 => ∃ a b xs ys, vs = [.ref a, .ref b] ∧ SqT K H1 a xs ∧ SqT K H1 b ys ∧ R (IteZ K a b) H1
theorem pi_enumZ {ta : TA} {tpos : Pos} {elts : List Expr} {kk : Nat} (hg : Gl X "zip") (hm : X.mg "zip" = none) (hg2 : Gl X "enumerate") (hm2 : X.mg "enumerate" = none) (ha : PA X [e, e2] ta)
    (hs2 : starEach [.Call (.Name "zip" p) [e, e2] [] pos] X.env = [(false, eval (.Call (.Name "zip" p) [e, e2] [] pos) X.env)] := by rfl)
    (hs : starEach [e, e2] X.env = (false, eval e X.env) :: starEach [e2] X.env := by rfl) (hpl : (backTo pos (starEach [e2] X.env)).any (·.1) = false := by rfl) :
    PI X (.Tuple elts kk tpos) (.Call (.Name "enumerate" p2) [.Call (.Name "zip" p) [e, e2] [] pos] [] pos2) (iEnumZ X.K ta) := by
  refine ⟨fun pins s σ H R I h => ?_⟩
  refine Call_ (ld_blt I hg2 hm2 PyProof.Rows.boot_enumerate (callWith_type1 (PyProof.Rows.args_cons ?_ hs2) hs2 rfl))
  refine Call_ (ld_blt I hg hm PyProof.Rows.boot_zip (callWith_type1 (thn (ha.run pos pins s σ H _ I h) fun us s1 ⟨vs, H1, I1, r1, q1⟩ => ?_) hs hpl))
  obtain ⟨a, b, xs, ys, ex, hqx, hqy, q⟩ := q1
  subst ex
  cases r1 with
  | cons r rr =>
    cases rr with
    | cons r' rr =>
      cases rr
      cases r
      cases r'
      obtain ⟨its, rv, p1, _⟩ := I1.tuple hqx
      obtain ⟨its2, rv2, p2, _⟩ := I1.tuple hqy
      obtain ⟨o1, ho1, _⟩ := id p1
      obtain ⟨o2, ho2, _⟩ := id p2
      refine call_zipT (show s1.heap.IsTuple a its.toArray from p1) (show s1.heap.IsTuple b its2.toArray from p2) fun h' hz hTI hTO h1 h2 hsz hk => PyProof.Rows.args_nil ?_
      refine enum_callZ (s := { s1 with heap := h' }) hz fun h'' he hk2 => wpAny_pyIter_enum he ?_
      have I2 : Inv X pins σ H1 { s1 with heap := h'' } := I1.kept (t' := s1.toks) fun b o q => hk2 b o (hk b o q)
      replace he : IsEnum h'' (s1.heap.objs.size + 5) (s1.heap.objs.size + 4) 0 .none := by rw [← hsz]; exact he
      show PIE X pins σ _ R (.ref h'.objs.size) _
      rw [hsz]
      refine ⟨s1.heap.objs.size + 5, [s1.heap.objs.size + 5, s1.heap.objs.size + 4, s1.heap.objs.size + 2, s1.heap.objs.size + 3, s1.heap.objs.size, s1.heap.objs.size + 1], _, _, H1, rfl, I2, turn_enumZ (PySem.W.ktu_apart s1.heap.objs.size a b (Heap.lt_size ho1) (Heap.lt_size ho2)) (neA 5 4 (by decide)) (neA 5 2 (by decide)) (neA 5 3 (by decide)) (neA 5 0 (by decide)) (neA 5 1 (by decide)), ⟨⟨_, he⟩, ⟨_, _, .inl rfl, hk2 _ _ hz⟩, hk2 _ _ hTI, ⟨_, _, hk2 _ _ hTO⟩, h1.at fun o q => hk2 _ o q, h2.at fun o q => hk2 _ o q⟩, fun c hcm => ?_, q⟩
      have e' : c = s1.heap.objs.size + 5 ∨ c = s1.heap.objs.size + 4 ∨ c = s1.heap.objs.size + 2 ∨ c = s1.heap.objs.size + 3 ∨ c = s1.heap.objs.size ∨ c = s1.heap.objs.size + 1 := by simpa using hcm
      have hle : s1.heap.objs.size ≤ c := by
        rcases e' with z | z | z | z | z | z
        · rw [z]; exact Nat.le_add_right _ _
        · rw [z]; exact Nat.le_add_right _ _
        · rw [z]; exact Nat.le_add_right _ _
        · rw [z]; exact Nat.le_add_right _ _
        · rw [z]; exact Nat.le_refl _
        · rw [z]; exact Nat.le_add_right _ _
      exact I1.fpOk hle (I1.hok.fresh hle)
def numZ (xs ys : List D) : List D := numD (zipD xs ys)
theorem iter_enumZ {a b : Addr} {xs ys : List D} : IterOk K (IteZ K a b) (V.non, T.st fun K' G' _ => At K' G' (.ref a) (.tuple xs) ∧ At K' G' (.ref b) (.tuple ys)) (numZ xs ys) := by
  refine ⟨rfl, fun i H σ δ τ fs M ⟨G, ow, ι, x⟩ => ?_⟩
  obtain ⟨⟨a', us, ea, qa, la⟩, b', ws, eb, qb, lb⟩ := (show At K G (.ref a) (.tuple xs) ∧ At K G (.ref b) (.tuple ys) from x.top G (Same.refl _))
  cases ea
  cases eb
  have ha : SqT K H a us := SqT.grow x.sub qa
  have hb : SqT K H b ws := SqT.grow x.sub qb
  have n1 := la.length
  have n2 := lb.length
  refine ⟨fun hi => ⟨us, ws, ha, hb, by rw [numZ, numD_length, zipD_length] at hi; omega⟩, fun d ed => ?_⟩
  obtain ⟨d2, ed2, rfl⟩ := numD_at ed
  obtain ⟨p, q, e1, e2, rfl⟩ := zipD_at ed2
  obtain ⟨vp, ep, ap⟩ := la.get e1
  obtain ⟨vq, eq, aq⟩ := lb.get e2
  refine ⟨⟨us, ws, vp, vq, ha, hb, ep, eq⟩, fun z H' yl => ?_⟩
  obtain ⟨A, B, p', q', rfl, hA, hB, rfl, f1, f2⟩ := yl
  have w1 := f1 us ha
  rw [ep] at w1; cases w1
  have w2 := f2 ws hb
  rw [eq] at w2; cases w2
  have r1 : Rep K (upd H A (.tup [vp, vq])) _ M := Rep.newTup ⟨G, ow, ι, x, AtL.two ap aq⟩ hA
  obtain ⟨G2, ow2, ι2, x2⟩ := r1
  have top : At K G2 (.ref A) (.tuple [p, q]) := x2.top
  exact Rep.newTup ⟨G2, ow2, ι2, x2.pop, AtL.two (show At K G2 (V.int (i : Nat)) (.int (i : Nat)) from rfl) top⟩ hB
def mEnumZ (fa : Sm (List T)) : Sm (List D) := bnd fa fun ts => match ts with
  | [.d (.tuple xs), .d (.tuple ys)] => ret (numZ xs ys)
  | _ => fail
theorem qi_enumZ {tpos : Pos} {elts : List Expr} {kk : Nat} {fa : Sm (List T)} (hg2 : Gl X "enumerate") (hm2 : X.mg "enumerate" = none) (hg : Gl X "zip") (hm : X.mg "zip" = none) (ha : QA X W [e, e2] fa)
    (hs2 : starEach [.Call (.Name "zip" p) [e, e2] [] pos] X.env = [(false, eval (.Call (.Name "zip" p) [e, e2] [] pos) X.env)] := by rfl)
    (hs : starEach [e, e2] X.env = (false, eval e X.env) :: starEach [e2] X.env := by rfl) (hpl : (backTo pos (starEach [e2] X.env)).any (·.1) = false := by rfl) : QI X W (.Tuple elts kk tpos) (.Call (.Name "enumerate" p2) [.Call (.Name "zip" p) [e, e2] [] pos] [] pos2) (mEnumZ fa) := by
  refine (pi_enumZ hg hm hg2 hm2 ha hs2 hs hpl).imp fun σ H R ⟨δ, τ, fs, M, r, q⟩ => ⟨δ, τ, fs, M, r, Res.post_mono (bnd_post q) (fun ts δ1 M1 q1 vs H1 hl r1 => ?_) fun _ _ _ z => z⟩
  split at q1
  · rename_i xs ys
    match vs, hl, r1 with
    | [v, w], _, r1 =>
      obtain ⟨G, ow, ι, x⟩ := r1
      have hb : At X.K G w (.tuple ys) := x.top
      have ha : At X.K G v (.tuple xs) := x.pop.top
      obtain ⟨a, us, rfl, qa, la⟩ := id ha
      obtain ⟨b, ws, rfl, qb, lb⟩ := id hb
      exact ⟨a, b, us, ws, rfl, SqT.grow x.sub qa, SqT.grow x.sub qb, q1 _ H1 _ iter_enumZ ⟨G, ow, ι, x.pop.pop.push fun G' s => ⟨At.mono s _ _ ha, At.mono s _ _ hb⟩⟩⟩
  · exact q1.elim
@[simp] theorem e_enumZ {fa : Sm (List T)} : mEnumZ fa δ M = bnd fa (fun ts => match ts with
  | [.d (.tuple xs), .d (.tuple ys)] => ret (numZ xs ys)
  | _ => fail) δ M := rfl
end
end DL

end
section
namespace DL
open PySem PySem.Spec L2
open PyProof.Rows (Tuple_ assign_Tuple_tuple IsTup assignInOrder_nil assignInOrder_cons)
variable {X : Cx} {W : WX} {K : KF} {H G : Hp} {ow : Addr → Option Who} {ι : List Addr} {σ : St} {δ : DL.Env} {τ : List (V × T)} {fs : List Fram} {M : Mem} {v u : V} {t : T} {e e' e2 : Expr} {pos : Pos}
/-! ### a, b = x, y where a name is a cell: the pair is made and taken apart; its parts keep what they are -/
section
variable {i j l : Nat} {x y z : Str} {a b c : Expr} {px py pz pt : Pos} {kt k2 pt2}
theorem ps_par2G {ta : TA} (hc : X.calm = true) (hN : X.N.Nodup) (hi : X.N[i]? = some x) (hj : X.N[j]? = some y)
    (hx : Loc X.env.scope x) (hy : Loc X.env.scope y) (fx : X.fn x = true ∨ X.env.scope.names.lookup x = some .local) (fy : X.fn y = true ∨ X.env.scope.names.lookup y = some .local) (ha : PA X [a, b] ta)
    (hw : swappedStores [.Tuple [.Name x px, .Name y py] kt pt] (.Tuple [a, b] k2 pt2) X.env = pure none) (hs : swapsWithSole [.Tuple [.Name x px, .Name y py] kt pt] (.Tuple [a, b] k2 pt2) pos.line X.env = pure false := by rfl)
    (h1 : (assignEach [.Tuple [.Name x px, .Name y py] kt pt] X.env).map (·.2) = [assign (.Tuple [.Name x px, .Name y py] kt pt) X.env] := by rfl)
    (h2 : (assignEach [.Name x px, .Name y py] X.env).map (·.2) = [assign (.Name x px) X.env, assign (.Name y py) X.env] := by rfl)
    (hn : (assignEach [.Name x px, .Name y py] X.env).length = 2 := by rfl) (hst : (assignEach [.Name x px, .Name y py] X.env).findIdx? (·.1) = none := by rfl) :
    PS X (.Assign [.Tuple [.Name x px, .Name y py] kt pt] (.Tuple [a, b] k2 pt2) pos) (tPar i j ta) := by
  refine ⟨fun pins s σ H D I h => ?_⟩
  refine wpAny_Assign_stores (Tuple_ (thn (ha.run _ pins s σ H _ I h) fun us s1 ⟨vs, H1, I1, r1, q1⟩ => ?_)) hs hw
  obtain ⟨v, w, e1, q1⟩ := q1
  subst e1
  obtain ⟨u1, u2, rfl, rv, rw'⟩ : ∃ u1 u2, us = [u1, u2] ∧ RelV v u1 ∧ RelV w u2 := by
    cases r1 with
    | cons p q =>
      cases q with
      | cons p' q' =>
        cases q'
        exact ⟨_, _, rfl, p, p'⟩
  refine wpAny_newObj_type ?_ (by show 2 ≤ sizeLine; decide)
  have I2 : Inv X pins σ H1 { s1 with heap := s1.heap.push { cls := .type "tuple", data := .seq [u1, u2].toArray } } := I1.kept (t' := s1.toks) fun b o e => Heap.get?_push_of_some _ e
  rw [h1]
  refine assign_Tuple_tuple (items := #[u1, u2]) (I1.ok.hd hc) (IsTup.new s1.heap _) (by rw [hn]; rfl) hst fun h' hx' => ?_
  have I3 := I2.kept (h' := h') (t' := s1.toks) fun b o e => hx' b o (Nat.ne_of_lt (Heap.lt_size e)) e
  rw [h2]
  refine assignInOrder_cons (wpAny_assign_Name (store_ok I3 hN hi hx rv (fun s2 I4 => ?_) fx))
  exact assignInOrder_cons (wpAny_assign_Name (store_ok I4 hN hj hy rw' (fun s3 I5 => assignInOrder_nil ⟨_, H1, I5, q1⟩) fy))
theorem ps_par3G {ta : TA} (hc : X.calm = true) (hN : X.N.Nodup) (hi : X.N[i]? = some x) (hj : X.N[j]? = some y) (hl : X.N[l]? = some z)
    (hx : Loc X.env.scope x) (hy : Loc X.env.scope y) (hz : Loc X.env.scope z) (fx : X.fn x = true ∨ X.env.scope.names.lookup x = some .local) (fy : X.fn y = true ∨ X.env.scope.names.lookup y = some .local) (fz : X.fn z = true ∨ X.env.scope.names.lookup z = some .local) (ha : PA X [a, b, c] ta)
    (hw : swappedStores [.Tuple [.Name x px, .Name y py, .Name z pz] kt pt] (.Tuple [a, b, c] k2 pt2) X.env = pure none) (hs : swapsWithSole [.Tuple [.Name x px, .Name y py, .Name z pz] kt pt] (.Tuple [a, b, c] k2 pt2) pos.line X.env = pure false := by rfl)
    (h1 : (assignEach [.Tuple [.Name x px, .Name y py, .Name z pz] kt pt] X.env).map (·.2) = [assign (.Tuple [.Name x px, .Name y py, .Name z pz] kt pt) X.env] := by rfl)
    (h2 : (assignEach [.Name x px, .Name y py, .Name z pz] X.env).map (·.2) = [assign (.Name x px) X.env, assign (.Name y py) X.env, assign (.Name z pz) X.env] := by rfl)
    (hn : (assignEach [.Name x px, .Name y py, .Name z pz] X.env).length = 3 := by rfl) (hst : (assignEach [.Name x px, .Name y py, .Name z pz] X.env).findIdx? (·.1) = none := by rfl) :
    PS X (.Assign [.Tuple [.Name x px, .Name y py, .Name z pz] kt pt] (.Tuple [a, b, c] k2 pt2) pos) (tPar3 i j l ta) := by
  refine ⟨fun pins s σ H D I h => ?_⟩
  refine wpAny_Assign_stores (Tuple_ (thn (ha.run _ pins s σ H _ I h) fun us s1 ⟨vs, H1, I1, r1, q1⟩ => ?_)) hs hw
  obtain ⟨v1, v2, v3, e1, q1⟩ := q1
  subst e1
  obtain ⟨u1, u2, u3, rfl, rv1, rv2, rv3⟩ : ∃ u1 u2 u3, us = [u1, u2, u3] ∧ RelV v1 u1 ∧ RelV v2 u2 ∧ RelV v3 u3 := by
    cases r1 with
    | cons p q =>
      cases q with
      | cons p' q' =>
        cases q' with
        | cons p'' q'' =>
          cases q''
          exact ⟨_, _, _, rfl, p, p', p''⟩
  refine wpAny_newObj_type ?_ (by show 3 ≤ sizeLine; decide)
  have I2 : Inv X pins σ H1 { s1 with heap := s1.heap.push { cls := .type "tuple", data := .seq [u1, u2, u3].toArray } } := I1.kept (t' := s1.toks) fun b o e => Heap.get?_push_of_some _ e
  rw [h1]
  refine assign_Tuple_tuple (items := #[u1, u2, u3]) (I1.ok.hd hc) (IsTup.new s1.heap _) (by rw [hn]; rfl) hst fun h' hx' => ?_
  have I3 := I2.kept (h' := h') (t' := s1.toks) fun b o e => hx' b o (Nat.ne_of_lt (Heap.lt_size e)) e
  rw [h2]
  refine assignInOrder_cons (wpAny_assign_Name (store_ok I3 hN hi hx rv1 (fun s2 I4 => ?_) fx))
  refine assignInOrder_cons (wpAny_assign_Name (store_ok I4 hN hj hy rv2 (fun s3 I5 => ?_) fy))
  exact assignInOrder_cons (wpAny_assign_Name (store_ok I5 hN hl hz rv3 (fun s4 I6 => assignInOrder_nil ⟨_, H1, I6, q1⟩) fz))
theorem qs_par2G {fa : Sm (List T)} (hc : X.calm = true) (hN : X.N.Nodup) (hi : X.N[i]? = some x) (hj : X.N[j]? = some y) (hij : i ≠ j)
    (hx : Loc X.env.scope x) (hy : Loc X.env.scope y) (ha : QA X W [a, b] fa)
    (hw : swappedStores [.Tuple [.Name x px, .Name y py] kt pt] (.Tuple [a, b] k2 pt2) X.env = pure none) (hs : swapsWithSole [.Tuple [.Name x px, .Name y py] kt pt] (.Tuple [a, b] k2 pt2) pos.line X.env = pure false := by rfl)
    (fx : X.fn x = true ∨ X.env.scope.names.lookup x = some .local := by first | exact .inl rfl | exact .inr rfl) (fy : X.fn y = true ∨ X.env.scope.names.lookup y = some .local := by first | exact .inl rfl | exact .inr rfl)
    (h1 : (assignEach [.Tuple [.Name x px, .Name y py] kt pt] X.env).map (·.2) = [assign (.Tuple [.Name x px, .Name y py] kt pt) X.env] := by rfl)
    (h2 : (assignEach [.Name x px, .Name y py] X.env).map (·.2) = [assign (.Name x px) X.env, assign (.Name y py) X.env] := by rfl)
    (hn : (assignEach [.Name x px, .Name y py] X.env).length = 2 := by rfl) (hst : (assignEach [.Name x px, .Name y py] X.env).findIdx? (·.1) = none := by rfl) :
    QS X W (.Assign [.Tuple [.Name x px, .Name y py] kt pt] (.Tuple [a, b] k2 pt2) pos) (mPar2 i j fa) := by
  refine (ps_par2G hc hN hi hj hx hy fx fy ha hw hs h1 h2 hn hst).imp fun D σ H ⟨δ, τ, fs, M, nb, r, q⟩ => ⟨δ, τ, fs, M, r, Res.post_mono (bnd_post q) (fun ts δ1 M1 q1 vs H1 hl r1 => ?_) fun _ _ _ z => xw z⟩
  match ts, vs, hl, r1, q1 with
  | [t, u], [v, w], _, r1, q1 =>
    simp only at q1
    split at q1
    · rename_i h
      obtain ⟨h1, h2, h3, h4⟩ := h
      refine ⟨v, w, rfl, q1 _ H1 ?_⟩
      have p1 := Rep.put (t := u) (v := w) r1 h2 (NB.cons h1 nb) (by rw [Rep.len r1]; exact h4)
      have p2 := Rep.put (t := t) (v := v) p1 h1 nb (by rw [Rep.len p1]; simpa using h3)
      rw [List.set_comm _ _ hij, List.set_comm _ _ hij]
      exact p2
    · exact q1.elim
theorem qs_par3G {fa : Sm (List T)} (hc : X.calm = true) (hN : X.N.Nodup) (hi : X.N[i]? = some x) (hj : X.N[j]? = some y) (hl : X.N[l]? = some z) (hij : i ≠ j) (hil : i ≠ l) (hjl : j ≠ l)
    (hx : Loc X.env.scope x) (hy : Loc X.env.scope y) (hz : Loc X.env.scope z) (ha : QA X W [a, b, c] fa)
    (hw : swappedStores [.Tuple [.Name x px, .Name y py, .Name z pz] kt pt] (.Tuple [a, b, c] k2 pt2) X.env = pure none) (hs : swapsWithSole [.Tuple [.Name x px, .Name y py, .Name z pz] kt pt] (.Tuple [a, b, c] k2 pt2) pos.line X.env = pure false := by rfl)
    (fx : X.fn x = true ∨ X.env.scope.names.lookup x = some .local := by first | exact .inl rfl | exact .inr rfl) (fy : X.fn y = true ∨ X.env.scope.names.lookup y = some .local := by first | exact .inl rfl | exact .inr rfl) (fz : X.fn z = true ∨ X.env.scope.names.lookup z = some .local := by first | exact .inl rfl | exact .inr rfl)
    (h1 : (assignEach [.Tuple [.Name x px, .Name y py, .Name z pz] kt pt] X.env).map (·.2) = [assign (.Tuple [.Name x px, .Name y py, .Name z pz] kt pt) X.env] := by rfl)
    (h2 : (assignEach [.Name x px, .Name y py, .Name z pz] X.env).map (·.2) = [assign (.Name x px) X.env, assign (.Name y py) X.env, assign (.Name z pz) X.env] := by rfl)
    (hn : (assignEach [.Name x px, .Name y py, .Name z pz] X.env).length = 3 := by rfl) (hst : (assignEach [.Name x px, .Name y py, .Name z pz] X.env).findIdx? (·.1) = none := by rfl) :
    QS X W (.Assign [.Tuple [.Name x px, .Name y py, .Name z pz] kt pt] (.Tuple [a, b, c] k2 pt2) pos) (mPar3 i j l fa) := by
  refine (ps_par3G hc hN hi hj hl hx hy hz fx fy fz ha hw hs h1 h2 hn hst).imp fun D σ H ⟨δ, τ, fs, M, nb, r, q⟩ => ⟨δ, τ, fs, M, r, Res.post_mono (bnd_post q) (fun ts δ1 M1 q1 vs H1 hl r1 => ?_) fun _ _ _ z => xw z⟩
  match ts, vs, hl, r1, q1 with
  | [t, u, o], [v, w, n], _, r1, q1 =>
    simp only at q1
    split at q1
    · rename_i h
      obtain ⟨h1, h2, h2', h3, h4, h5⟩ := h
      refine ⟨v, w, n, rfl, q1 _ H1 ?_⟩
      have p1 := Rep.put (t := o) (v := n) r1 h2' (NB.cons h2 (NB.cons h1 nb)) (by rw [Rep.len r1]; exact h5)
      have p2 := Rep.put (t := u) (v := w) p1 h2 (NB.cons h1 nb) (by rw [Rep.len p1]; simpa using h4)
      have p3 := Rep.put (t := t) (v := v) p2 h1 nb (by rw [Rep.len p2]; simpa using h3)
      have f : ∀ {α : Type} (s : List α) (p q r : α), ((s.set i p).set j q).set l r = ((s.set l r).set j q).set i p := fun s p q r => by
        rw [List.set_comm _ _ hij, List.set_comm _ _ hil, List.set_comm _ _ hjl]
      rw [f, f]
      exact p3
    · exact q1.elim
end
end DL

end
section
namespace DL
open PySem PySem.Spec L2
open PyProof.Rows
open PpSet (eval_SetComp codeAny_compStart_set compLoopS_any newSet_ok)
/-! ### sorted({elt for target in .. if ..}), elt an int -/
section
variable {X : Cx}
/-- set.add of an int -/
theorem addI_ok {pins : List (Addr × Obj)} {σ : L2.St} {H : Hp} {s : Shared} {E : Value → Shared → Prop} {D : Addr} {S : Int → Bool} {n : Nat} {y : Int} {tk : Tok} {Q : Value → Shared → Prop} (I : Inv X pins σ H s) (hD : H D = some (SetO X.w D S n)) (room : n + 1 < scanBound)
    (h : ∀ s', Inv X pins σ (upd H D (SetO X.w D (fun j => S j || decide (j = y)) (if S y = true then n else n + 1))) s' → Q .none s') : wpAny (model X.prog X.w) X.A (call (.builtin "set.add") [.ref D, .int y tk]) Q E s := by
  have R := setO_get I hD
  refine setR_add R room fun h' sb new => ?_
  have he : ∃ u, h'.get? D = some u := by
    have ⟨o, _, _, _, ho, _⟩ := new
    exact ⟨o, ho⟩
  exact h _ (I.write (e := D) (t' := s.toks + 1) (by rw [hD]; trivial) (.inl rfl) (fun b u hb hu => (sb.2 b hb).trans hu) he (setO_new new))
def tScI (w : World) (wi : TI) (g : TG) (tt : TT) (te : TE) (vs : List Nat) : TE := fun σ H Q => wi σ H fun J H1 => ∀ D, H1 D = none → ∃ Z : Nat → Nat → Hp → Prop, (∃ m, Z 0 m (upd H1 D (SetO w D (fun _ => false) 0))) ∧ ∀ i m H, Z i m H →
  (J.stop i H ∧ Q (.ref D) H) ∨ (J.go i H ∧ ∃ Nx : Hp → Prop, (∀ H', Nx H' → ∃ m', m' < m ∧ Z (i + 1) m' H') ∧ ∀ x H', J.yld i H x H' → g x (wipe σ vs) H' fun σ2 H2 => wipe σ2 vs = wipe σ vs ∧ tt σ2 H2 fun b H3 =>
    if b = true then te σ2 H3 fun y H4 => ∃ (c : Int) (S : Int → Bool) (n : Nat), y = .int c ∧ H4 D = some (SetO w D S n) ∧ n + 1 < scanBound ∧ Nx (upd H4 D (SetO w D (fun j => S j || decide (j = c)) (if S c = true then n else n + 1))) else Nx H3)
theorem pe_scI {elt tg iter : Expr} {ifs : List Expr} {scope : Scope} {own : List (PySem.Str × Nat)} {pos : Pos} {wi : TI} {g : TG} {tt : TT} {te : TE} (hc : X.calm = true) (hN : X.N.Nodup) (hi : PI X tg iter wi) (ok : BlkOk X.N X.env.scope scope own)
    (hg : ∀ (s : Shared) (H : Hp) (C : Addr) (cl : List (PySem.Str × Addr)) (fp : List Addr), PG (X.blk s H scope (compEnvC scope cl C X.env) fp) tg g)
    (ht : ∀ (s : Shared) (H : Hp) (C : Addr) (cl : List (PySem.Str × Addr)) (fp : List Addr), PTs (X.blk s H scope (compEnvC scope cl C X.env) fp) ifs tt)
    (he : ∀ (s : Shared) (H : Hp) (C : Addr) (cl : List (PySem.Str × Addr)) (fp : List Addr), PE (X.blk s H scope (compEnvC scope cl C X.env) fp) elt te)
    (hs : ∀ x, foldedSetIterable iter X.env x = pure x := by intro _; rfl) :
    PE X (.SetComp elt [⟨tg, iter, ifs, 0⟩] scope pos) (tScI X.w wi g tt te (own.map (·.2))) := by
  refine ⟨fun pins s σ H Q I h => ?_⟩
  rw [eval_SetComp]
  have hfree : ∀ y ∈ scope.names, y.2 = .free → ∃ c, X.env.cells.lookup y.1 = some c := fun y hy e => by
    rcases ok.free y hy e with k | k
    · exact I.ok.has _ (.inl k)
    · exact I.ok.has _ (.inr k)
  refine wpAny_comprehension_free (use := none) rfl hs (closure_ok hfree) ok.kind (fun y hy e => by rw [ok.uniq y hy, e])
    (thn (hi.run pins s σ H _ I h) fun xv s1 hx => thn hx fun itv s2 h2 => ?_)
  obtain ⟨it, fp, tn, J, H2, e, I2, T, st2, f2, q⟩ := h2
  subst e
  refine newSet_ok (newEnv_comp ?_)
  generalize hD : s2.heap.objs.size = D
  have hDn : H2 D = none := I2.hok.fresh (Nat.le_of_eq hD)
  obtain ⟨Z, ⟨m0, w0⟩, turn⟩ := q D hDn
  generalize hs3 : ({ s2 with heap := s2.heap.push { cls := .type "set", dict := none, data := .set #[] 0 (.fresh 0 0 (!X.w.params.followText "set-order")) } } : Shared) = s3
  generalize hO : SetO X.w D (fun _ => false) 0 = O at w0
  have I3 : Inv X pins σ (upd H2 D O) s3 := by
    rw [← hs3, ← hO]
    refine I2.laid (t' := s2.toks) (fun b o e => Heap.get?_push_of_some _ e) (Nat.le_of_eq hD) ?_
    rw [← hD]
    exact setO_new (setR_fresh X.w)
  have h3 : s3.heap = s2.heap.push { cls := .type "set", dict := none, data := .set #[] 0 (.fresh 0 0 (!X.w.params.followText "set-order")) } := by rw [← hs3]
  have f3 : ∀ b ∈ fp, FpOk X pins (upd H2 D O) b ∧ b < s3.heap.objs.size := fun b hb => by
    obtain ⟨o, e, _⟩ := T.obj _ _ st2 b hb
    have hlt := Heap.lt_size e
    refine ⟨⟨?_, (f2 b hb).2⟩, by rw [h3, Heap.size_push]; exact Nat.lt_succ_of_lt hlt⟩
    rw [upd_ne (by rw [← hD]; exact Nat.ne_of_lt hlt)]
    exact (f2 b hb).1
  have st3 : tn 0 s3.heap := T.keep _ _ _ st2 fun b _ o e => by rw [h3]; exact Heap.get?_push_of_some _ e
  have I4 := block_start I3 ok hN f3
  generalize hH3 : upd H2 D O = H3 at I3 I4 w0 f3
  have pg := hg s3 H3 s3.heap.objs.size (cellsFrom (s3.heap.objs.size + 1) scope.names (cloFrom X.env.cells scope.names [])) fp
  have pt := ht s3 H3 s3.heap.objs.size (cellsFrom (s3.heap.objs.size + 1) scope.names (cloFrom X.env.cells scope.names [])) fp
  have pe := he s3 H3 s3.heap.objs.size (cellsFrom (s3.heap.objs.size + 1) scope.names (cloFrom X.env.cells scope.names [])) fp
  have hRR : ∀ s' m H', Inv X pins σ H' s' → Q (.ref D) H' → s'.heap.Ns s3.heap.objs.size m → FpOk X pins H' s3.heap.objs.size → compPost (model X.prog X.w) X.A X.xe none (EP X pins σ Q) (.ref D) s3.heap.objs.size (.ok .next) s' := fun s' m H' I' q hn f => by
    refine ⟨m, hn, fun h'' sb => ?_⟩
    obtain ⟨f0, f1, f2, f3, f4, f5⟩ := f
    exact ⟨.ref D, H', I'.turned (t' := s'.toks) (fun b o hb e => (sb.2 b hb).trans e) f0 f1 f3 f4 f5, rfl, q⟩
  show codeAny _ _ (.compStart (.SetComp elt [⟨tg, iter, ifs, 0⟩] scope pos) 0 (.ref it) (.ref D) (compEnvC scope (cellsFrom (s3.heap.objs.size + 1) scope.names (cloFrom X.env.cells scope.names [])) s3.heap.objs.size X.env)) (compPost (model X.prog X.w) X.A X.xe none (EP X pins σ Q) (.ref D) s3.heap.objs.size) { s3 with heap := pushCells (s3.heap.push { cls := .type "dict", data := .dict #[] }) scope.names }
  have nfp : ∀ b ∈ fp, H3 b = none := fun b hb => (f3 b hb).1.1
  generalize hce : compEnvC scope (cellsFrom (s3.heap.objs.size + 1) scope.names (cloFrom X.env.cells scope.names [])) s3.heap.objs.size X.env = ce at I4 pg pt pe ⊢
  have cL : ce.locals = s3.heap.objs.size := by subst hce; rfl
  generalize hs4 : ({ s3 with heap := pushCells (s3.heap.push { cls := .type "dict", data := .dict #[] }) scope.names } : Shared) = s4 at I4 ⊢
  have st4 : tn 0 s4.heap := T.keep _ _ _ st3 fun b _ o e => by rw [← hs4]; exact pushCells_keeps _ _ _ _ (Heap.get?_push_of_some _ e)
  have stat : ∀ {σ' : L2.St} {H' : Hp} {s' : Shared}, Inv (X.blk s3 H3 scope ce fp) [] σ' H' s' → (∀ b ∈ fp, H' b = none) → ∀ b ∈ fp, FpOk (X.blk s3 H3 scope ce fp) [] H' b := fun {σ' H' s'} I' hn b hb =>
    ⟨hn b hb, (I'.ok.exf b hb).1, I'.ok.exfs b hb, .inl hb, fun x c e => (I'.ok.exf b hb).2 x c e, fun p hp => absurd (show p ∈ ([] : List (Addr × Obj)) ++ [] from hp) (by simp)⟩
  have loop : codeAny (model X.prog X.w) X.A (.compLoop (.SetComp elt [⟨tg, iter, ifs, 0⟩] scope pos) 0 (.ref it) (.ref D) ce) (compPost (model X.prog X.w) X.A X.xe none (EP X pins σ Q) (.ref D) s3.heap.objs.size) s4 := by
    refine compLoopS_any (fun n s' => ∃ i H', Inv (X.blk s3 H3 scope ce fp) [] (wipe σ (own.map (·.2))) H' s' ∧ tn i s'.heap ∧ (∀ b ∈ fp, H' b = none) ∧ Z i n H') ?_ m0 ⟨0, H3, I4, st4, nfp, w0⟩
    rintro n s5 ⟨i, H5, I5, st5, n5, w5⟩
    rcases turn i n H5 w5 with ⟨stop, qq⟩ | ⟨go, Nx, hNx, step⟩
    · refine thnF (T.done (X.blk s3 H3 scope ce fp) rfl rfl rfl hc i [] s5 _ H5 (fun _ _ => False) I5 (stat I5 n5) st5 stop) fun r s6 ⟨hr, I6⟩ => ?_
      subst hr
      have I7 : Inv X pins σ H5 s6 := I3.call' (ch := fp) I6.os I6.base I6.hok I6.bare fun b hb => ⟨(f3 b hb).1.2.2.2.1, (f3 b hb).1.2.1, (f3 b hb).1.2.2.2.2.1, (f3 b hb).1.2.2.2.2.2⟩
      have nC : H5 s3.heap.objs.size = none := by
        have z : H5 ce.locals = none := I6.free
        rw [cL] at z
        exact z
      obtain ⟨m, hn, _⟩ := I6.loc
      replace hn : s6.heap.Ns ce.locals m := hn
      rw [cL] at hn
      exact hRR s6 m H5 I7 qq hn (I3.fpOk (Nat.le_refl _) nC)
    · refine thnF (T.item (X.blk s3 H3 scope ce fp) rfl rfl rfl hc i [] s5 _ H5 (fun _ _ => False) I5 (stat I5 n5) st5 go) fun r s6 ⟨u, hr, h6⟩ => ?_
      subst hr
      refine thnF h6 fun _ s7 ⟨x, H7, I7, r7, y7, st7, n7⟩ => ?_
      refine thnF (pg.run _ s7 _ H7 x u _ (I7.pinned (stat I7 n7) (T.obj _ _ st7)) r7 (step x H7 y7)) fun _ s8 ⟨σ8, H8, I8, hw8, q8⟩ => ?_
      refine thnF (pt.run _ s8 σ8 H8 _ I8 q8) fun b s9 ⟨H9, I9, q9⟩ => ?_
      have fin : ∀ {s' : Shared} {H' : Hp}, Inv (X.blk s3 H3 scope ce fp) ([] ++ pinsAt fp s7.heap) σ8 H' s' → Nx H' → ∃ m, m < n ∧ ∃ i H', Inv (X.blk s3 H3 scope ce fp) [] (wipe σ (own.map (·.2))) H' s' ∧ tn i s'.heap ∧ (∀ b ∈ fp, H' b = none) ∧ Z i m H' := fun {s' H'} I' nx => by
        obtain ⟨m', hm, w'⟩ := hNx H' nx
        have pin' : ∀ b ∈ fp, ∀ o, s7.heap.get? b = some o → s'.heap.get? b = some o ∧ H' b = none := fun b hb o e =>
          let z := I'.pin (b, o) (List.mem_append_right _ (List.mem_append_right _ (mem_pinsAt hb e)))
          ⟨z.1, z.2.1⟩
        have hl : (wipe σ (own.map (·.2))).length = σ8.length := by rw [← hw8, wipe_length]
        refine ⟨m', hm, i + 1, H', (I'.unpinned (pins := [])).weak hl (fun j v e => ?_), T.keep _ _ _ st7 fun b hb o e => (pin' b hb o e).1, fun b hb => ?_, w'⟩
        · rw [← hw8] at e
          exact (wipe_some e).1
        · obtain ⟨o, e, _⟩ := T.obj _ _ st7 b hb
          exact (pin' b hb o e).2
      cases b with
      | false =>
        simp only [Bool.false_eq_true, if_false] at q9 ⊢
        exact fin I9 q9
      | true =>
        simp only [if_true] at q9 ⊢
        refine thnF (pe.run _ s9 σ8 H9 _ I9 q9) fun z s10 ⟨yv, H10, I10, r10, cb, S0, n0, ey, hD10, hz10, nx⟩ => ?_
        subst ey
        obtain ⟨tk, rfl⟩ := (show ∃ tk, z = Value.int cb tk from r10)
        exact addI_ok (X := X.blk s3 H3 scope ce fp) I10 hD10 hz10 fun s11 I11 => fin I11 nx
  exact codeAny_compStart_set loop (T.self X.A 0 _ _ _ st4 loop)
end
end DL

end
section
namespace DL
open PySem PySem.Spec L2
variable {X : Cx} {W : WX} {K : KF} {H G : Hp} {ow : Addr → Option Who} {ι : List Addr} {σ : St} {δ : DL.Env} {τ : List (V × T)} {fs : List Fram} {M : Mem} {v u : V} {t : T} {e e' e2 : Expr} {pos : Pos}
theorem lcF_pre {vs : List Nat} {tg : T → Sm Unit} {tt : Sm Bool} {te : Sm T} : ∀ (ds acc : List D) (δ : DL.Env) (M : Mem) (r : List D) (δ' : DL.Env) (M' : Mem), lcF vs tg tt te ds acc δ M = .ok r δ' M' → ∃ ys, r = acc ++ ys
  | [], acc, δ, M, r, δ', M', h => by
    unfold lcF ret at h
    cases h
    exact ⟨[], by simp⟩
  | d :: ds, acc, δ, M, r, δ', M', h => by
    unfold lcF at h
    cases e1 : tg (.d d) δ M with
    | ex a b c => simp only [e1] at h; cases h
    | bad => simp only [e1] at h; cases h
    | ok _ δ1 M1 =>
      simp only [e1, e_bnd] at h
      cases e2 : tt δ1 M1 with
      | ex a b c => simp only [e2] at h; cases h
      | bad => simp only [e2] at h; cases h
      | ok b δ2 M2 =>
        cases b with
        | false =>
          simp only [e2, Bool.false_eq_true, if_false] at h
          exact lcF_pre ds acc _ _ r δ' M' h
        | true =>
          simp only [e2, if_true, e_bnd] at h
          cases e3 : te δ2 M2 with
          | ex a b c => simp only [e3] at h; cases h
          | bad => simp only [e3] at h; cases h
          | ok t δ3 M3 =>
            simp only [e3] at h
            cases e4 : mFrz t δ3 M3 with
            | ex a b c => simp only [e4] at h; cases h
            | bad => simp only [e4] at h; cases h
            | ok t2 δ4 M4 =>
              simp only [e4] at h
              cases t2 with
              | d y =>
                obtain ⟨ys, hy⟩ := lcF_pre ds (acc ++ [y]) _ _ r δ' M' h
                exact ⟨y :: ys, by simp [hy]⟩
              | _ => cases h
theorem lcF_ok {vs : List Nat} {tg : T → Sm Unit} {tt : Sm Bool} {te : Sm T} {ds acc : List D} {P : List D → DL.Env → Mem → Prop} (h : (lcF vs tg tt te ds acc δ M).post P fun _ _ _ => False) : ∃ ys δ' M', P (acc ++ ys) δ' M' := by
  cases e : lcF vs tg tt te ds acc δ M with
  | ok r δ' M' =>
    rw [e] at h
    obtain ⟨ys, rfl⟩ := lcF_pre _ _ _ _ _ _ _ e
    exact ⟨ys, δ', M', h⟩
  | ex a b c => rw [e] at h; exact h.elim
  | bad => rw [e] at h; exact h.elim
theorem ints_pre {acc ys : List D} {ns : List Int} (h : acc ++ ys = ns.map PyData.int) : acc = (ns.take acc.length).map PyData.int := by
  rw [List.map_take, ← h]; simp
/-- the thing below the walked one is written -/
theorem Rep.ext2 {a : Addr} {y : D} {w : V} {tm : V × T} {φ φ' : Heap → Prop} (h : Rep K H (⟨σ, δ, (w, .d y) :: tm :: (.ref a, .ext φ) :: τ⟩ :: fs) M) : Rep K (upd H a (.ext φ')) (⟨σ, δ, tm :: (.ref a, .ext φ') :: τ⟩ :: fs) M := by
  obtain ⟨G, ow, ι, x⟩ := h
  obtain ⟨b, eb, ob, hb⟩ := x.pop.pop.top
  cases eb
  have gb := (x.own a _ ob).1
  have rt := x.pop.top
  refine ⟨G, ow, ι, RepG.push (RepG.push (x.pop.pop.pop.chg (fun w => w = .tmp fs.length τ.length) (fun w e => ⟨_, e, Nat.le_refl _⟩) (fun b w e nb => ⟨e, upd_ne ?_⟩) (Same.refl _) (fun b u e => ?_) (fun b w e => ?_)) ?_) ?_⟩
  · intro z; subst z; rw [ob] at e; cases e; exact nb rfl
  · by_cases hba : b = a
    · subst hba; rw [gb] at e; cases e
    · rw [upd_ne hba]; exact x.sub _ _ e
  · refine ⟨(x.own b w e).1, ?_⟩
    by_cases hba : b = a
    · subst hba; exact ⟨_, upd_same⟩
    · rw [upd_ne hba]; exact (x.own b w e).2
  · exact ⟨a, rfl, ob, upd_same⟩
  · refine rt.keep (Same.refl _) (fun b q => ⟨q, upd_ne ?_⟩) (fun _ _ q => q) (fun _ _ q => q)
    intro z; subst z
    rw [ob] at q
    have := Option.some.inj q
    injection this with _ e2
    simp at e2
def setP (w : World) (D : Addr) (ns us : List Int) : Heap → Prop := fun h => SetR w h D (fun j => decide (j ∈ ns)) us.length
theorem setP_next {w : World} {D : Addr} {ns us : List Int} {c : Int} : SetO w D (fun j => decide (j ∈ ns) || decide (j = c)) (if decide (c ∈ ns) = true then us.length else us.length + 1) = .ext (setP w D (ns ++ [c]) (if c ∈ ns then us else us ++ [c])) := by
  unfold SetO setP
  congr 1
  funext h
  have e1 : (fun j : Int => decide (j ∈ ns) || decide (j = c)) = fun j => decide (j ∈ ns ++ [c]) := by
    funext j
    simp [List.mem_append]
  have e2 : (if decide (c ∈ ns) = true then us.length else us.length + 1) = (if c ∈ ns then us else us ++ [c]).length := by
    by_cases hc : c ∈ ns <;> simp [hc]
  rw [e1, e2]
theorem sc_rd {w : World} {vs : List Nat} {g : Sm (List D)} {tg : T → Sm Unit} {tt : Sm Bool} {te : Sm T} {Q : VK} (q : tE K W (mSortSet (mLc vs g tg tt te)) σ H Q) : tScI w (tI K W g) (tGw K vs tg) (tT K WF tt) (tE K WF te) vs σ H (fun v H' => rSortedSet w [v] H' Q) := by
  obtain ⟨δ, τ, fs, M, r, q⟩ := q
  refine ⟨δ, τ, fs, M, r, Res.post_mono (bnd_post (bnd_post q)) (fun ds δ1 M1 q1 J H1 tm ok r1 P0 hD => ?_) fun _ _ _ z => z⟩
  split at q1
  · rename_i hz
    have r2 : Rep K (upd H1 P0 (.ext (setP w P0 [] []))) (⟨σ, δ1, (.ref P0, .ext (setP w P0 [] [])) :: tm :: τ⟩ :: fs) M1 := by
      obtain ⟨G, ow, ι, y⟩ := r1
      exact ⟨G, _, ι, (y.newO (o := .ext (setP w P0 [] [])) hD (.tmp fs.length (tm :: τ).length)).push ⟨P0, rfl, ownW_same, upd_same⟩⟩
    have nb0 : NB [tm, (V.ref P0, T.ext (setP w P0 [] []))] := NB.cons ok.nb (NB.cons rfl NB.nil)
    have r3 := Rep.blockIn (τ1 := [tm, (.ref P0, .ext (setP w P0 [] []))]) vs r2.swap nb0
    have hlen : σ.length = δ1.length := r1.len
    have q2 := lcEnd_post q1
    generalize hF : (fun (acc : List D) (δ' : DL.Env) (M' : Mem) => δ'.length = δ1.length ∧ Res.post (opt ((vw (.con (.lst acc)) (mergeE δ1 δ' vs) M').bind fSortSet) (mergeE δ1 δ' vs) M') (fun z δ' M' => ∀ (v : V) (H' : Hp), Rep K H' (⟨σ, δ', (v, z) :: τ⟩ :: fs) M' → Q v H') (wX K W σ τ fs)) = Fin
    have q2' : (lcF vs tg tt te ds [] (wipeE δ1 vs) M1).post Fin fun _ _ _ => False := by rw [← hF]; exact q2
    have fin : ∀ acc δ' M', Fin acc δ' M' → ∃ ns : List Int, acc = ns.map PyData.int ∧ ns.eraseDups.length < 64 ∧ ns.length < 4000 ∧ δ'.length = δ1.length ∧ ∀ (v : V) (H' : Hp), Rep K H' (⟨σ, mergeE δ1 δ' vs, (v, .con (.lst ((sortSet ns).map PyData.int))) :: τ⟩ :: fs) M' → Q v H' := by
      intro acc δ' M' hf
      rw [← hF] at hf
      obtain ⟨h1, h2⟩ := hf
      obtain ⟨z, ez, q3⟩ := opt_post h2
      obtain ⟨ds2, ns, e1, en, few, few2, rfl⟩ := fSortSet_inv (show fSortSet (.list acc) = some z from ez)
      cases e1
      exact ⟨ns, intsOf_eq en, few, few2, h1, q3⟩
    refine ⟨fun i m H => m = ds.length - i ∧ i ≤ ds.length ∧ ∃ ns us δ' M', us.Nodup ∧ (∀ x ∈ us, x ∈ ns) ∧ Rep K H (⟨wipe σ vs, δ', [tm, (.ref P0, .ext (setP w P0 ns us))]⟩ :: ⟨σ, onlyE δ1 vs, τ⟩ :: fs) M' ∧
      (lcF vs tg tt te (ds.drop i) (ns.map PyData.int) δ' M').post Fin fun _ _ _ => False,
      ⟨_, rfl, Nat.zero_le _, [], [], _, _, List.nodup_nil, fun _ z => z, r3, q2'⟩, ?_⟩
    rintro i m H2 ⟨rfl, hi, ns, us, δ2, M2, hnd, hsub, r4, q4⟩
    obtain ⟨stop, step⟩ := ok.turn i H2 _ δ2 _ _ M2 r4
    by_cases hlt : i < ds.length
    · have ed : ds[i]? = some ds[i] := List.getElem?_eq_getElem hlt
      obtain ⟨go, yld⟩ := step _ ed
      rw [drop_cons' ed] at q4
      refine .inr ⟨go, fun H' => i + 1 ≤ ds.length ∧ ∃ ns us δ' M', us.Nodup ∧ (∀ x ∈ us, x ∈ ns) ∧ Rep K H' (⟨wipe σ vs, δ', [tm, (.ref P0, .ext (setP w P0 ns us))]⟩ :: ⟨σ, onlyE δ1 vs, τ⟩ :: fs) M' ∧
        (lcF vs tg tt te (ds.drop (i + 1)) (ns.map PyData.int) δ' M').post Fin fun _ _ _ => False,
        fun H' n => ⟨ds.length - (i + 1), by omega, rfl, n.1, n.2⟩, fun x H' y => ?_⟩
      have r5 := yld x H' y
      have nb : NB [tm, (V.ref P0, T.ext (setP w P0 ns us))] := NB.cons ok.nb (NB.cons rfl NB.nil)
      unfold lcF at q4
      refine ⟨.d ds[i], δ2, [tm, (.ref P0, .ext (setP w P0 ns us))], _, M2, rfl, nb, r5, ?_⟩
      cases et : tg (.d ds[i]) δ2 M2 with
      | ex a b c => simp only [et] at q4; exact q4.elim
      | bad => simp only [et] at q4; exact q4.elim
      | ok _ δ3 M3 =>
        simp only [et] at q4
        have wp : ∀ σ3 : St, σ3 = σ3 → True := fun _ _ => trivial
        refine fun σ3 H3 ew r6 => ⟨?_, δ3, [tm, (.ref P0, .ext (setP w P0 ns us))], _, M3, r6, Res.post_mono (bnd_post q4) (fun b δ4 M4 q5 H4 r7 => ?_) fun _ _ _ z => z.elim⟩
        · rw [ew]
          apply List.ext_getElem?
          intro j
          simp only [wipe_at]
          split
          · cases σ[j]? <;> rfl
          · rfl
        have ew2 : wipe σ3 vs = wipe σ vs := by
          rw [ew]
          apply List.ext_getElem?
          intro j
          simp only [wipe_at]
          split
          · cases σ[j]? <;> rfl
          · rfl
        cases b with
        | false =>
          have r8 := r7.scrub (vs := vs) nb
          rw [ew2] at r8
          exact ⟨hlt, ns, us, _, M4, hnd, hsub, r8, q5⟩
        | true =>
          simp only [if_true] at q5 ⊢
          refine ⟨δ4, [tm, (.ref P0, .ext (setP w P0 ns us))], _, M4, r7, Res.post_mono (bnd_post (bnd_post q5)) (fun tv δ5 M5 q7 w' H5 r8 => ?_) fun _ _ _ z => z.elim⟩
          cases ef : mFrz tv δ5 M5 with
          | ex a b c => rw [ef] at q7; exact q7.elim
          | bad => rw [ef] at q7; exact q7.elim
          | ok t2 δ6 M6 =>
            rw [ef] at q7
            have r9 := r8.frz ef
            cases t2 with
            | d y =>
              replace q7 : (lcF vs tg tt te (ds.drop (i + 1)) (ns.map PyData.int ++ [y]) (wipeE δ6 vs) M6).post Fin fun _ _ _ => False := q7
              obtain ⟨ys, δ7, M7, hfin⟩ := lcF_ok q7
              obtain ⟨ns2, en2, few, few2, -, -⟩ := fin _ _ _ hfin
              have e3 := ints_pre en2
              have hl3 := congrArg List.length en2
              simp only [List.length_append, List.length_map, List.length_cons, List.length_nil] at hl3 e3
              obtain ⟨c, rfl⟩ : ∃ c : Int, y = .int c := by
                have hy : y ∈ (ns2.take (ns.length + (0 + 1))).map PyData.int := by rw [← e3]; simp
                obtain ⟨c, _, hc⟩ := List.mem_map.mp hy
                exact ⟨c, hc.symm⟩
              have hw : w' = .int c ∧ H5 P0 = some (.ext (setP w P0 ns us)) := by
                obtain ⟨G, ow, ι, z⟩ := r9
                refine ⟨z.top, ?_⟩
                obtain ⟨b, eb, _, hb⟩ := z.pop.pop.top
                cases eb
                exact hb
              have hul := nodup_le hnd hsub
              refine ⟨c, fun j => decide (j ∈ ns), us.length, hw.1, hw.2, by unfold scanBound; omega, ?_⟩
              rw [setP_next]
              have r10 := (r9.ext2 (φ' := setP w P0 (ns ++ [c]) (if c ∈ ns then us else us ++ [c]))).scrub (vs := vs) (NB.cons ok.nb (NB.cons rfl NB.nil))
              rw [ew2] at r10
              refine ⟨hlt, ns ++ [c], if c ∈ ns then us else us ++ [c], _, M6, ?_, ?_, r10, by rw [List.map_append]; exact q7⟩
              · split
                · exact hnd
                · rename_i hc
                  exact List.nodup_append.mpr ⟨hnd, by simp, fun a ha b hb hab => by
                    rw [List.mem_singleton.mp hb] at hab
                    exact hc (hab ▸ hsub a ha)⟩
              · split
                · exact fun x hx => List.mem_append_left _ (hsub x hx)
                · intro x hx
                  rcases List.mem_append.mp hx with hx | hx
                  · exact List.mem_append_left _ (hsub x hx)
                  · exact List.mem_append_right _ hx
            | _ => exact q7.elim
    · refine .inl ⟨stop (by omega), ?_⟩
      rw [List.drop_eq_nil_of_le (by omega)] at q4
      unfold lcF at q4
      obtain ⟨ns2, en2, few, few2, hle, q5⟩ := fin _ _ _ q4
      have ens : ns = ns2 := by
        have h0 : ∀ {a b : List Int}, a.map PyData.int = b.map PyData.int → a = b := fun {a b} h => by
          have := congrArg (List.map fun d : D => match d with | .int i => i | _ => 0) h
          simpa [Function.comp_def] using this
        exact h0 en2
      subst ens
      have hul : us.length ≤ ns.eraseDups.length := nodup_le hnd fun x hx => by rw [List.mem_eraseDups]; exact hsub x hx
      have hH : H2 P0 = some (.ext (setP w P0 ns us)) := by
        obtain ⟨G, ow, ι, z⟩ := r4
        obtain ⟨b, eb, _, hb⟩ := z.pop.top
        cases eb
        exact hb
      have r11 := Rep.blockOut (σ1 := wipe σ vs) (Rep.swap r4).nip rfl (fun j hj => by rw [wipe_at, if_neg hj]) hle.symm hlen
      refine ⟨P0, fun j => decide (j ∈ ns), us.length, rfl, hH, by omega, fun ns' p rise mem _ hp => ?_⟩
      have e1 : ns' = sortSet ns := sortSet_of rise mem
      subst e1
      obtain ⟨G, ow, ι, y⟩ := r11
      exact q5 _ _ (y.pop.lst (vs := (sortSet ns).map V.int) ints_atL hp)
  · exact q1.elim
theorem qe_sortSC {elt tg iter : Expr} {ifs : List Expr} {scope : Scope} {own : List (Str × Nat)} {g : Sm (List D)} {f : T → Sm Unit} {tt : Sm Bool} {te : Sm T} {p pos2 : Pos} (hc : X.calm = true) (hg0 : Gl X "sorted") (hm0 : X.mg "sorted" = none) (hN : X.N.Nodup) (hi : QI X W tg iter g) (ok : BlkOk X.N X.env.scope scope own)
    (hg : ∀ (s : Shared) (H : Hp) (C : Addr) (cl : List (Str × Addr)) (fp : List Addr), QGw (X.blk s H scope (compEnvC scope cl C X.env) fp) (own.map (·.2)) tg f)
    (ht : ∀ (s : Shared) (H : Hp) (C : Addr) (cl : List (Str × Addr)) (fp : List Addr), QTs (X.blk s H scope (compEnvC scope cl C X.env) fp) ifs tt)
    (he : ∀ (s : Shared) (H : Hp) (C : Addr) (cl : List (Str × Addr)) (fp : List Addr), QE (X.blk s H scope (compEnvC scope cl C X.env) fp) WF elt te) (hs : ∀ x, foldedSetIterable iter X.env x = pure x := by intro _; rfl)
    (s2 : starEach [.SetComp elt [⟨tg, iter, ifs, 0⟩] scope pos2] X.env = (false, eval (.SetComp elt [⟨tg, iter, ifs, 0⟩] scope pos2) X.env) :: starEach [] X.env := by rfl)
    (q2 : (backTo pos (starEach [] X.env)).any (·.1) = false := by rfl) :
    QE X W (.Call (.Name "sorted" p) [.SetComp elt [⟨tg, iter, ifs, 0⟩] scope pos2] [] pos) (mSortSet (mLc (own.map (·.2)) g f tt te)) :=
  (pe_callB (pos := pos) (p := p) (cr_sortedSet hc) hg0 hm0 boot_fn_sorted (pa_cons (pe_scI hc hN hi ok hg ht he hs) pa_nil s2) (by decide) (by decide) s2 q2).imp fun _ _ _ q => sc_rd q
end DL

end
section
namespace DL
open PySem PySem.Spec L2
open PyProof.Rows
variable {X : Cx} {W : WX} {K : KF} {H G : Hp} {ow : Addr → Option Who} {ι : List Addr} {σ : L2.St} {δ : DL.Env} {τ : List (V × T)} {fs : List Fram} {M : Mem} {v u : V} {t : T} {e e' e2 : Expr} {pos : Pos}
/-! ### x[::-1] of a tuple or a list -/
section
variable {prog : Program} {w : World} {A : Around} {E : Value → Shared → Prop} {s : Shared}
theorem rev_adjust (n : Nat) : Builtin.Slice.sliceAdjust none none (-1) (n : Int) = ((n : Int) - 1, -1) := by
  unfold Builtin.Slice.sliceAdjust
  simp
theorem rev_places (n : Nat) : Builtin.Slice.slicePlaces ((n : Int) - 1) (-1) (-1) = n := by
  unfold Builtin.Slice.slicePlaces
  simp
  try omega
theorem fm_congr {α β : Type} {f g : α → Option β} : ∀ {l : List α}, (∀ x ∈ l, f x = g x) → l.filterMap f = l.filterMap g
  | [], _ => rfl
  | a :: l, h => by
    rw [List.filterMap_cons, List.filterMap_cons, h a List.mem_cons_self, fm_congr fun x hx => h x (List.mem_cons_of_mem _ hx)]
theorem rev_pick (xs : Array Value) : ((List.range xs.size).filterMap fun (k : Nat) => xs[(((xs.size : Int) - 1) + (k : Int) * (-1)).toNat]?).toArray = xs.toList.reverse.toArray := by
  have e1 : (List.range xs.size).filterMap (fun (k : Nat) => xs[(((xs.size : Int) - 1) + (k : Int) * (-1)).toNat]?) = ((List.range xs.size).map fun k => xs.size - 1 - k).filterMap (xs[·]?) := by
    rw [List.filterMap_map]
    refine fm_congr fun k hk => ?_
    have := List.mem_range.mp hk
    have e2 : (((xs.size : Int) - 1) + (k : Int) * (-1)).toNat = xs.size - 1 - k := by omega
    simp only [e2, Function.comp_apply]
  rw [e1, PySem.W.krv_range, List.filterMap_reverse, PySem.W.krv_all]
theorem getItem_tuple_rev {t sl : Addr} {items : Array Value} {vl vu vs : Value} {Q : Value → Shared → Prop} (ht : IsTup s.heap t items) (hs : s.heap.IsSliceOf sl vl vu vs) (pl : IsPart vl none) (pu : IsPart vu none) (ps : IsPart vs (some (-1)))
    (h : Q (.ref s.heap.objs.size) { s with heap := s.heap.push { cls := .type "tuple", data := .seq items.toList.reverse.toArray } })
    (hsz : items.size ≤ sizeLine) : wpAny (model prog w) A (getItem (.ref t) (.ref sl)) Q E s := by
  obtain ⟨os, hos, hcs, hds⟩ := id hs
  have hTs : s.TypeIs (.ref sl) "slice" := ⟨os, hos, hcs⟩
  unfold getItem
  try with_reducible refine wpAny_holding ?_
  first | refine wpAny_bind (wpAny_pure ?_) | skip
  refine wpAny_bind (wpAny_sequenceKey ht.typeIs (by decide) ?_)
  refine wpAny_bind (wpAny_callSpecial?_slot (name := Str.ofString "__getitem__") ht.typeIs slot_tuple_getitem
    (wpAny_call_entry slot_tuple_getitem ht.typeIs entry_tuple_getitem ?_ (args_tuple_getitem _ _)))
  show wpAny _ _ (Builtin.Tuple.tupleItemsOf (.ref t) >>= _) _ _ s
  refine wpAny_bind (tupleItemsOf_ ht ?_)
  refine wpAny_bind (wpAny_typeOf hTs ?_)
  rw [if_pos (by decide)]
  refine wpAny_bind ?_
  unfold Builtin.Slice.sliceApplied Builtin.Slice.sliceFields
  refine wpAny_bind (wpAny_bind (wpAny_field hos hds (x := vl) rfl (wpAny_bind (wpAny_field hos hds (x := vu) rfl (wpAny_bind (wpAny_field hos hds (x := vs) rfl (wpAny_pure ?_)))))))
  refine wpAny_bind (HT.slicePart_ ps ?_)
  show wpAny _ _ (if ((-1 : Int) == 0) = true then _ else _) _ _ s
  rw [if_neg (by decide)]
  refine wpAny_bind (HT.slicePart_ pl (wpAny_bind (HT.slicePart_ pu (wpAny_bind (wpAny_pure ?_)))))
  show wpAny _ _ (match Builtin.Slice.sliceAdjust none none (-1) (items.size : Int) with | (lo, hi) => pure (lo, (-1 : Int), Builtin.Slice.slicePlaces lo hi (-1))) _ _ s
  rw [rev_adjust]
  show wpAny _ _ (pure (((items.size : Int) - 1), (-1 : Int), Builtin.Slice.slicePlaces ((items.size : Int) - 1) (-1) (-1))) _ _ s
  rw [rev_places]
  refine wpAny_pure ?_
  have hno : ¬ ((((items.size : Int) - 1) == 0 && (-1 : Int) == 1 && items.size == items.size) = true) := by
    intro q
    rw [Bool.and_eq_true, Bool.and_eq_true] at q
    exact absurd (eq_of_beq q.1.2) (by decide)
  show wpAny _ _ (if (((items.size : Int) - 1) == 0 && (-1 : Int) == 1 && items.size == items.size) = true then _ else _) _ _ s
  rw [if_neg hno, rev_pick]
  have hk : sizeOk (.seq items.toList.reverse.toArray) := by
    show items.toList.reverse.toArray.size ≤ sizeLine
    rw [List.size_toArray, List.length_reverse, Array.length_toList]; exact hsz
  refine wpAny_bind ?_
  unfold Builtin.Tuple.tupleExact
  exact wpAny_newObj_type (wpAny_pure ⟨_, rfl, wpAny_pure h⟩) hk
end
def tRevT (K : KF) (te : TE) : TE := fun σ H Q => te σ H fun x H1 => ∃ a xs, x = .ref a ∧ SqT K H1 a xs ∧ ∀ p, H1 p = none → Q (.ref p) (upd H1 p (.tup xs.reverse))
theorem pe_revT {te : TE} {k : Nat} {p1 p2 p3 : Pos} (he : PE X e te) : PE X (.Subscript e (.Slice none none (some (.UnaryOp .USub (.Constant (.int 1) k p1) p2)) p3) pos) (tRevT X.K te) := by
  refine ⟨fun pins s σ H Q I h => ?_⟩
  refine Subscript_ (thn (he.run pins s σ H _ I h) fun v s1 ⟨x, H1, I1, r1, q1⟩ => ?_)
  obtain ⟨a, xs, ex, hx, q⟩ := q1
  subst ex
  cases r1
  have hst : PO X (some (.UnaryOp .USub (.Constant (.int 1) k p1) p2)) (tPart (tUn (rU fun i => .int (-i)) (tC (.int 1)))) := po_some (pe_un un_neg pe_int)
  refine wpAny_Slice (thn (po_none.run pins s1 σ H1 (fun o H2 => o = none ∧ H2 = H1) I1 ⟨rfl, rfl⟩) fun vl s2 ⟨l, H2, I2, pl, el, e2⟩ => ?_)
  subst el e2
  refine thn (po_none.run pins s2 σ H2 (fun o H3 => o = none ∧ H3 = H2) I2 ⟨rfl, rfl⟩) fun vu s3 ⟨u, H3, I3, pu, eu, e3⟩ => ?_
  subst eu e3
  refine thn (hst.run pins s3 σ H3 (fun o H4 => o = some (-1) ∧ H4 = H3) I3 ⟨1, rfl, -1, rfl, rfl, rfl⟩) fun vs s4 ⟨o, H4, I4, ps, eo, e4⟩ => ?_
  subst eo e4
  have I5 : Inv X pins σ H4 { s4 with heap := s4.heap.push { cls := .type "slice", data := .fields #[vl, vu, vs] } } := I4.kept (t' := s4.toks) fun b ob q => Heap.get?_push_of_some _ q
  obtain ⟨its, r, ht, hz⟩ := I5.tuple hx
  have hlen := r.length
  show wpAny (model X.prog X.w) X.A (subscriptTail e (.Slice none none (some (.UnaryOp .USub (.Constant (.int 1) k p1) p2)) p3) (.ref a) (.ref s4.heap.objs.size)) (EP X pins σ Q) X.xe { s4 with heap := s4.heap.push { cls := .type "slice", data := .fields #[vl, vu, vs] } }
  refine tail_any (ops := [.ref a, .ref s4.heap.objs.size]) ht.typeIs (PyProof.Rows.slot_tuple_getitem.lookup) ?_ (by with_unfolding_all rfl)
  refine getItem_tuple_rev ht (Heap.IsSliceOf.new _ vl vu vs) pl pu ps ?_ (by rw [List.size_toArray]; omega)
  refine ⟨.ref _, _, I5.laid (t' := s4.toks) (o := .tup xs.reverse) (fun b ob q => Heap.get?_push_of_some _ q) (Nat.le_refl _) ?_, rfl, q _ (I5.hok.fresh (Nat.le_refl _))⟩
  exact ⟨by rw [List.length_reverse]; exact hz, _, r.reverse, ⟨_, Heap.get?_push_size _ rfl, rfl, _, rfl⟩⟩
def mRev (f : Sm T) : Sm T := bnd f fun t => fun δ M => match vw t δ M with
  | some (.tuple ds) => .ok (.d (.tuple ds.reverse)) δ M
  | some (.list ds) => .ok (.con (.lst ds.reverse)) δ M
  | _ => .bad
theorem _root_.L2.PE.or {e : Expr} {t1 t2 : TE} (h : PE X e t1) (h' : PE X e t2) : PE X e (fun σ H Q => t1 σ H Q ∨ t2 σ H Q) :=
  ⟨fun pins s σ H Q I q => q.elim (fun q => h.run pins s σ H Q I q) fun q => h'.run pins s σ H Q I q⟩
theorem qe_rev {f : Sm T} {k : Nat} {p1 p2 p3 : Pos} (he : QE X W e f) : QE X W (.Subscript e (.Slice none none (some (.UnaryOp .USub (.Constant (.int 1) k p1) p2)) p3) pos) (mRev f) := by
  refine (PE.or (pe_revL he) (pe_revT he)).imp fun σ H Q ⟨δ, τ, fs, M, r, q⟩ => ?_
  have q1 := bnd_post q
  cases ef : f δ M with
  | bad => rw [ef] at q1; exact q1.elim
  | ex x δ' M' => rw [ef] at q1; exact .inl ⟨δ, τ, fs, M, r, by rw [ef]; exact q1⟩
  | ok t δ' M' =>
    rw [ef] at q1
    replace q1 := post_ok.mp q1
    cases ev : vw t δ' M' with
    | none => simp only [ev] at q1; exact q1.elim
    | some d =>
      simp only [ev] at q1
      cases d with
      | tuple ds =>
        refine .inr ⟨δ, τ, fs, M, r, ?_⟩
        rw [ef]
        intro v H1 r1
        obtain ⟨G, ow, ι, x⟩ := r1
        obtain ⟨a, us, ea, hh, al⟩ := x.vw x.top ev
        exact ⟨a, us, ea, SqT.grow x.sub hh, fun p hp => q1 _ _ (Rep.newTup ⟨G, ow, ι, x.pop, al.rev⟩ hp)⟩
      | list ds =>
        refine .inl ⟨δ, τ, fs, M, r, ?_⟩
        rw [ef]
        intro v H1 r1
        obtain ⟨G, ow, ι, x⟩ := r1
        obtain ⟨a, us, ea, hh, al⟩ := x.vw x.top ev
        exact ⟨a, us, ea, SqL.of hh, fun p hp => q1 _ _ (x.pop.lst al.rev hp)⟩
      | _ => exact q1.elim
@[simp] theorem e_rev {f : Sm T} : mRev f δ M = bnd f (fun t => fun δ M => match vw t δ M with
  | some (.tuple ds) => .ok (.d (.tuple ds.reverse)) δ M
  | some (.list ds) => .ok (.con (.lst ds.reverse)) δ M
  | _ => .bad) δ M := rfl
/-! ### str(int) -/
def fStr : List D → Option D
  | [.int i] => if i.natAbs.log2 < 1920 then some (.str (toString i)) else Option.none
  | _ => Option.none
theorem b_str : BltD X W (fun xs H Q => ∃ i, xs = [.int i] ∧ i.natAbs.log2 < 1920 ∧ Q (.str (toString i)) H) (mPl fStr) := by
  refine pl_bltD fun H Q vs ds z hl hv ef k => ?_
  match ds, ef with
  | [.int i], ef =>
    unfold fStr at ef
    simp only at ef
    split at ef
    · rename_i h
      cases ef
      obtain ⟨v, rfl, a⟩ := one_arg hl hv
      exact ⟨i, by rw [show v = .int i from a], h, k _ fun G => rfl⟩
    · cases ef
/-! ### a def that calls itself: nothing is said of it at depth 0 -/
def gBad : Fm := fun _ _ => .bad
theorem fnG_bad {P : Program} {w : World} {K : KF} {mg : Str → Option Value} {base : Heap} {k n : Nat} {f : Addr} {fd : FuncData} {ps : List Str} : FnG P w K mg base k f fd ps (spG K n gBad) :=
  ⟨fun _ _ _ _ ⟨_, _, _, _, _, _, q⟩ => q.elim, fun _ _ _ _ _ ⟨_, _, _, _, _, _, q⟩ => q.elim⟩
end DL

end
section
namespace DL
open PySem PySem.Spec L2
variable {X : Cx} {W : WX} {K : KF} {H G : Hp} {ow : Addr → Option Who} {ι : List Addr} {σ : St} {δ : DL.Env} {τ : List (V × T)} {fs : List Fram} {M : Mem} {v u : V} {t : T} {e e' : Expr} {pos : Pos}

/-! ### a bool and an int: + and -; str of a bool -/
def bI (p : Bool) : Int := if p = true then 1 else 0
theorem gives_add_bi (p : Bool) (j : Int) (u : Tok) : Gives (Builtin.«int.__add__» ⟨[.bool p, .int j u], []⟩) (.int ((if p = true then (1 : Int) else 0) + j)) :=
  .of_wp fun M A E s Q h => by obtain ⟨hp, g, d, tk, os⟩ := s; wp_walk; exact ⟨_, rfl, h⟩
theorem gives_sub_bi (p : Bool) (j : Int) (u : Tok) : Gives (Builtin.«int.__sub__» ⟨[.bool p, .int j u], []⟩) (.int ((if p = true then (1 : Int) else 0) - j)) :=
  .of_wp fun M A E s Q h => by obtain ⟨hp, g, d, tk, os⟩ := s; wp_walk; exact ⟨_, rfl, h⟩
theorem op_add_bi : OpR X (binaryOp .Add) (fun x y H Q => ∃ p j, x = .bl p ∧ y = .int j ∧ Q (.int (bI p + j)) H) := by
  intro pins s σ H x y v u Q I rx ry h
  obtain ⟨p, j, rfl, rfl, q⟩ := h
  cases rx
  obtain ⟨t, rfl⟩ := ry
  exact binaryOp_left_gives (op := .Add) (T := "bool") (U := "int") (by decide) rfl (fun s' => typeIs_int s' j t) F.fills_bool_add F.fills_int_add F.sub_int_bool F.slot_bool_add F.slot_int_radd F.entry_int_add (F.args_int_add_2 _ _) (gives_add_bi p j t) trivial ⟨.int (bI p + j), H, I.tok _, ⟨_, rfl⟩, q⟩
theorem op_sub_bi : OpR X (binaryOp .Sub) (fun x y H Q => ∃ p j, x = .bl p ∧ y = .int j ∧ Q (.int (bI p - j)) H) := by
  intro pins s σ H x y v u Q I rx ry h
  obtain ⟨p, j, rfl, rfl, q⟩ := h
  cases rx
  obtain ⟨t, rfl⟩ := ry
  exact binaryOp_left_gives (op := .Sub) (T := "bool") (U := "int") (by decide) rfl (fun s' => typeIs_int s' j t) F.fills_bool_sub F.fills_int_sub F.sub_int_bool F.slot_bool_sub F.slot_int_rsub F.entry_int_sub (F.args_int_sub_2 _ _) (gives_sub_bi p j t) trivial ⟨.int (bI p - j), H, I.tok _, ⟨_, rfl⟩, q⟩
def fAddB (a b : D) : Option T := match a, b with
  | .bool p, .int j => some (.d (.int (bI p + j)))
  | .bool _, _ => Option.none
  | a, b => fAdd a b
def fSubB (a b : D) : Option D := match a, b with
  | .bool p, .int j => some (.int (bI p - j))
  | a, b => fSub a b
theorem opt_addB : OpT X (fun x y H Q => ((((rI0 fun i j => .int (i + j)) x y H Q ∨ ∃ i j, x = .str i ∧ y = .str j ∧ i.length + j.length ≤ sizeLine ∧ Q (.str (i ++ j)) H) ∨ rCat x y H Q) ∨ rCatA X.K x y H Q) ∨ ∃ p j, x = .bl p ∧ y = .int j ∧ Q (.int (bI p + j)) H) fAddB := by
  intro σ δ τ fs M v u H G ow ι Q a b z x ha hb ef q
  match a, b, ef with
  | .bool p, .int j, ef =>
    cases ef
    exact .inr ⟨p, j, ha, hb, q _ H ⟨G, ow, ι, x.push (t := .d (.int (bI p + j))) rfl⟩⟩
  | .int i, b, ef => exact .inl (opt_add σ δ τ fs M v u H G ow ι Q (.int i) b z x ha hb ef q)
  | .str i, b, ef => exact .inl (opt_add σ δ τ fs M v u H G ow ι Q (.str i) b z x ha hb ef q)
  | .list i, b, ef => exact .inl (opt_add σ δ τ fs M v u H G ow ι Q (.list i) b z x ha hb ef q)
  | .tuple i, b, ef => exact .inl (opt_add σ δ τ fs M v u H G ow ι Q (.tuple i) b z x ha hb ef q)
theorem qe_addB {f g : Sm T} (h : QE X W e f) (h' : QE X W e' g) : QE X W (.BinOp e .Add e' pos) (mOpT fAddB f g) := qe_opT ((((op_add.or op_add_str).or op_cat).or op_catA).or op_add_bi) opt_addB h h'
theorem opd_subB : OpD X (fun x y H Q => (rI0 fun i j => .int (i - j)) x y H Q ∨ ∃ p j, x = .bl p ∧ y = .int j ∧ Q (.int (bI p - j)) H) fSubB := by
  intro v u H Q a b z ha hb ef k
  match a, b, ef with
  | .bool p, .int j, ef =>
    cases ef
    exact .inr ⟨p, j, ha, hb, k _ fun G => rfl⟩
  | .int i, .int j, ef =>
    exact .inl (opd_ii0 (X := X) (g := fun i j => .int (i - j)) (gv := fun i j => .int (i - j)) (fun _ _ _ => rfl) v u H Q (.int i) (.int j) z ha hb ef k)
theorem qe_subB {f g : Sm T} (h : QE X W e f) (h' : QE X W e' g) : QE X W (.BinOp e .Sub e' pos) (mOp2 fSubB f g) := qe_op2 (op_sub.or op_sub_bi) opd_subB h h'
theorem e_addB {a b : D} (h : ∀ p, a ≠ .bool p) : fAddB a b = fAdd a b := by
  cases a <;> first | rfl | exact absurd rfl (h _)
@[simp] theorem e_addBb {p : Bool} {j : Int} : fAddB (.bool p) (.int j) = some (.d (.int (bI p + j))) := rfl
@[simp] theorem e_subBb {p : Bool} {j : Int} : fSubB (.bool p) (.int j) = some (.int (bI p - j)) := rfl
@[simp] theorem e_addBi {i j : Int} : fAddB (.int i) (.int j) = some (.d (.int (i + j))) := rfl
@[simp] theorem e_subBi {i j : Int} : fSubB (.int i) (.int j) = some (.int (i - j)) := rfl
@[simp] theorem e_addBt {a b : List D} : fAddB (.tuple a) (.tuple b) = fAdd (.tuple a) (.tuple b) := rfl
@[simp] theorem e_addBl {a b : List D} : fAddB (.list a) (.list b) = fAdd (.list a) (.list b) := rfl
/-! str -/
theorem call_str_ib : CallR X (.type "str") (fun xs H Q => (∃ i, xs = [.int i] ∧ i.natAbs.log2 < 1920 ∧ Q (.str (toString i)) H) ∨ ∃ p, xs = [.bl p] ∧ Q (.str (if p = true then "True" else "False")) H) := by
  intro pins s σ H xs us Q I r h
  rcases h with h | ⟨p, rfl, q⟩
  · exact call_str_int pins s σ H xs us Q I r h
  · obtain ⟨u, rfl, rfl⟩ := vals1 r
    exact PySem.P.str_of_bool ⟨.str _, H, I.tok _, ⟨_, rfl⟩, q⟩
def fStrB : List D → Option D
  | [.int i] => if i.natAbs.log2 < 1920 then some (.str (toString i)) else Option.none
  | [.bool p] => some (.str (if p = true then "True" else "False"))
  | _ => Option.none
theorem b_strB : BltD X W (fun xs H Q => (∃ i, xs = [.int i] ∧ i.natAbs.log2 < 1920 ∧ Q (.str (toString i)) H) ∨ ∃ p, xs = [.bl p] ∧ Q (.str (if p = true then "True" else "False")) H) (mPl fStrB) := by
  refine pl_bltD fun H Q vs ds z hl hv ef k => ?_
  match ds, ef with
  | [.int i], ef =>
    unfold fStrB at ef
    simp only at ef
    split at ef
    · rename_i h
      cases ef
      obtain ⟨v, rfl, a⟩ := one_arg hl hv
      exact .inl ⟨i, by rw [show v = .int i from a], h, k _ fun G => rfl⟩
    · cases ef
  | [.bool p], ef =>
    cases ef
    obtain ⟨v, rfl, a⟩ := one_arg hl hv
    exact .inr ⟨p, by rw [show v = .bl p from a], k _ fun G => rfl⟩
end DL

end
section
namespace DL
open PySem PySem.Spec L2
open PyProof.Rows (envOfC)

/-! ### a lambda without parameters, handed to a def -/
def maskD (δ : DL.Env) : DL.Env := δ.map fun o => match o with
  | some (.d x) => some (T.d x)
  | _ => none
theorem mask_at {δ : DL.Env} {i : Nat} {t : T} (e : (maskD δ)[i]? = some (some t)) : ∃ x, t = .d x ∧ δ[i]? = some (some (.d x)) := by
  unfold maskD at e
  rw [List.getElem?_map] at e
  cases h : δ[i]? with
  | none => rw [h] at e; cases e
  | some o =>
    rw [h] at e
    cases o with
    | none => cases e
    | some t' =>
      cases t' with
      | d x => cases e; exact ⟨x, rfl, rfl⟩
      | _ => cases e
/-- what is told of a closure: where it stands, its code's name, the data that its maker's names held -/
def phi (f c : Addr) (q : PySem.Str) (σ : St) (δ : DL.Env) : KF → Hp → V → Prop := fun K G v => v = .ref f ∧ G c = some (LamX.CodeO c q) ∧ σ.length = δ.length ∧ ∀ (i : Nat) (x : D), δ[i]? = some (some (.d x)) → ∃ u, σ[i]? = some (some u) ∧ At K G u x
/-- what a closure answers: its body where the maker's names hold their data -/
def askOf (f : Sm T) (δ : DL.Env) : Mem → Res T := fun M => match f (maskD δ) M with
  | .ok t _ M' => if t.isBor = true then .bad else .ok t [] M'
  | .ex x _ M' => .ex x [] M'
  | .bad => .bad
def back {α : Type} (r : Res α) (δ : DL.Env) : Res α := match r with
  | .ok t _ M' => .ok t δ M'
  | .ex x _ M' => .ex x δ M'
  | .bad => .bad
open Classical in
/-- a(), where a's slot is 0 -/
noncomputable def mAsk (φ : KF → Hp → V → Prop) (ask : Mem → Res T) : Sm T := fun δ M =>
  if δ[0]? = some (some (.st φ)) then back (ask M) δ else .bad
open Classical in
/-- g(lambda: f): what g says whatever the closure is -/
noncomputable def mLam (n : Nat) (nm : PySem.Str) (G : (KF → Hp → V → Prop) → (Mem → Res T) → Fm) (f : Sm T) : Sm T := fun δ M =>
  if h : M[n]? = some (.tab nm) ∧ ∃ r : Res T, ∀ φ, G φ (askOf f δ) [.st φ] M = r then (match back h.2.choose δ with
    | .ok t δ' M' => if t.isBor = true then .bad else .ok t δ' M'
    | r => r) else .bad
theorem e_lam {n : Nat} {nm : PySem.Str} {G : (KF → Hp → V → Prop) → (Mem → Res T) → Fm} {f : Sm T} {δ : DL.Env} {M : Mem} {r : Res T} (ht : M[n]? = some (.tab nm)) (h : ∀ φ, G φ (askOf f δ) [.st φ] M = r) :
    mLam n nm G f δ M = (match back r δ with
    | .ok t δ' M' => if t.isBor = true then .bad else .ok t δ' M'
    | r => r) := by
  have hh : M[n]? = some (.tab nm) ∧ ∃ r : Res T, ∀ φ, G φ (askOf f δ) [.st φ] M = r := ⟨ht, r, h⟩
  unfold mLam
  rw [dif_pos hh]
  have e : hh.2.choose = r := by
    have := hh.2.choose_spec (fun _ _ _ => True)
    rw [← this]; exact h _
  rw [e]
theorem lam_ok {n : Nat} {nm : PySem.Str} {G : (KF → Hp → V → Prop) → (Mem → Res T) → Fm} {f : Sm T} {δ : DL.Env} {M : Mem} {x : D} {δ' : DL.Env} {M' : Mem} (ht : M[n]? = some (.tab nm)) (h : ∀ φ, G φ (askOf f δ) [.st φ] M = .ok (.d x) δ' M') :
    mLam n nm G f δ M = .ok (.d x) δ M' := by rw [e_lam ht h]; rfl
theorem ask_ok {f : Sm T} {δ δ' : DL.Env} {M M' : Mem} {x : D} (h : f (maskD δ) M = .ok (.d x) δ' M') : askOf f δ M = .ok (.d x) [] M' := by unfold askOf; rw [h]; rfl
theorem ask_ex {f : Sm T} {δ δ' : DL.Env} {M M' : Mem} {x : XD} (h : f (maskD δ) M = .ex x δ' M') : askOf f δ M = .ex x [] M' := by unfold askOf; rw [h]
theorem mAsk_eq {φ : KF → Hp → V → Prop} {ask : Mem → Res T} {δ : DL.Env} {M : Mem} (h : δ[0]? = some (some (.st φ))) : mAsk φ ask δ M = back (ask M) δ := by
  unfold mAsk; rw [if_pos h]
@[simp] theorem mAsk_c {φ : KF → Hp → V → Prop} {ask : Mem → Res T} {δ : DL.Env} {M : Mem} : mAsk φ ask (some (.st φ) :: δ) M = back (ask M) (some (.st φ) :: δ) := mAsk_eq rfl
@[simp] theorem back_ok {α : Type} {a : α} {δ δ' : DL.Env} {M : Mem} : back (.ok a δ' M) δ = .ok a δ M := rfl
@[simp] theorem back_ex {α : Type} {x : XD} {δ δ' : DL.Env} {M : Mem} : back (.ex x δ' M : Res α) δ = .ex x δ M := rfl

section
variable {X : Cx} {pins : List (Addr × Obj)} {σ : St} {H : Hp} {s : Shared}
/-- the closure is made: its code object is new, or one of the table -/
theorem lam_make {c P : Addr} {ps : Array Value} {params : Arguments} {body : Expr} {scope : Scope} {pos : Pos} {E Q : Value → Shared → Prop} (I : Inv X pins σ H s) (TB : LamX.TabB X.base X.mg c P) (hcode : X.env.code = .ref c) (hP : H P = some (.tbl ps)) (ht : TriplesOk ps.toList)
    (ha : ∀ cv, codeAmong pos ps.toList = some cv → ∃ c', cv = .ref c' ∧ H c' = some (LamX.CodeO c' (X.env.qual ++ "<lambda>"))) (hdef : defaultsOf params X.env = ([], [])) (hfree : ∀ y ∈ scope.names, y.2 = .free → ∃ c, X.env.cells.lookup y.1 = some c)
    (go : ∀ (f c' : Addr) (pm ctv : Value) (H1 : Hp) (s' : Shared), Inv X pins σ H1 s' → s'.heap.get? f = some (PySem.W.kla_obj "<lambda>" (X.env.qual ++ "<lambda>") params body scope (cloFrom X.env.cells scope.names []) pm c' ctv) → H1 f = none → f ∉ frs X.stack →
      ((H1 = H ∧ codeAmong pos ps.toList = some (.ref c')) ∨ (H c' = none ∧ H1 = upd (upd H P (.tbl (ps ++ #[rawInt pos.line, rawInt pos.col, .ref c']))) c' (LamX.CodeO c' (X.env.qual ++ "<lambda>")))) → Q (.ref f) s') :
    wpAny (model X.prog X.w) X.A (eval (.Lambda params body scope pos) X.env) Q E s := by
  refine PySem.W.kla_eval hdef ?_
  have bP : s.heap.BuiltinsAt X.mg P := TB.bm.keeps I.bk
  have hP1 : s.heap.get? P = some { cls := .none, data := .fields ps } := I.hok P _ hP
  have nfr : ∀ f, s.heap.objs.size ≤ f → f ∉ frs X.stack := fun f hf z => (List.mem_cons.mp (I.stkSub _ z)).elim (fun e => Nat.lt_irrefl _ (Nat.lt_of_lt_of_le (by rw [e]; exact I.lt) hf)) (fun e => I.nofs hf e)
  cases hc : codeAmong pos ps.toList with
  | some cv =>
    obtain ⟨c', e, hco⟩ := ha cv hc
    subst e
    refine PySem.W.kla_makeFunctionHit (mg := X.mg) (c := c) (P := P) (ps := ps) (closure_ok hfree) I.ok.glob (I.mod.glob.keeps I.bk) hcode (TB.code.keeps I.bk) hP1 ht hc bP fun ctv h' tk hx hsz => ?_
    have I1 : Inv X pins σ H { s with heap := h'.push (PySem.W.kla_obj "<lambda>" (X.env.qual ++ "<lambda>") params body scope (cloFrom X.env.cells scope.names []) ((X.mg "__name__").getD .none) c' ctv), toks := tk } := I.kept fun b o q => Heap.get?_push_of_some _ (hx b o q)
    exact go h'.objs.size c' ((X.mg "__name__").getD .none) ctv H _ I1 (Heap.get?_push_size _ rfl) (I.hok.fresh hsz) (nfr _ hsz) (.inl ⟨rfl, hc⟩)
  | none =>
    refine PySem.W.kla_makeFunction (mg := X.mg) (c := c) (P := P) (ps := ps) (closure_ok hfree) I.ok.glob (I.mod.glob.keeps I.bk) hcode (TB.code.keeps I.bk) hP1 ht hc TB.gP bP fun c' ctv h' tk hx hge hlt hrec htb => ?_
    obtain ⟨c2, oc, vs, t, e2, hoc, hd, hv⟩ := hrec
    cases e2
    have hsz : s.heap.objs.size ≤ h'.objs.size := Nat.le_trans hge (Nat.le_of_lt hlt)
    have nC : H c' = none := I.hok.fresh hge
    have I1 := LamX.inv_table (t' := tk) (more := #[rawInt pos.line, rawInt pos.col, .ref c']) (h' := h'.push (PySem.W.kla_obj "<lambda>" (X.env.qual ++ "<lambda>") params body scope (cloFrom X.env.cells scope.names []) ((X.mg "__name__").getD .none) c' ctv)) I hP (fun b o hb e => Heap.get?_push_of_some _ (hx b o hb e))
      (Heap.get?_push_of_some _ htb) hge ⟨oc, vs, t, Heap.get?_push_of_some _ hoc, hd, hv⟩
    refine go h'.objs.size c' ((X.mg "__name__").getD .none) ctv _ _ I1 (Heap.get?_push_size _ rfl) ?_ (nfr _ hsz) (.inr ⟨nC, rfl⟩)
    rw [upd_ne (Nat.ne_of_gt hlt), upd_ne (Nat.ne_of_gt (Nat.lt_of_lt_of_le (Heap.lt_size hP1) hsz))]
    exact I.hok.fresh hsz
end
section
variable {K : KF} {H G : Hp} {ow : Addr → Option Who} {ι : List Addr} {σ : St} {δ : DL.Env} {τ : List (V × T)} {fs : List Fram} {M : Mem}
/-- a table has grown by a code object that is new -/
theorem RepG.tabNew {n : Nat} {x : PySem.Str} {c' : Addr} {ps : Array Value} {pos : Pos} (r : RepG K H G ow ι fs M) (hn : M[n]? = some (.tab x)) (hP : H (tabA K x) = some (.tbl ps)) (hc : H c' = none) :
    RepG K (upd (upd H (tabA K x) (.tbl (ps ++ #[rawInt pos.line, rawInt pos.col, .ref c']))) c' (LamX.CodeO c' (lamN x))) (upd G c' (LamX.CodeO c' (lamN x))) ow ι fs M := by
  obtain ⟨a, q1, q2, h0, ps', h1, h2, h3⟩ := r.cells n _ hn
  subst h0
  rw [hP] at h1; cases h1
  have nPc : tabA K x ≠ c' := fun z => by rw [z, hc] at hP; cases hP
  have oc : ∀ b w, ow b = some w → b ≠ c' := fun b w e z => by
    obtain ⟨_, o, q⟩ := r.own b w e
    rw [z, hc] at q; cases q
  have oP : ∀ b w, ow b = some w → w ≠ .cell n → b ≠ tabA K x := fun b w e nw z => by rw [z, q2] at e; cases e; exact nw rfl
  have hk : ∀ b w, ow b = some w → w ≠ .cell n → upd (upd H (tabA K x) (.tbl (ps ++ #[rawInt pos.line, rawInt pos.col, .ref c']))) c' (LamX.CodeO c' (lamN x)) b = H b := fun b w e nw => by rw [upd_ne (oc b w e), upd_ne (oP b w e nw)]
  have sm : Same G (upd G c' (LamX.CodeO c' (lamN x))) := same_upd (r.sub.free hc)
  refine ⟨fun b u e => ?_, fun b w e => ⟨?_, ?_⟩, r.lenM, fun k c2 ec => ?_, r.frs.keep sm (fun w hl b q => ⟨q, hk b w q (fun z => by subst z; exact hl)⟩) (fun _ _ q => q)⟩
  · by_cases hb : b = c'
    · subst hb; rw [upd_same] at e ⊢; exact e
    · rw [upd_ne hb] at e
      have nb : b ≠ tabA K x := fun z => by rw [z, (r.own _ _ q2).1] at e; cases e
      rw [upd_ne hb, upd_ne nb]; exact r.sub _ _ e
  · rw [upd_ne (oc b w e)]; exact (r.own b w e).1
  · rw [upd_ne (oc b w e)]
    by_cases hb : b = tabA K x
    · subst hb; exact ⟨_, upd_same⟩
    · rw [upd_ne hb]; exact (r.own b w e).2
  · obtain ⟨b, p1, p2, p3⟩ := r.cells k c2 ec
    refine ⟨b, p1, p2, ?_⟩
    by_cases hkn : k = n
    · subst hkn
      rw [hn] at ec; cases ec
      rw [q1] at p1; cases p1
      refine ⟨rfl, _, by rw [upd_ne nPc, upd_same], ?_, fun pos' cv hcv => ?_⟩
      · rw [show (ps ++ #[rawInt pos.line, rawInt pos.col, .ref c']).toList = ps.toList ++ [rawInt pos.line, rawInt pos.col, .ref c'] by simp]
        exact PySem.TriplesOk_snoc _ _ _ _ h2
      · rw [show (ps ++ #[rawInt pos.line, rawInt pos.col, .ref c']).toList = ps.toList ++ [rawInt pos.line, rawInt pos.col, .ref c'] by simp] at hcv
        rcases LamX.among_app _ h2 hcv with z | z
        · obtain ⟨c0, e1, e2⟩ := h3 pos' cv z
          exact ⟨c0, e1, sm _ _ e2⟩
        · exact ⟨c', z, upd_same⟩
    · exact p3.keep sm (hk b _ p2 (fun z => hkn (by cases z; rfl)))
/-- the maker's data again, as a frame of their own -/
theorem RepG.again {f c : Addr} {q : PySem.Str} {v : V} {σ' : St} {δ' : DL.Env} (r : RepG K H G ow ι fs M) (h : phi f c q σ' δ' K G v) : RepG K H G ow ι (⟨σ', maskD δ', []⟩ :: fs) M :=
  ⟨r.sub, r.own, r.lenM, r.cells, ⟨by show σ'.length = (maskD δ').length; unfold maskD; rw [List.length_map]; exact h.2.2.1, fun i t e => by
    obtain ⟨x, rfl, ex⟩ := mask_at e
    obtain ⟨u, eu, au⟩ := h.2.2.2 i x ex
    exact ⟨rfl, u, eu, au⟩, trivial⟩, r.frs⟩
end
section
variable {X : Cx} {pins : List (Addr × Obj)} {σ : St} {H : Hp} {s : Shared}
/-- a(): the closure runs -/
theorem qe_ask {δ : DL.Env} {qg a q : PySem.Str} {sg scope : Scope} {g f c' : Addr} {cdg pm ctv : Value} {params : Arguments} {body : Expr} {k : Nat} {Ng : List PySem.Str} {Eg : XK} {fm : Sm T} {pn : List (Addr × Obj)} {xe : Value → Shared → Prop} {W' : WX} {p1 p2 : Pos}
    (I : Inv X pins σ H s) (L : LamX.LamS X.env.scope scope) (hf : s.heap.get? f = some (PySem.W.kla_obj "<lambda>" q params body scope (cloFrom X.env.cells scope.names []) pm c' ctv)) (hq : X.env.qual ++ "<lambda>" = q) (hfn : H f = none) (hfr : f ∉ frs X.stack)
    (hbind : bindArgs (PySem.W.kla_fn "<lambda>" q params body scope (cloFrom X.env.cells scope.names []) pm (.ref c') ctv) ⟨[], []⟩ = pure []) (hr : Room (k + 1) (X.A.deeper (envOfC qg sg s.heap.objs.size g cdg))) (hgd : X.A.guards = some [])
    (hbody : ∀ (A : Around) (outer : List PySem.Env) (s : Shared) (H : Hp) (E : XK), Room k (A.deeper (LamX.lamEnv X scope s.heap.objs.size f c')) → A.guards = some [] → QE (LamX.lamCx X A outer s H E scope f c') (fun c d _ H' => E c d H') body fm)
    (hN : Ng[0]? = some a) (hv : Vis sg a) (tk : Takes ((cxOf (L2.CX X.prog X.w) X.prog X.w X.K X.mg X.base Ng qg sg g cdg X.A X.stack s H Eg).tr pn xe) W') (hd : (a == ("__debug__" : PySem.Str)) = false := by decide) (hcd : (a == ("__classdict__" : PySem.Str)) = false := by decide) :
    QE ((cxOf (L2.CX X.prog X.w) X.prog X.w X.K X.mg X.base Ng qg sg g cdg X.A X.stack s H Eg).tr pn xe) W' (.Call (.Name a p1) [] [] p2) (mAsk (phi f c' q σ δ) (askOf fm δ)) := by
  subst hq
  refine ⟨fun pinsZ sZ σZ HZ Q IZ h => ?_⟩
  obtain ⟨δZ, τZ, fsZ, M, rp, qz⟩ := h
  unfold mAsk at qz
  split at qz
  · rename_i hs
    obtain ⟨G, ow, ι, x⟩ := rp
    obtain ⟨_, v, ev, rt⟩ := x.slots_of hs
    have ph : phi f c' (X.env.qual ++ "<lambda>") σ δ X.K G v := rt G (Same.refl _)
    obtain ⟨hvf, hco, hlen, hdat⟩ := id ph
    subst hvf
    have hcH : HZ c' = some (LamX.CodeO c' (X.env.qual ++ "<lambda>")) := x.sub _ _ hco
    refine wpAny_Call_Name_kw (thn ((pe_var (pos := p1) (i := 0) hN hv hd hcd).run pinsZ sZ σZ HZ (fun v H1 => v = .ref f ∧ H1 = HZ) IZ ⟨.ref f, ev, rfl, rfl⟩) fun u s1 ⟨v, H1, I1, r1, q1⟩ => ?_)
    obtain ⟨e1, eH⟩ := q1
    subst e1
    rw [eH] at I1
    obtain rfl : u = Value.ref f := r1
    have of1 : s1.heap.get? f = some (PySem.W.kla_obj "<lambda>" (X.env.qual ++ "<lambda>") params body scope (cloFrom X.env.cells scope.names []) pm c' ctv) := I1.base.keep f _ hf hfn hfr (fun z => nomatch (show f ∈ ([] : List Addr) from z))
    refine PySem.W.callWith_F0 ⟨_, _, _, _, of1⟩ ?_
    have un : Un (frs X.stack) [] H HZ s.heap s1.heap := I1.base
    obtain ⟨⟨oc, vs, t, hoc, hdc, hvc⟩, _, _⟩ := I1.hok c' _ hcH
    have rc : codeAny (model X.prog X.w) (X.A.deeper (envOfC qg sg s.heap.objs.size g cdg)) (.call (.ref f) ⟨[], []⟩) (CR (L2.CX X.prog X.w) (envOfC qg sg s.heap.objs.size g cdg :: X.stack) X.prog X.w HZ s1 Q fun c d H' => W' c d σZ H') s1 := by
      refine PySem.W.kla_callFunE hr.depth of1 rfl L.co L.gen rfl ⟨c', oc, vs, t, rfl, hoc, hdc, hvc⟩ ?_
      rw [hbind]
      refine wpAny_pure (wpAny_newFunctionEnv (fun y hy => (L.own y hy).2) (fun y hy => absurd hy (by simp)) (fun h₁ hns hsb => ⟨I1.nolimit.fresh _ hsb, ?_⟩) L.kind)
      show codeAny _ _ (.expr body (LamX.lamEnv X scope s1.heap.objs.size f c')) _ _
      have kp : ∀ b o, s1.heap.get? b = some o → h₁.get? b = some o := fun b o e => hsb.extBut b o (Nat.ne_of_lt (Heap.lt_size e)) (Heap.get?_push_of_some _ e)
      have J : Inv (LamX.lamCx X (X.A.deeper (envOfC qg sg s.heap.objs.size g cdg)) (envOfC qg sg s.heap.objs.size g cdg :: X.stack) s1 HZ (fun c d H' => W' c d σZ H') scope f c') [] σ HZ { s1 with heap := h₁, toks := s1.toks + ([] : List (PySem.Str × Value)).length } :=
        LamX.lam_start2 I L I1.env0 hr.hd un hns kp
      have ht : tE X.K (fun c d _ H' => W' c d σZ H') fm σ HZ Q := by
        refine ⟨maskD δ, [], ⟨σZ, δZ, τZ⟩ :: fsZ, M, ⟨G, ow, ι, x.again ph⟩, ?_⟩
        unfold askOf at qz
        cases ef : fm (maskD δ) M with
        | ok t δ' M' =>
          rw [ef] at qz
          simp only at qz
          split at qz
          · exact qz.elim
          · rename_i nb
            have nb' : t.isBor = false := by simpa using nb
            exact fun v H' r => qz v H' ((r.finish nb').leave nb')
        | ex e δ' M' =>
          rw [ef] at qz
          exact fun d H' z => qz d H' (let ⟨G, ow, ι, y, c⟩ := z; ⟨G, ow, ι, ⟨y.sub, y.own, y.lenM, y.cells, y.frs.2⟩, c⟩)
        | bad => rw [ef] at qz; exact qz.elim
      refine PySem.W.kla_codeExpr (wpAny_mono ((hbody _ _ s1 HZ (fun c d H' => W' c d σZ H') (hr.deeper _) hgd).run [] _ _ HZ Q J ht) (fun v s' hq => ?_) fun e s' hq => hq)
      obtain ⟨w', H', J', rv, q⟩ := hq
      exact ⟨w', H', J'.os, J'.bare, J'.base, J'.hok, rv, q⟩
    refine wpAny_call (codeAny_mono rc fun r s' hq => ?_)
    cases r with
    | error e => exact tk e s' (XE.of_call I1 (fun _ _ _ h => h) hq)
    | ok fl =>
      cases fl with
      | ret u => exact I1.after hq
      | next => exact False.elim hq
      | brk => exact False.elim hq
      | cont => exact False.elim hq
  · exact qz.elim
end
end DL

end
section
namespace DL
open PySem PySem.Spec L2
open PyProof.Rows (envOfC)
/-! ### g(lambda: e) -/
/-- the def that calls what it gets -/
structure LamC (P : Program) (w : World) (K : KF) (mg : PySem.Str → Option Value) (base : Heap) (k : Nat) (x a : PySem.Str) (Ng : List PySem.Str) (st : Stmt) (Gm : (KF → Hp → V → Prop) → (Mem → Res T) → Sm Fl) : Prop where
  ex : ∃ (g : Addr) (fd : FuncData), Fun K x x st g fd ∧ mg x = some (.ref g) ∧ Binds K fd [a] []
  sc : FnScope Ng [a] (defScope st)
  n0 : Ng[0]? = some a
  va : Vis (defScope st) a
  run : ∀ (φ : KF → Hp → V → Prop) (ask : Mem → Res T) (cdv : Value) (A : Around) (outer : List PySem.Env) (s : Shared) (H : Hp) (E : XK) (g : Addr), Room (k + 1) (A.deeper (envOfC x (defScope st) s.heap.objs.size g cdv)) → A.guards = some [] →
    (∀ (W' : WX) (pn : List (Addr × Obj)) (xe : Value → Shared → Prop) (p1 p2 : Pos), Takes ((cxOf (L2.CX P w) P w K mg base Ng x (defScope st) g cdv A outer s H E).tr pn xe) W' → QE ((cxOf (L2.CX P w) P w K mg base Ng x (defScope st) g cdv A outer s H E).tr pn xe) W' (.Call (.Name a p1) [] [] p2) (mAsk φ ask)) →
    QSs (cxOf (L2.CX P w) P w K mg base Ng x (defScope st) g cdv A outer s H E) (fun c d _ H' => E c d H') (defBody st) (Gm φ ask)
theorem phi_mono {f c : Addr} {q : PySem.Str} {σ : St} {δ : DL.Env} {K : KF} {G G' : Hp} {v : V} (s : Same G G') (h : phi f c q σ δ K G v) : phi f c q σ δ K G' v := by
  obtain ⟨h1, h2, h3, h4⟩ := h
  refine ⟨h1, s _ _ h2, h3, fun i x e => ?_⟩
  obtain ⟨u, e1, e2⟩ := h4 i x e
  exact ⟨u, e1, At.mono s _ _ e2⟩
theorem qe_lamcall {X : Cx} {W : WX} {x a nm : PySem.Str} {n k : Nat} {Ng : List PySem.Str} {st : Stmt} {c : Addr} {params : Arguments} {body : Expr} {scope : Scope} {fm : Sm T} {Gm : (KF → Hp → V → Prop) → (Mem → Res T) → Sm Fl} {Gf : (KF → Hp → V → Prop) → (Mem → Res T) → Fm} {p lpos pos : Pos}
    (C : LamC X.prog X.w X.K X.mg X.base k x a Ng st Gm) (hG : ∀ φ ask, Gf φ ask = mBody (Ng.length - 1) (Gm φ ask)) (TB : LamX.TabB X.base X.mg c (tabA X.K nm)) (hcode : X.env.code = .ref c) (hq : X.env.qual = nm ++ ".<locals>.") (hr : Room (k + 2) X.A) (hgd : X.A.guards = some []) (tk : Takes X W) (hg : Gl X x)
    (L : LamX.LamS X.env.scope scope) (hdef : defaultsOf params X.env = ([], [])) (hbind : ∀ (q : PySem.Str) (cl : List (PySem.Str × Addr)) (pm cv ctv : Value), bindArgs (PySem.W.kla_fn "<lambda>" q params body scope cl pm cv ctv) ⟨[], []⟩ = pure [])
    (hbody : ∀ (f c' : Addr) (A : Around) (outer : List PySem.Env) (s : Shared) (H : Hp) (E : XK), Room k (A.deeper (LamX.lamEnv X scope s.heap.objs.size f c')) → A.guards = some [] → QE (LamX.lamCx X A outer s H E scope f c') (fun c d _ H' => E c d H') body fm)
    (hdb : (x == ("__debug__" : PySem.Str)) = false := by decide) (hd : (a == ("__debug__" : PySem.Str)) = false := by decide) (hcd : (a == ("__classdict__" : PySem.Str)) = false := by decide) :
    QE X W (.Call (.Name x p) [.Lambda params body scope lpos] [] pos) (mLam n nm Gf fm) := by
  obtain ⟨g, fd, F, hm, hb⟩ := C.ex
  refine ⟨fun pins s σ H Q I h => ?_⟩
  obtain ⟨δ, τ, fs, M, rp, qz⟩ := h
  unfold mLam at qz
  split at qz
  · rename_i hh
    have hspec := hh.2.choose_spec
    generalize hh.2.choose = r at qz hspec
    obtain ⟨G, ow, ι, y⟩ := rp
    obtain ⟨aP, q1, q2, h0, ps, h1, h2, h3⟩ := id (y.cells n _ hh.1)
    subst h0
    have hqn : X.env.qual ++ "<lambda>" = lamN nm := by rw [hq]; rfl
    refine wpAny_Call_Name_kw (ld_glob I hg hm ?_ hdb)
    refine PySem.W.callWith_K (h₀ := X.base) I.ok.mod.kin F.kp ?_ (by rfl) (by rfl)
    show wpAny _ _ (spliced ((false, eval (.Lambda params body scope lpos) X.env) :: backTo pos (starEach [] X.env))) _ _ s
    refine Calls.spliced_cons (lam_make I TB hcode h1 h2 (fun cv hc => ?_) hdef (L.has I.ok) fun f c' pm ctv H1 s' I1 hf hfn hfr alt => ?_)
    · obtain ⟨c0, e1, e2⟩ := h3 _ cv hc
      exact ⟨c0, e1, by rw [hqn]; exact y.sub _ _ e2⟩
    refine Calls.spliced_nil ⟨I1.kIn, ?_⟩
    have hy : ∃ G1, RepG X.K H1 G1 ow ι (⟨σ, δ, τ⟩ :: fs) M ∧ G1 c' = some (LamX.CodeO c' (lamN nm)) := by
      rcases alt with ⟨e, hc⟩ | ⟨hn, e⟩
      · subst e
        obtain ⟨c0, e1, e2⟩ := h3 _ _ hc
        cases e1
        exact ⟨G, y, e2⟩
      · rw [hqn] at e
        subst e
        exact ⟨_, y.tabNew hh.1 h1 hn, upd_same⟩
    obtain ⟨G1, y1, hG1⟩ := hy
    have ph : phi f c' (lamN nm) σ δ X.K G1 (.ref f) := ⟨rfl, hG1, y1.frs.1.len, fun i x e => by
      obtain ⟨_, v, e1, r1⟩ := y1.slots_of e
      exact ⟨v, e1, r1⟩⟩
    have r2 : Rep X.K H1 (⟨[some (.ref f)], [some (.st (phi f c' (lamN nm) σ δ))], []⟩ :: ⟨σ, δ, τ⟩ :: fs) M :=
      Rep.enter (vs := [.ref f]) (ts := [.st (phi f c' (lamN nm) σ δ)]) ⟨G1, ow, ι, y1.push (t := .st (phi f c' (lamN nm) σ δ)) (fun G' sm => phi_mono sm ph)⟩ rfl (fun t ht => by rw [List.mem_singleton.mp ht]; rfl)
    have b := hb s' [.ref f] I1.kIn rfl
    rw [List.append_nil] at b
    have rc : codeAny (model X.prog X.w) X.A (.call (.ref g) ⟨[.ref f], []⟩) (CR (L2.CX X.prog X.w) X.stack X.prog X.w H1 s' Q fun c d H' => W c d σ H') s' := by
      refine fn_run (k := k + 1) (vs := [.ref f]) F C.sc hr hgd I1.env0 b (.cons rfl .nil) ⟨[.st (phi f c' (lamN nm) σ δ)], ⟨σ, δ, τ⟩ :: fs, M, rfl, rfl, r2, ?_⟩ fun cdv hc hr' => C.run (phi f c' (lamN nm) σ δ) (askOf fm δ) cdv X.A X.stack s' H1 _ g hr' hgd fun W' pn xe p1 p2 tk' =>
        qe_ask I1 L (by rw [hqn] at hf; exact hf) hqn hfn hfr (hbind _ _ _ _ _) hr' hgd (fun A outer s H E hr2 hg2 => hbody f c' A outer s H E hr2 hg2) C.n0 C.va tk' hd hcd
      have hs := hspec (phi f c' (lamN nm) σ δ)
      rw [hG] at hs
      show (mBody (Ng.length - 1) (Gm (phi f c' (lamN nm) σ δ) (askOf fm δ)) [.st (phi f c' (lamN nm) σ δ)] M).post _ _
      rw [hs]
      cases r with
      | ok t δ' M' =>
        simp only [back] at qz
        split at qz
        · exact qz.elim
        · rename_i nb
          have nb' : t.isBor = false := by simpa using nb
          exact ⟨nb', fun v H' z => qz v H' (z.leave nb')⟩
      | ex e δ' M' => exact fun d H' z => qz d H' (let ⟨G, ow, ι, y, c⟩ := z; ⟨G, ow, ι, ⟨y.sub, y.own, y.lenM, y.cells, y.frs.2⟩, c⟩)
      | bad => exact qz.elim
    refine wpAny_call (codeAny_mono rc fun r s' z => ?_)
    cases r with
    | error e => exact tk e s' (XE.of_call I1 (fun _ _ _ h => h) z)
    | ok fl =>
      cases fl with
      | ret u => exact I1.after z
      | next => exact z.elim
      | brk => exact z.elim
      | cont => exact z.elim
  · exact qz.elim
theorem tab_code {K : KF} {x : PySem.Str} {f c P : Addr} {oc : Value} {od : Option Addr} {osl : Array (Option Value)} {fd : FuncData} (ht : PySem.W.tabIn K x = some (c, P)) (a : PySem.W.nsIn K mainGlobals x = some (some (.ref f))) (l : K.lookup f = some ⟨oc, od, .func fd, osl⟩) : fd.code = .ref c := by
  unfold PySem.W.tabIn at ht
  rw [a] at ht
  simp only [l] at ht
  split at ht
  · rename_i c2 hc
    split at ht
    · split at ht
      · cases ht; exact hc
      · cases ht
    · cases ht
  · cases ht
theorem tabA_eq {K : KF} {x : PySem.Str} {c P : Addr} (ht : PySem.W.tabIn K x = some (c, P)) : tabA K x = P := by unfold tabA; rw [ht]
end DL

end
section
namespace DL
open PySem PySem.Spec L2 PyProof.Rows
/-! ### a law's run where defs make closures: one table for each of them -/
def tabsOf (K : KF) (nms : List PySem.Str) : List Addr := nms.map (tabA K)
open Classical in
noncomputable def tabOw (K : KF) (nms : List PySem.Str) : Addr → Option Who := fun b => if h : ∃ n : Nat, (tabsOf K nms)[n]? = some b then some (.cell h.choose) else none
theorem tabOw_at {K : KF} {nms : List PySem.Str} {n : Nat} {b : Addr} (nd : (tabsOf K nms).Nodup) (e : (tabsOf K nms)[n]? = some b) : tabOw K nms b = some (.cell n) := by
  have hh : ∃ n : Nat, (tabsOf K nms)[n]? = some b := ⟨n, e⟩
  unfold tabOw
  rw [dif_pos hh]
  have e2 := hh.choose_spec
  have : hh.choose = n := by
    obtain ⟨l1, g1⟩ := List.getElem?_eq_some_iff.mp e
    obtain ⟨l2, g2⟩ := List.getElem?_eq_some_iff.mp e2
    exact (List.getElem?_inj l2 nd).mp (e2.trans e.symm)
  rw [this]
theorem tabOw_mem {K : KF} {nms : List PySem.Str} {b : Addr} {w : Who} (e : tabOw K nms b = some w) : b ∈ tabsOf K nms := by
  unfold tabOw at e
  split at e
  · rename_i h
    obtain ⟨n, h⟩ := h
    exact List.mem_of_getElem? h
  · cases e
/-- from a heap where the script and the tables alone are tracked -/
theorem rep_tabs {K : KF} {H : Hp} {nms : List PySem.Str} {a : Addr} {ns : List Int} (nd : (tabsOf K nms).Nodup) (hH : ∀ b ∈ tabsOf K nms, H b = some (.tbl #[])) (ha : a ∉ tabsOf K nms) (hS : SqL K H a (ns.map V.int)) :
    Rep K H [⟨[some (.ref a)], [some (.scr ns)], []⟩] (nms.map C.tab) := by
  refine ⟨fun b => if b ∈ tabsOf K nms then none else H b, tabOw K nms, tabsOf K nms, ⟨fun b u e => ?_, fun b w e => ?_, by simp [tabsOf], fun n c e => ?_, ⟨rfl, fun i t e => ?_, trivial⟩, trivial⟩⟩
  · have e' : (if b ∈ tabsOf K nms then none else H b) = some u := e
    split at e'
    · cases e'
    · exact e'
  · have hb := tabOw_mem e
    exact ⟨if_pos hb, _, hH b hb⟩
  · rw [List.getElem?_map] at e
    cases hn : nms[n]? with
    | none => rw [hn] at e; cases e
    | some x =>
      rw [hn] at e
      cases e
      have et : (tabsOf K nms)[n]? = some (tabA K x) := by unfold tabsOf; rw [List.getElem?_map, hn]; rfl
      refine ⟨_, et, tabOw_at nd et, rfl, #[], hH _ (List.mem_of_getElem? et), True.intro, fun pos cv hc => ?_⟩
      have z : codeAmong pos [] = some cv := hc
      simp [codeAmong] at z
  · cases i with
    | zero =>
      simp at e
      subst e
      refine ⟨rfl, _, rfl, a, rfl, ?_⟩
      have ga : (if a ∈ tabsOf K nms then none else H a) = H a := if_neg ha
      rcases hS with (h | ⟨o, h⟩) | h
      · exact .inl (.inl (ga.trans h))
      · exact .inl (.inr ⟨o, ga.trans h⟩)
      · exact .inr h
    | succ i => simp at e
theorem law_runT {P : Program} {w : World} {K : KF} {mg mb : PySem.Str → Option Value} {k : Nat} {fa a : Addr} {nms : List PySem.Str} {fd : FuncData} {x : PySem.Str} {g : Fm} {s₁ : Shared} {vs : List Value} {ns : List Int}
    (KX : K.In s₁.heap) (hns : s₁.heap.Ns mainGlobals mg) (hb : s₁.heap.Ns builtinsNs mb) (hbb : ∀ x : PySem.Str, x ≠ "__name__" → mb x = bootBuiltins x) (lim : s₁.heap.NoLimit) (gens : s₁.gens = #[])
    (nd : (tabsOf K nms).Nodup) (hT : ∀ y ∈ nms, ∃ c, PySem.W.CodeHd s₁.heap c (tabA K y) ∧ PySem.W.tabIn K y = some (c, tabA K y) ∧ s₁.heap.get? (tabA K y) = some { cls := .none, data := .fields #[] } ∧ K.lookup (tabA K y) = none)
    (hbm : ∃ (bm : Addr) (ob : Obj), mg "__builtins__" = some (.ref bm) ∧ bm ≠ builtinsNs ∧ s₁.heap.get? bm = some ob ∧ ob.cls = .type "module" ∧ ob.dict = some builtinsNs ∧ ob.data = .plain)
    (ha : s₁.heap.get? a = some { cls := .type "list", data := .seq vs.toArray }) (hi : IntsAre vs ns) (hl : ns.length ≤ sizeLine) (room : Room k callerA)
    (F : ∀ base : Heap, K.In base → base.Ns mainGlobals mg → (∀ y ∈ nms, ∀ c, PySem.W.tabIn K y = some (c, tabA K y) → LamX.TabB base mg c (tabA K y)) → FnG P w K mg base k fa fd [x] (spG K 1 g)) (bind : ∀ (s : Shared) (u : Value), BindsTo s fd ⟨[u], []⟩ [(x, u)])
    (hg : ∃ δ M, g [.scr ns] (nms.map C.tab) = .ok (.d (.bool true)) δ M) :
    codeAny (model P w) callerA (.call (.ref fa) ⟨[.ref a], []⟩) (fun r s' => r = .ok (.ret (.bool true)) ∧ OldK s₁.heap s'.heap ∧ s'.os = s₁.os ∧ AllBare s'.gens) s₁ := by
  have rv := vals_ints hi
  have isT : ∀ b ∈ tabsOf K nms, s₁.heap.get? b = some { cls := .none, data := .fields #[] } := fun b hb => by
    obtain ⟨y, hy, e⟩ := List.mem_map.mp hb
    obtain ⟨c, _, _, h, _⟩ := hT y hy
    rw [← e]; exact h
  have noK : ∀ b ∈ tabsOf K nms, K.lookup b = none := fun b hb => by
    obtain ⟨y, hy, e⟩ := List.mem_map.mp hb
    obtain ⟨c, _, _, _, h⟩ := hT y hy
    rw [← e]; exact h
  have aT : a ∉ tabsOf K nms := fun z => by
    have q := isT a z
    rw [ha] at q
    cases congrArg Obj.data (Option.some.inj q)
  have core : ∀ H : Hp, (∀ b ∈ tabsOf K nms, H b = some (.tbl #[])) → (∀ b, H b = none ∨ b ∈ tabsOf K nms ∨ ∃ o xs, H b = some (.frz o (.lst xs))) → SqL K H a (ns.map V.int) → HOk P w H s₁.heap → (∀ b, H b ≠ none → (b = a ∧ K.lookup a = none) ∨ b ∈ tabsOf K nms) →
      codeAny (model P w) callerA (.call (.ref fa) ⟨[.ref a], []⟩) (fun r s' => r = .ok (.ret (.bool true)) ∧ OldK s₁.heap s'.heap ∧ s'.os = s₁.os ∧ AllBare s'.gens) s₁ := by
    intro H hH hO hS hok hA
    have un : ∀ {b : Addr} {o : Obj}, s₁.heap.get? b = some o → (∀ ws m, o.data ≠ .seq ws m) → o.data ≠ .fields #[] → H b = none := fun {b o} e h1 h2 => by
      cases z : H b with
      | none => rfl
      | some u =>
        rcases hA b (by rw [z]; exact nofun) with ⟨eb, _⟩ | eb
        · rw [eb, ha] at e; cases e; exact (h1 _ _ rfl).elim
        · rw [isT b eb] at e; cases e; exact (h2 rfl).elim
    have unD : ∀ {b : Addr} {o : Obj} {es : Array DictEntry} {ep : Nat}, s₁.heap.get? b = some o → o.data = .dict es ep → H b = none := fun e d => un e (fun ws m z => by rw [d] at z; cases z) (fun z => by rw [d] at z; cases z)
    have ns_of : ∀ {b : Addr} {m : PySem.Str → Option Value}, s₁.heap.Ns b m → (hidT s₁.heap H).Ns b m := fun {b m} ⟨o, es, ep, e, d, r⟩ => ⟨o, es, ep, hidT_get e (unD e d), d, r⟩
    have kin : K.In (hidT s₁.heap H) := fun b o e => hidT_get (KX b o e) (by
      cases z : H b with
      | none => rfl
      | some u =>
        rcases hA b (by rw [z]; exact nofun) with ⟨eb, hk⟩ | eb
        · rw [eb, hk] at e; cases e
        · rw [noK b eb] at e; cases e)
    have mod : Mod K mg (hidT s₁.heap H) := ⟨kin, ns_of hns, ⟨mb, ns_of hb, hbb⟩, (let ⟨mc, h1, h2⟩ := lim; ⟨mc, ns_of h1, h2⟩)⟩
    have TB : ∀ y ∈ nms, ∀ c, PySem.W.tabIn K y = some (c, tabA K y) → LamX.TabB (hidT s₁.heap H) mg c (tabA K y) := fun y hy c hc => by
      obtain ⟨c0, C0, e0, t0, _⟩ := hT y hy
      rw [e0] at hc; cases hc
      refine ⟨?_, ?_, fun z => ?_⟩
      · obtain ⟨o, us, file, tf, flags, tg, inF, text, tt, e1, r1, r2, r3, r⟩ := C0
        refine ⟨o, us, file, tf, flags, tg, inF, text, tt, hidT_get e1 (un e1 (fun ws m z => by rw [r2] at z; cases z) (fun z => by rw [r2] at z; cases z; simp at r3)), r1, r2, r3, r⟩
      · obtain ⟨bm, ob, b1, b2, b3, b4, b5, b6⟩ := hbm
        refine ⟨bm, ob, b1, b2, fun q => ?_, fun q => ?_, hidT_get b3 (un b3 (fun ws m z => by rw [b6] at z; cases z) (fun z => by rw [b6] at z; cases z)), b4, b5, b6⟩
        · obtain ⟨o, es, ep, e, hd, _⟩ := hns
          rw [q, e] at b3; cases b3
          rw [hd] at b6; cases b6
        · rw [q, t0] at b3; cases b3; cases b6
      · obtain ⟨o, es, ep, e, hd, _⟩ := hns
        rw [z, t0] at e; cases e; cases hd
    have e0 : Env0 P w K mg (hidT s₁.heap H) callerA [] s₁ H := ⟨rfl, mod, fun b o e => of_hidT e, Nat.le_of_eq (hidT_size _ _), trivial, fun b hb => (nomatch hb), hok, AllBare.of_eq gens⟩
    have sp : spG K 1 g [.ref a] H (fun v _ => v = .bl true) (fun _ _ _ => False) := by
      obtain ⟨δ, M, eg⟩ := hg
      refine ⟨[.scr ns], [], nms.map C.tab, rfl, rfl, rep_tabs nd hH aT hS, ?_⟩
      rw [eg]
      exact ⟨rfl, fun v H' r => r.topD⟩
    refine codeAny_mono ((F _ kin (ns_of hns) TB).run (us := [.ref a]) (vs := [.ref a]) room rfl e0 (bind s₁ (.ref a)) (.cons rfl .nil) sp) fun r s' h => ?_
    cases r with
    | error e => exact absurd h (fun z => by obtain ⟨_, _, _, _, _, _, _, _, _, _, _, _, z⟩ := z; exact z)
    | ok fl =>
      cases fl with
      | next => exact h.elim
      | brk => exact h.elim
      | cont => exact h.elim
      | ret u =>
        obtain ⟨v, H', os, bare, keep, hok', r', q⟩ := h
        have q' : v = .bl true := q
        subst q'
        obtain rfl : u = Value.bool true := r'
        have old : ∀ b o, b ∉ tabsOf K nms → s₁.heap.get? b = some o → s'.heap.get? b = some o := fun b o nb e => by
          cases z : H b with
          | none => exact keep.keep b o e z (fun z => nomatch z) (fun z => nomatch z)
          | some u =>
            rcases hO b with z2 | z2 | ⟨ob, xs, z2⟩
            · rw [z] at z2; cases z2
            · exact absurd z2 nb
            · obtain ⟨e1, _⟩ := hok b _ z2
              obtain ⟨e2, _⟩ := hok' b _ (keep.frzs b ob _ z2)
              rw [e] at e1; cases e1
              exact e2
        have more : ∀ b ∈ tabsOf K nms, ∃ qs : Array Value, s'.heap.get? b = some { cls := .none, data := .fields qs } := fun b hb => by
          obtain ⟨m, z⟩ := keep.tbls b #[] (hH b hb)
          exact ⟨_, hok' b _ z⟩
        refine ⟨rfl, ⟨fun b o e => ?_, fun b o e => ?_⟩, os, bare⟩
        · by_cases hb : b ∈ tabsOf K nms
          · obtain ⟨m, hm⟩ := more b hb
            obtain ⟨y, hy, ey⟩ := List.mem_map.mp hb
            obtain ⟨c0, C0, _, t0, _⟩ := hT y hy
            subst ey
            rw [t0] at e; cases e
            exact .inr (.inl ⟨(C0.tab t0).isCodeTable, rfl, #[], m, rfl, by rw [Array.empty_append]; exact hm⟩)
          · exact .inl (old b o hb e)
        · by_cases hb : b ∈ tabsOf K nms
          · obtain ⟨m, hm⟩ := more b hb
            exact ⟨_, hm⟩
          · exact ⟨o, old b o hb e⟩
  have lenV := hi.length
  cases hk : K.lookup a with
  | some o =>
    have e := KX a o hk
    rw [ha] at e
    cases e
    refine core (fun b => if b ∈ tabsOf K nms then some (.tbl #[]) else none) (fun b hb => if_pos hb) (fun b => ?_) (.inr ⟨_, vs.toArray, _, hk, rfl, rfl, rfl, by rw [List.size_toArray, lenV]; exact hl, by simpa using rv⟩) (fun b u z => ?_) fun b z => ?_
    · by_cases hb : b ∈ tabsOf K nms
      · exact .inr (.inl hb)
      · exact .inl (if_neg hb)
    · have z' : (if b ∈ tabsOf K nms then some (HO.tbl #[]) else none) = some u := z
      split at z'
      · rename_i hb; cases z'; exact isT b hb
      · cases z'
    · by_cases hb : b ∈ tabsOf K nms
      · exact .inr hb
      · exact absurd (if_neg hb) z
  | none =>
    refine core (fun b => if b = a then some (.frz { cls := .type "list", data := .seq vs.toArray } (.lst (ns.map V.int))) else if b ∈ tabsOf K nms then some (.tbl #[]) else none) (fun b hb => ?_) (fun b => ?_) (.inl (.inr ⟨_, if_pos rfl⟩)) (fun b u z => ?_) fun b z => ?_
    · exact (if_neg (fun e => aT (by rw [← e]; exact hb))).trans (if_pos hb)
    · by_cases hb : b = a
      · exact .inr (.inr ⟨_, _, if_pos hb⟩)
      · by_cases hb2 : b ∈ tabsOf K nms
        · exact .inr (.inl hb2)
        · exact .inl ((if_neg hb).trans (if_neg hb2))
    · by_cases hb : b = a
      · have z' := (if_pos hb).symm.trans z
        cases z'
        subst hb
        exact ⟨ha, by rw [List.length_map]; exact hl, vs, _, rv, ha⟩
      · have z1 := (if_neg hb).symm.trans z
        by_cases hb2 : b ∈ tabsOf K nms
        · have z' := (if_pos hb2).symm.trans z1
          cases z'; exact isT b hb2
        · cases (if_neg hb2).symm.trans z1
    · by_cases hb : b = a
      · exact .inl ⟨hb, hk⟩
      · by_cases hb2 : b ∈ tabsOf K nms
        · exact .inr hb2
        · exact absurd ((if_neg hb).trans (if_neg hb2)) z
/-- the goal that the head leaves -/
theorem law_walkT {l : PySem.W.OpenLaw} {k : Nat} {q : Program} {loose : List PySem.Str} {XP : (PySem.Str → Option Value) → Heap → Prop} {YP : World → Heap → Prop} {d : DefRec} {K : Params → KF} {x : PySem.Str} {nms : List PySem.Str} {g : World → Fm}
    (hn : l.most = some 63) (hdf : d.params.defaults = []) (hr : Room k callerA) (hY : ∀ (w : World) (h : Heap), YP w h → (K w.params).In h) (hrec : ∀ y ∈ nms, ∃ e, (recsOf q).find? (fun e => e.name == y) = some e)
    (F : ∀ (w : World) (mg : PySem.Str → Option Value) (fa : Addr) (h : Heap), (K w.params).In h → h.Ns mainGlobals mg → mg d.name = some (.ref fa) → (tabsOf (K w.params) nms).Nodup ∧ (∀ y ∈ nms, (∃ c, PySem.W.tabIn (K w.params) y = some (c, tabA (K w.params) y)) ∧ (K w.params).lookup (tabA (K w.params) y) = none) ∧
      ∃ fd : FuncData, (∀ (s : Shared) (u : Value), BindsTo s fd ⟨[u], []⟩ [(x, u)]) ∧ ∀ base : Heap, (K w.params).In base → base.Ns mainGlobals mg → (∀ y ∈ nms, ∀ c, PySem.W.tabIn (K w.params) y = some (c, tabA (K w.params) y) → LamX.TabB base mg c (tabA (K w.params) y)) → FnG l.prog w (K w.params) mg base k fa fd [x] (spG (K w.params) 1 (g w)))
    (hg : ∀ (w : World) (ns : List Int), ns.length ≤ 63 → ∃ δ M, g w [.scr ns] (nms.map C.tab) = .ok (.d (.bool true)) δ M) :
    PySem.W.WalkO q loose XP YP l.row.toRowW d [] (fun f vs => PySem.call f vs) := by
  refine Att.attach_call hn hdf fun w s₀ s₁ mg mb fa o pm cd doc a vs ns G Y ho hd hcd hmg hobj hints hlen hgen => ?_
  have KX := hY w _ Y
  obtain ⟨nd, hT, fd, hb, hF⟩ := F w mg fa _ KX G.T.g hmg
  refine law_runT KX G.T.g G.T.b G.T.builtins G.T.nolimit hgen nd (fun y hy => ?_) G.T.bmain hobj hints (Nat.le_trans hlen (by decide)) hr hF hb (hg w ns hlen)
  obtain ⟨⟨c, hc⟩, hk⟩ := hT y hy
  obtain ⟨e, he⟩ := hrec y hy
  obtain ⟨h1, h2⟩ := PySem.W.tab_of G.T KX he hc
  exact ⟨c, h1, hc, h2, hk⟩
end DL

end
section
namespace DL
open PySem PySem.Spec L2
variable {X : Cx} {W : WX} {K : KF} {H G : Hp} {δ : DL.Env} {M : Mem}
/-! ### sum, max, min of a list of ints -/
theorem ints_vals : ∀ {ns : List Int} {us : List V}, AtL K H us (ns.map PyData.int) → us = ns.map V.int
  | [], us, h => h
  | n :: ns, us, ⟨v, r, e, h1, h2⟩ => by rw [e, ints_vals h2, show v = .int n from h1]; rfl
def maxI : List Int → Int
  | [] => 0
  | [n] => n
  | n :: m :: ns => let z := maxI (m :: ns); if z > n then z else n
def minI : List Int → Int
  | [] => 0
  | [n] => n
  | n :: m :: ns => let z := minI (m :: ns); if z < n then z else n
theorem maxI_spec : ∀ {ns : List Int}, 0 < ns.length → maxI ns ∈ ns ∧ ∀ y ∈ ns, y ≤ maxI ns
  | [], h => by simp at h
  | [n], _ => ⟨List.mem_singleton.mpr rfl, fun y hy => by rw [List.mem_singleton.mp hy]; exact Int.le_refl _⟩
  | n :: m :: ns, _ => by
    obtain ⟨h1, h2⟩ := maxI_spec (ns := m :: ns) (by simp)
    unfold maxI
    simp only
    split
    · rename_i h
      exact ⟨List.mem_cons_of_mem _ h1, fun y hy => by
        rcases List.mem_cons.mp hy with rfl | hy
        · omega
        · exact h2 y hy⟩
    · rename_i h
      exact ⟨List.mem_cons_self, fun y hy => by
        rcases List.mem_cons.mp hy with rfl | hy
        · exact Int.le_refl _
        · have := h2 y hy; omega⟩
theorem minI_spec : ∀ {ns : List Int}, 0 < ns.length → minI ns ∈ ns ∧ ∀ y ∈ ns, minI ns ≤ y
  | [], h => by simp at h
  | [n], _ => ⟨List.mem_singleton.mpr rfl, fun y hy => by rw [List.mem_singleton.mp hy]; exact Int.le_refl _⟩
  | n :: m :: ns, _ => by
    obtain ⟨h1, h2⟩ := minI_spec (ns := m :: ns) (by simp)
    unfold minI
    simp only
    split
    · rename_i h
      exact ⟨List.mem_cons_of_mem _ h1, fun y hy => by
        rcases List.mem_cons.mp hy with rfl | hy
        · omega
        · exact h2 y hy⟩
    · rename_i h
      exact ⟨List.mem_cons_self, fun y hy => by
        rcases List.mem_cons.mp hy with rfl | hy
        · exact Int.le_refl _
        · have := h2 y hy; omega⟩
def fOfInts (f : List Int → Int) (ne : Bool) : List D → Option D
  | [.list ds] => (intsOf ds).bind fun ns => if ne = true ∧ ns = [] then Option.none else some (.int (f ns))
  | _ => Option.none
def fSumL := fOfInts List.sum false
def fMaxL := fOfInts maxI true
def fMinL := fOfInts minI true
theorem ofInts_rd {f : List Int → Int} {ne : Bool} {r : List V → Hp → VK → Prop} (h : ∀ (a : Addr) (ns : List Int) (H : Hp) (Q : VK), SqL X.K H a (ns.map V.int) → (ne = true → 0 < ns.length) → Q (.int (f ns)) H → r [.ref a] H Q) : BltD X W r (mPl (fOfInts f ne)) := by
  refine pl_bltD fun H Q vs ds z hl hv ef k => ?_
  match ds, ef with
  | [.list ds], ef =>
    unfold fOfInts at ef
    simp only at ef
    cases en : intsOf ds with
    | none => rw [en] at ef; cases ef
    | some ns =>
      rw [en, Option.bind_some] at ef
      split at ef
      · cases ef
      · rename_i hc
        cases ef
        obtain ⟨v, rfl, a, us, e, q, al⟩ := one_arg hl hv
        rw [intsOf_eq en] at al
        have hu := ints_vals al
        subst hu e
        exact h a ns H Q (SqL.of q) (fun hn => by
          cases ns with
          | nil => exact absurd ⟨hn, rfl⟩ hc
          | cons n ns => simp) (k _ fun G => rfl)
theorem b_sumL : BltD X W (rSum X.K) (mPl fSumL) := ofInts_rd fun a ns H Q hs _ q => ⟨a, ns, rfl, hs, q⟩
theorem b_maxL : BltD X W (rMax X.K) (mPl fMaxL) := ofInts_rd fun a ns H Q hs hn q => ⟨a, ns, rfl, hs, hn rfl, fun m h1 h2 => by
  obtain ⟨h3, h4⟩ := maxI_spec (hn rfl)
  have : m = maxI ns := Int.le_antisymm (h4 m h1) (h2 _ h3)
  rw [this]; exact q⟩
theorem b_minL : BltD X W (rMin X.K) (mPl fMinL) := ofInts_rd fun a ns H Q hs hn q => ⟨a, ns, rfl, hs, hn rfl, fun m h1 h2 => by
  obtain ⟨h3, h4⟩ := minI_spec (hn rfl)
  have : m = minI ns := Int.le_antisymm (h2 _ h3) (h4 m h1)
  rw [this]; exact q⟩
theorem boot_fn_sum : bootBuiltins "sum" = some (.builtin "sum") := by decide +kernel
/-! ### name op= e, ints -/
def mAug (i : Nat) (F : Int → Int → Option Int) (f : Sm T) : Sm Fl := fun δ0 M0 =>
  match δ0[i]? with
  | some (some (.d (.int n))) => bnd f (fun t => fun δ M => match vw t δ M with
    | some (.int m) => (match F n m with
      | some z => if i < δ.length then .ok .nx (δ.set i (some (.d (.int z)))) M else .bad
      | Option.none => .bad)
    | _ => .bad) δ0 M0
  | _ => .bad
theorem qs_aug {i : Nat} {x : Str} {op : Operator} {ti : TIp} {F : Int → Int → Option Int} {e : Expr} {f : Sm T} {pos pos' : Pos} (hN : X.N.Nodup) (hi : X.N[i]? = some x) (hx : Loc X.env.scope x) (he : QE X W e f) (ho : PIp X op ti)
    (hF : ∀ (n m z : Int) (H : Hp) (Q : VK), F n m = some z → Q (.int z) H → ti (.int n) (.int m) H Q) (hf : X.fn x = true ∨ X.env.scope.names.lookup x = some .local := by first | exact .inl rfl | exact .inr rfl | assumption) : QS X W (.AugAssign (.Name x pos') op e pos) (mAug i F f) := by
  refine (ps_aug hN hi hx he ho hf).imp fun D σ H ⟨δ, τ, fs, M, nb, r, q⟩ => ?_
  unfold mAug at q
  split at q
  · rename_i n hs
    obtain ⟨G, ow, ι, y⟩ := id r
    obtain ⟨_, v, ev, rt⟩ := y.slots_of hs
    have hv : v = .int n := rt
    subst hv
    refine ⟨.int n, ev, δ, τ, fs, M, r, Res.post_mono (bnd_post q) (fun t δ1 M1 q1 u H1 r1 => ?_) fun _ _ _ z => xw z⟩
    obtain ⟨G1, ow1, ι1, y1⟩ := id r1
    cases ew : vw t δ1 M1 with
    | none => rw [ew] at q1; exact q1.elim
    | some d =>
      rw [ew] at q1
      cases d with
      | int m =>
        simp only at q1
        have hu : u = .int m := y1.vw y1.top ew
        subst hu
        cases ef : F n m with
        | none => rw [ef] at q1; exact q1.elim
        | some z =>
          rw [ef] at q1
          simp only at q1
          split at q1
          · rename_i hl
            refine hF n m z H1 _ ef (q1 _ H1 (Rep.put (t := .d (.int z)) ⟨G1, ow1, ι1, y1.pop.push (t := .d (.int z)) (v := .int z) rfl⟩ rfl nb (by rw [r1.len]; exact hl)))
          · exact q1.elim
      | _ => exact q1.elim
  · exact q.elim
def augAdd : Int → Int → Option Int := fun i j => some (i + j)
def augSub : Int → Int → Option Int := fun i j => some (i - j)
def augMul : Int → Int → Option Int := fun i j => if (-(2 ^ 64) < i ∧ i < 2 ^ 64) ∨ (-(2 ^ 64) < j ∧ j < 2 ^ 64) then some (i * j) else Option.none
theorem pip_of {op : Operator} {C : Int → Int → Prop} {g : Int → Int → Int} (h : OpR X (inplaceOp op) (rI C fun i j => .int (g i j))) : PIp X op (rI C fun i j => .int (g i j)) :=
  fun pins s σ H x y v u Q I rx ry q => h pins s σ H x y v u Q I rx ry q
theorem aug_add (n m z : Int) (H : Hp) (Q : VK) (h : augAdd n m = some z) (q : Q (.int z) H) : ipI (fun i j => i + j) (.int n) (.int m) H Q := by
  cases h; exact ⟨n, m, rfl, rfl, q⟩
theorem aug_sub (n m z : Int) (H : Hp) (Q : VK) (h : augSub n m = some z) (q : Q (.int z) H) : ipI (fun i j => i - j) (.int n) (.int m) H Q := by
  cases h; exact ⟨n, m, rfl, rfl, q⟩
theorem aug_mul (n m z : Int) (H : Hp) (Q : VK) (h : augMul n m = some z) (q : Q (.int z) H) : rI CMul (fun i j => .int (i * j)) (.int n) (.int m) H Q := by
  unfold augMul at h
  split at h
  · rename_i hc
    cases h; exact ⟨n, m, rfl, rfl, hc, q⟩
  · cases h
@[simp] theorem e_aug {i : Nat} {F : Int → Int → Option Int} {f : Sm T} {δ : DL.Env} {M : Mem} {n : Int} (h : δ[i]? = some (some (.d (.int n)))) : mAug i F f δ M = bnd f (fun t => fun δ M => match vw t δ M with
    | some (.int m) => (match F n m with
      | some z => if i < δ.length then .ok .nx (δ.set i (some (.d (.int z)))) M else .bad
      | Option.none => .bad)
    | _ => .bad) δ M := by
  unfold mAug; rw [h]
end DL

end
section
namespace DL
open PySem PySem.Spec L2
variable {X : Cx} {W : WX} {K : KF} {H G : Hp} {ow : Addr → Option Who} {ι : List Addr} {σ : St} {δ : DL.Env} {τ : List (V × T)} {fs : List Fram} {M : Mem} {v u : V} {t : T} {e e' e2 : Expr} {pos : Pos}
/-! ### sorted(set(e)), e a list or a tuple of ints -/
def rSetT (K : KF) (w : World) : List V → Hp → VK → Prop := fun xs H Q => ∃ (p : Addr) (ns : List Int), xs = [.ref p] ∧ SqT K H p (ns.map V.int) ∧ ns.length + 1 < scanBound ∧
  ∀ q c, H q = none → c ≤ ns.eraseDups.length → Q (.ref q) (upd H q (SetO w q (fun j => decide (j ∈ ns)) c))
theorem cr_setT (hc : X.calm = true) : CallR X (.type "set") (rSetT X.K X.w) := by
  intro pins s σ H xs us Q I r h
  obtain ⟨p, ns, rfl, hq, few, q⟩ := h
  cases r with
  | cons r rr =>
    cases rr
    cases r
    obtain ⟨its, rv, pt, hz⟩ := I.tuple hq
    refine call_set_tupI ns (I.ok.hd hc) pt (by simpa using ints_of_vals rv) few fun h' tk c R _ k => ?_
    have hn : H s.heap.objs.size = none := I.hok.fresh (Nat.le_refl _)
    exact ⟨.ref _, upd H s.heap.objs.size (SetO X.w s.heap.objs.size (fun j => decide (j ∈ ns)) c), I.laid (t' := tk) k (Nat.le_refl _) (setO_new R), rfl, q _ c hn (setR_few R)⟩
def fSortSetA : D → Option T
  | .tuple ds => fSortSet (.list ds)
  | d => fSortSet d
def mSortSetA (f : Sm T) : Sm T := bnd f fun t => fun δ M => opt ((vw t δ M).bind fSortSetA) δ M
theorem qe_sortSetA {f : Sm T} {p p2 pos2 : Pos} (hc : X.calm = true) (hg : Gl X "sorted") (hm : X.mg "sorted" = none) (hg2 : Gl X "set") (hm2 : X.mg "set" = none) (h : QE X W e f)
    (s1 : starEach [e] X.env = (false, eval e X.env) :: starEach [] X.env := by rfl) (s2 : starEach [.Call (.Name "set" p2) [e] [] pos2] X.env = (false, eval (.Call (.Name "set" p2) [e] [] pos2) X.env) :: starEach [] X.env := by rfl)
    (q1 : (backTo pos2 (starEach [] X.env)).any (·.1) = false := by rfl) (q2 : (backTo pos (starEach [] X.env)).any (·.1) = false := by rfl) :
    QE X W (.Call (.Name "sorted" p) [.Call (.Name "set" p2) [e] [] pos2] [] pos) (mSortSetA f) := by
  have inner := pe_callTy (pos := pos2) (p := p2) ((cr_setL hc).or (cr_setT hc)) hg2 hm2 boot_ty_set (pa_cons h pa_nil s1) (by decide) (by decide) s1 q1
  refine (pe_callB (pos := pos) (p := p) (cr_sortedSet hc) hg hm boot_fn_sorted (pa_cons inner pa_nil s2) (by decide) (by decide) s2 q2).imp fun σ H Q ⟨δ, τ, fs, M, r, q⟩ => ?_
  refine ⟨δ, τ, fs, M, r, Res.post_mono (bnd_post q) (fun t δ1 M1 q1 v H1 r1 => ?_) fun _ _ _ z => z⟩
  obtain ⟨z, ez, q3⟩ := opt_post q1
  obtain ⟨G, ow, ι, x⟩ := r1
  cases ev : vw t δ1 M1 with
  | none => rw [ev] at ez; cases ez
  | some d =>
    rw [ev] at ez
    have av := x.vw x.top ev
    have fin : ∀ (ns : List Int) (z : T), ns.eraseDups.length < 64 → z = .con (.lst ((sortSet ns).map PyData.int)) → (∀ w' H', Rep X.K H' (⟨σ, δ1, (w', z) :: τ⟩ :: fs) M1 → Q w' H') → ∀ b c, H1 b = none → c ≤ ns.eraseDups.length →
        rSortedSet X.w [.ref b] (upd H1 b (SetO X.w b (fun j => decide (j ∈ ns)) c)) Q := fun ns z few hz q3 b c hb hc => by
      subst hz
      refine ⟨b, _, c, rfl, upd_same, by omega, fun ns' p rise mem _ hp => ?_⟩
      have e1 : ns' = sortSet ns := sortSet_of rise mem
      subst e1
      have y := x.pop.newG (o := SetO X.w b (fun j => decide (j ∈ ns)) c) hb
      exact q3 _ _ (y.lst (vs := (sortSet ns).map V.int) ints_atL hp)
    cases d with
    | tuple ds =>
      obtain ⟨ds', ns, he, en, few, few2, hz⟩ := fSortSet_inv (show fSortSet (.list ds) = some z from ez)
      cases he
      obtain ⟨a, us, ea, hh, al⟩ := av
      rw [intsOf_eq en] at al
      have hu := ints_vals al
      subst hu
      exact .inr ⟨a, ns, congrArg (fun y => [y]) ea, SqT.grow x.sub hh, by unfold scanBound; omega, fun b c hb hc => fin ns z few hz (fun w' H' r => q3 w' H' r) b c hb hc⟩
    | list ds =>
      obtain ⟨ds', ns, he, en, few, few2, hz⟩ := fSortSet_inv (show fSortSet (.list ds) = some z from ez)
      cases he
      obtain ⟨a, us, ea, hh, al⟩ := av
      rw [intsOf_eq en] at al
      have hu := ints_vals al
      subst hu
      exact .inl ⟨a, ns, congrArg (fun y => [y]) ea, SqL.of hh, by unfold scanBound; omega, fun b c hb hc => fin ns z few hz (fun w' H' r => q3 w' H' r) b c hb hc⟩
    | none => cases ez
    | bool _ => cases ez
    | int _ => cases ez
    | str _ => cases ez
    | dict _ => cases ez
@[simp] theorem e_sortSetA {f : Sm T} : mSortSetA f δ M = bnd f (fun t => fun δ M => opt ((vw t δ M).bind fSortSetA) δ M) δ M := rfl
/-! ### len(set(e)), e a list of tuples of ints -/
def tupsOf : List D → Option (List (List Int))
  | [] => some []
  | .tuple ds :: r => (intsOf ds).bind fun k => (tupsOf r).map (k :: ·)
  | _ => none
def fLenSet : D → Option D
  | .list ds => (tupsOf ds).bind fun ks => if ks.length < 64 then some (.int (ks.eraseDups.length : Nat)) else none
  | _ => none
def tLenSetT (K : KF) (ta : TE) : TE := fun σ H Q => ta σ H fun x H1 => ∃ (l : Addr) (ks : List (Addr × List Int)), x = V.ref l ∧ SqL K H1 l (ks.map fun p => V.ref p.1) ∧ (∀ p ∈ ks, SqT K H1 p.1 (p.2.map V.int)) ∧ ks.length < 64 ∧ Q (.int ((ks.map (·.2)).eraseDups.length : Nat)) H1
theorem nodup_perm2 {l m : List (List Int)} (h : l.Nodup) (k : m.Nodup) (s : ∀ x, x ∈ l ↔ x ∈ m) : l.Perm m := by
  rw [List.perm_iff_count]
  intro x
  by_cases hx : x ∈ l
  · rw [List.Nodup.count h, List.Nodup.count k, if_pos hx, if_pos ((s x).mp hx)]
  · rw [List.Nodup.count h, List.Nodup.count k, if_neg hx, if_neg fun z => hx ((s x).mpr z)]
theorem nodup_dups2' : ∀ (n : Nat) (ns : List (List Int)), ns.length ≤ n → ns.eraseDups.Nodup
  | _, [], _ => by simp
  | 0, _ :: _, h => absurd h (by simp)
  | n + 1, a :: l, h => by
    rw [List.eraseDups_cons]
    refine List.nodup_cons.mpr ⟨fun z => ?_, nodup_dups2' n _ (Nat.le_trans (List.length_filter_le _ _) (Nat.le_of_succ_le_succ h))⟩
    rw [List.mem_eraseDups, List.mem_filter] at z
    simp at z
open PyProof.Rows in
theorem pe_lenSetT {ta : TE} {p p2 q pos : Pos} (hc : X.calm = true) (hu : X.A.units + 64 < cLine) (hg : Gl X "len") (hm : X.mg "len" = none) (hg2 : Gl X "set") (hm2 : X.mg "set" = none) (ha : PE X e ta)
    (na : starEach [e] X.env = (false, eval e X.env) :: starEach [] X.env := by rfl) : PE X (.Call (.Name "len" p) [.Call (.Name "set" p2) [e] [] q] [] pos) (tLenSetT X.K ta) := by
  refine ⟨fun pins s σ H Q I h => ?_⟩
  refine Call_ (ld_blt I hg hm PySem.boot_len ?_)
  refine PyProof.Rows.callWith_builtin1 (PyProof.Rows.args_cons ?_ rfl) rfl rfl
  refine Call_ (ld_blt I hg2 hm2 PyProof.Rows.boot_set ?_)
  refine PyProof.Rows.callWith_type1 (PyProof.Rows.args_cons (thn (ha.run pins s σ H _ I h) fun v s1 ⟨x, H1, I1, r1, q1⟩ => PyProof.Rows.args_nil ?_) na) na rfl
  obtain ⟨l, ks, rfl, hl, hk, hf, q1⟩ := q1
  cases r1
  obtain ⟨its, rv, pl, hz⟩ := I1.list hl
  refine call_set_tups (P := X.prog) (w := X.w) ks (I1.ok.hd hc) pl.isList (by simpa using refs_of_vals rv) (fun p hp => I1.isT (hk p hp)) hf (by omega) fun h' tk L es ep t R g k => ?_
  refine PyProof.Rows.args_nil ?_
  obtain ⟨o, ho, hex, hd⟩ := R.ob
  have hes : es.size = L.length := by
    have := congrArg List.length R.rows
    rw [Array.length_toList] at this
    rw [this]; unfold rowsOf; rw [List.length_map]
  have hL : (L.map (·.2)).Perm ((ks.map (·.2)).eraseDups) := nodup_perm2 R.nd (nodup_dups2' _ _ (Nat.le_refl _)) fun x => by
    rw [List.mem_eraseDups]
    constructor
    · intro hx
      obtain ⟨p, hp, e⟩ := List.mem_map.mp hx
      exact List.mem_map.mpr ⟨p, List.mem_of_mem_take (g.sub p hp), e⟩
    · intro hx
      obtain ⟨p, hp, e⟩ := List.mem_map.mp hx
      have := g.all p (by rw [List.take_length]; exact hp)
      rw [← e]; exact this
  have hlen : es.size = (ks.map (·.2)).eraseDups.length := by rw [hes, ← hL.length_eq, List.length_map]
  have I2 : Inv X pins σ H1 { s1 with heap := h', toks := tk } := I1.kept fun b o e => k b o e
  exact call_len_set ho hex hd (SetTR.fits (s := { s1 with heap := h', toks := tk }) R) (by rw [hes]; have := R.few; omega) ⟨.int ((ks.map (·.2)).eraseDups.length : Nat), H1, I2.tok _, ⟨_, by rw [hlen]⟩, q1⟩
theorem tups_vals : ∀ {ds : List D} {us : List V} {ks : List (List Int)}, tupsOf ds = some ks → AtL K G us ds → ∃ ps : List (Addr × List Int), us = ps.map (fun p => V.ref p.1) ∧ ps.map (·.2) = ks ∧ ∀ p ∈ ps, SqT K G p.1 (p.2.map V.int)
  | [], us, ks, h, a => by cases h; exact ⟨[], a, rfl, fun _ hp => nomatch hp⟩
  | .tuple es :: r, us, ks, h, ⟨v, rest, e, h1, h2⟩ => by
    unfold tupsOf at h
    cases ek : intsOf es with
    | none => rw [ek] at h; cases h
    | some k =>
      rw [ek, Option.bind_some] at h
      cases er : tupsOf r with
      | none => rw [er] at h; cases h
      | some kr =>
        rw [er] at h
        cases h
        obtain ⟨ps, e1, e2, e3⟩ := tups_vals er h2
        obtain ⟨a, ws, ea, hh, al⟩ := h1
        rw [intsOf_eq ek] at al
        have hw := ints_vals al
        subst hw
        refine ⟨(a, k) :: ps, by rw [e, ea, e1]; rfl, by rw [List.map_cons, e2], fun p hp => ?_⟩
        rcases List.mem_cons.mp hp with rfl | hp
        · exact hh
        · exact e3 p hp
  | .none :: _, _, _, h, _ => by cases h
  | .bool _ :: _, _, _, h, _ => by cases h
  | .int _ :: _, _, _, h, _ => by cases h
  | .str _ :: _, _, _, h, _ => by cases h
  | .list _ :: _, _, _, h, _ => by cases h
  | .dict _ :: _, _, _, h, _ => by cases h
def mLenSet (f : Sm T) : Sm T := bnd f fun t => fun δ M => opt (((vw t δ M).bind fLenSet).map T.d) δ M
theorem qe_lenSet {f : Sm T} {p p2 pos2 : Pos} {k : Nat} (hc : X.calm = true) (hr : Room k X.A) (hg : Gl X "len") (hm : X.mg "len" = none) (hg2 : Gl X "set") (hm2 : X.mg "set" = none) (h : QE X W e f)
    (na : starEach [e] X.env = (false, eval e X.env) :: starEach [] X.env := by rfl) : QE X W (.Call (.Name "len" p) [.Call (.Name "set" p2) [e] [] pos2] [] pos) (mLenSet f) := by
  refine (pe_lenSetT hc (by have := hr.units; omega) hg hm hg2 hm2 h na).imp fun σ H Q ⟨δ, τ, fs, M, r, q⟩ => ?_
  refine ⟨δ, τ, fs, M, r, Res.post_mono (bnd_post q) (fun t δ1 M1 q1 v H1 r1 => ?_) fun _ _ _ z => z⟩
  obtain ⟨z, ez, q3⟩ := opt_post q1
  obtain ⟨G, ow, ι, x⟩ := r1
  cases ev : vw t δ1 M1 with
  | none => rw [ev] at ez; cases ez
  | some d =>
    rw [ev, Option.bind_some] at ez
    have av := x.vw x.top ev
    cases d with
    | list ds =>
      unfold fLenSet at ez
      simp only at ez
      cases ek : tupsOf ds with
      | none => rw [ek] at ez; cases ez
      | some ks =>
        rw [ek, Option.bind_some] at ez
        split at ez
        · rename_i hk
          cases ez
          obtain ⟨a, us, ea, hh, al⟩ := av
          obtain ⟨ps, e1, e2, e3⟩ := tups_vals ek al
          subst e1 e2
          refine ⟨a, ps, ea, SqL.of hh, fun p hp => SqT.grow x.sub (e3 p hp), by rw [List.length_map] at hk; exact hk, q3 _ H1 (Rep.pushD (v := .int (((ps.map (fun p : Addr × List Int => p.2)).eraseDups.length : Nat) : Int)) ⟨G, ow, ι, x.pop⟩ fun _ _ => rfl)⟩
        · cases ez
    | none => cases ez
    | bool _ => cases ez
    | int _ => cases ez
    | str _ => cases ez
    | tuple _ => cases ez
    | dict _ => cases ez
@[simp] theorem e_lenSet {f : Sm T} : mLenSet f δ M = bnd f (fun t => fun δ M => opt (((vw t δ M).bind fLenSet).map T.d) δ M) δ M := rfl
end DL

end
section
namespace DL
open PySem PySem.Spec L2
variable {X : Cx} {W : WX} {K : KF} {H G : Hp} {ow : Addr → Option Who} {ι : List Addr} {σ : St} {δ : DL.Env} {τ : List (V × T)} {fs : List Fram} {M : Mem} {v u : V} {t : T} {e e' e2 : Expr} {pos : Pos}
/-! ### x != (), x a tuple of whatever -/
def fNeT (a b : D) : Option D := match a, b with
  | .tuple xs, .tuple [] => some (.bool (!xs.isEmpty))
  | a, b => fNe a b
def rNeT (K : KF) : R2 := fun x y H Q => ∃ a b vs, x = .ref a ∧ y = .ref b ∧ SqT K H a vs ∧ SqT K H b [] ∧ Q (.bl (!vs.isEmpty)) H
theorem op_neT (hu : X.A.units + 64 < cLine) : OpR X (compareOp .NotEq) (fun x y H Q => rNeP X.K x y H Q ∨ rNeT X.K x y H Q) := by
  intro pins s σ H x y v u Q I rx ry h
  rcases h with h | ⟨a, b, vs, rfl, rfl, ha, hb, q⟩
  · exact op_neP hu pins s σ H x y v u Q I rx ry h
  · obtain ⟨its, rv, p, hz⟩ := I.tuple ha
    obtain ⟨its2, rv2, p2, hz2⟩ := I.tuple hb
    cases rv2
    cases rx
    cases ry
    have r := SeqAt.RcNeAt.tuples (A := X.A) (e := fun _ => true) p p2 (by omega) (fun j _ h2 => absurd h2 (Nat.not_lt_zero _))
    have hl : its.length = vs.length := by have := rv.length; omega
    have e1 : (!((List.range (min its.toArray.size ([] : List Value).toArray.size)).all (fun _ => true) && its.toArray.size == ([] : List Value).toArray.size)) = !vs.isEmpty := by
      cases vs with
      | nil => cases its with
        | nil => rfl
        | cons _ _ => simp at hl
      | cons _ _ => cases its with
        | nil => simp at hl
        | cons _ _ => simp
    rw [e1] at r
    exact r X.prog X.w _ _ ⟨.bl _, H, I, rfl, q⟩
theorem opd_neT : OpD X (fun x y H Q => rNeP X.K x y H Q ∨ rNeT X.K x y H Q) fNeT := by
  intro v u H Q a b z ha hb ef k
  have old : fNe a b = some z → rNeP X.K v u H Q ∨ rNeT X.K v u H Q := fun ef => .inl (opd_ne v u H Q a b z ha hb ef k)
  unfold fNeT at ef
  split at ef
  · rename_i xs
    cases ef
    obtain ⟨l, vs, rfl, hs, al⟩ := ha
    obtain ⟨l2, vs2, rfl, hs2, al2⟩ := hb
    cases al2
    refine .inr ⟨l, l2, vs, rfl, rfl, hs, hs2, ?_⟩
    refine k _ fun _ => ?_
    have e := nil_iff al
    cases vs with
    | nil => rw [e.mp rfl]; rfl
    | cons v r =>
      cases xs with
      | nil => exact absurd (e.mpr rfl) (by simp)
      | cons _ _ => rfl
  · exact old ef
theorem cd_neT {k : Nat} (hr : Room k X.A) : CD X .NotEq fNeT := ⟨_, op_neT hr.units, opd_neT⟩
end DL

end
section
namespace DL
open PySem PySem.Spec L2
/-! ### objects: fields read and stored, methods, C(..) -/
section
variable {X : Cx} {W : WX} {K : KF} {H G : Hp} {ow : Addr → Option Who} {ι : List Addr} {σ : St} {δ : DL.Env} {τ : List (V × T)} {fs : List Fram} {M : Mem} {v u : V} {t : T} {e e' o : Expr} {pos : Pos} {p : Addr} {ho : HO}
theorem RFd.look : ∀ {vs : List (Str × V)} {fs : List (Str × Fd)} {f : Str} {x : Fd}, RFd K G ι vs fs → fs.lookup f = some x → ∃ v, vs.lookup f = some v ∧ (match x with
    | .d x => At K G v x
    | .r k => ∃ b, v = .ref b ∧ ι[k]? = some b)
  | [], [], _, _, _, h => by cases h
  | (n, v) :: r, (m, y) :: s, f, x, ⟨e, a, q⟩, h => by
    subst e
    rw [List.lookup_cons] at h ⊢
    cases hb : f == n with
    | true => rw [hb] at h; cases h; exact ⟨v, rfl, a⟩
    | false => rw [hb] at h; exact RFd.look q h
  | [], _ :: _, _, _, q, _ => q.elim
theorem RFd.lookN : ∀ {vs : List (Str × V)} {fs : List (Str × Fd)} {f : Str}, RFd K G ι vs fs → fs.lookup f = none → vs.lookup f = none
  | [], [], _, _, _ => rfl
  | (n, v) :: r, (m, y) :: s, f, ⟨e, a, q⟩, h => by
    subst e
    rw [List.lookup_cons] at h ⊢
    cases hb : f == n with
    | true => rw [hb] at h; cases h
    | false => rw [hb] at h; exact RFd.lookN q h
  | [], _ :: _, _, q, _ => q.elim
  | _ :: _, [], _, q, _ => q.elim
theorem RFd.length : ∀ {vs : List (Str × V)} {fs : List (Str × Fd)}, RFd K G ι vs fs → vs.length = fs.length
  | [], [], _ => rfl
  | (n, v) :: r, (m, y) :: s, ⟨_, _, q⟩ => congrArg (· + 1) (RFd.length q)
  | [], _ :: _, q => q.elim
  | _ :: _, [], q => q.elim
def putFd (f : Str) (x : Fd) : List (Str × Fd) → List (Str × Fd)
  | [] => [(f, x)]
  | (g, y) :: r => if g = f then (g, x) :: r else (g, y) :: putFd f x r
theorem RFd.put {f : Str} {x : Fd} {v : V} (a : match x with
    | .d x => At K G v x
    | .r k => ∃ b, v = .ref b ∧ ι[k]? = some b) : ∀ {vs : List (Str × V)} {fs : List (Str × Fd)}, RFd K G ι vs fs → RFd K G ι (putF f v vs) (putFd f x fs)
  | [], [], _ => ⟨rfl, a, trivial⟩
  | (n, w) :: r, (m, y) :: s, ⟨e, b, q⟩ => by
    subst e
    unfold putF putFd
    by_cases h : n = f
    · rw [if_pos h, if_pos h]; exact ⟨rfl, a, q⟩
    · rw [if_neg h, if_neg h]; exact ⟨rfl, b, RFd.put a q⟩
  | [], _ :: _, q => q.elim
  | _ :: _, [], q => q.elim
/-- what of the text a class must have for its fields -/
structure ClsF (K : KF) (x : Str) : Prop where
  c : Cls K (cOf K x)
theorem Rep.obj {n : Nat} {x : Str} {F : List (Str × Fd)} (h : Rep K H (⟨σ, δ, (v, .ref n) :: τ⟩ :: fs) M) (hn : M[n]? = some (.obj x F)) : ∃ G ow ι a dx vs, RepG K H G ow ι (⟨σ, δ, (v, .ref n) :: τ⟩ :: fs) M ∧ v = .ref a ∧ ι[n]? = some a ∧ ow a = some (.cell n) ∧ H a = some (.ins (cOf K x) dx vs) ∧ RFd K G ι vs F := by
  obtain ⟨G, ow, ι, y⟩ := h
  obtain ⟨a, ev, ea⟩ := (show RT K H G ow ι σ _ v (.ref n) from y.top)
  obtain ⟨b, q1, q2, dx, vs, q3, q4⟩ := y.cells n _ hn
  rw [ea] at q1; cases q1
  exact ⟨G, ow, ι, a, dx, vs, y, ev, ea, q2, q3, q4⟩
/-- what a field holds, as a temporary -/
def Fd.tm : Fd → T
  | .d x => .d x
  | .r n => .ref n
def mFldO (f : Str) (cs : List Str) (fo : Sm T) : Sm T := bnd fo fun t => fun δ M => match t with
  | .ref n => (match M[n]? with
    | some (.obj x F) => if cs.contains x = true then (match F.lookup f with
      | some y => .ok y.tm δ M
      | Option.none => .bad) else .bad
    | _ => .bad)
  | _ => .bad
theorem qe_fldO {f : Str} {cs : List Str} {fo : Sm T} (h : QE X W e fo) (cl : ∀ x ∈ cs, Cls X.K (cOf X.K x) ∧ NoAttr X.K (cOf X.K x) f) (hb : attributeBase e f X.env (eval e X.env) = eval e X.env := by rfl) : QE X W (.Attribute e f pos) (mFldO f cs fo) := by
  refine (pe_fld h hb).imp fun σ H Q ⟨δ, τ, fs, M, r, q⟩ => ⟨δ, τ, fs, M, r, Res.post_mono (bnd_post q) (fun t δ1 M1 q1 v H1 r1 => ?_) fun _ _ _ z => z⟩
  cases t with
  | ref n =>
    simp only at q1
    cases hm : M1[n]? with
    | none => rw [hm] at q1; exact q1.elim
    | some c =>
      rw [hm] at q1
      cases c with
      | obj x F =>
        simp only at q1
        split at q1
        · rename_i hx
          cases hl : F.lookup f with
          | none => rw [hl] at q1; exact q1.elim
          | some y =>
            rw [hl] at q1
            obtain ⟨G, ow, ι, a, dx, vs, z, ev, ea, oa, ha, rf⟩ := r1.obj hm
            obtain ⟨w, lw, aw⟩ := rf.look hl
            obtain ⟨c1, c2⟩ := cl x (by simpa using hx)
            refine ⟨a, _, dx, vs, w, ev, ha, c1, c2, lw, q1 w H1 ⟨G, ow, ι, z.pop.push ?_⟩⟩
            cases y with
            | d x => exact aw
            | r k => exact aw
        · exact q1.elim
      | _ => exact q1.elim
  | _ => exact q1.elim
@[simp] theorem e_fldO {f : Str} {cs : List Str} {fo : Sm T} : mFldO f cs fo δ M = bnd fo (fun t => fun δ M => match t with
  | .ref n => (match M[n]? with
    | some (.obj x F) => if cs.contains x = true then (match F.lookup f with
      | some y => .ok y.tm δ M
      | Option.none => .bad) else .bad
    | _ => .bad)
  | _ => .bad) δ M := rfl
@[simp] theorem e_FdD {x : D} : (Fd.d x).tm = .d x := rfl
@[simp] theorem e_FdR {n : Nat} : (Fd.r n).tm = .ref n := rfl
@[simp] theorem e_sDo {x : Str} {F : List (Str × Fd)} : (C.obj x F).sD = Option.none := rfl
@[simp] theorem e_sDn {F : List (D × D)} : (C.dcn F).sD = Option.none := rfl
@[simp] theorem e_reo {x : Str} {F : List (Str × Fd)} : (C.obj x F).real = Option.none := rfl
@[simp] theorem e_ren {F : List (D × D)} : (C.dcn F).real = some (.dcn F) := rfl
/-! ### e.f = v -/
/-- what is stored in a field: a datum, or a cell -/
def mFv (t : T) : Sm T := fun δ M => match t with
  | .con c => .ok (.ref M.length) δ (M ++ [c])
  | .d x => .ok (.d x) δ M
  | .ref n => .ok (.ref n) δ M
  | _ => .bad
theorem qe_fv {f : Sm T} (h : QE X W e f) : QE X W e (bnd f mFv) := by
  refine h.imp fun σ H Q ⟨δ, τ, fs, M, r, q⟩ => ⟨δ, τ, fs, M, r, Res.post_mono (bnd_post q) (fun a δ' M' q2 v H' r2 => ?_) fun _ _ _ z => z⟩
  cases a with
  | con c => exact q2 v H' r2.cell
  | d x => exact q2 v H' r2
  | ref n => exact q2 v H' r2
  | _ => exact q2.elim
def fdOf : T → Option Fd
  | .d x => some (.d x)
  | .ref n => some (.r n)
  | _ => Option.none
theorem RepG.setObj {n : Nat} {a dx : Addr} {x : Str} {F F' : List (Str × Fd)} {vs' : List (Str × V)} (x0 : RepG K H G ow ι (⟨σ, δ, τ⟩ :: fs) M) (hn : M[n]? = some (.obj x F)) (ea : ι[n]? = some a) (oa : ow a = some (.cell n)) (rf : RFd K G ι vs' F') :
    RepG K (upd H a (.ins (cOf K x) dx vs')) G ow ι (⟨σ, δ, τ⟩ :: fs) (M.set n (.obj x F')) := by
  have s1 : Same G (upd H a (.ins (cOf K x) dx vs')) := fun b u e => by
    have : b ≠ a := fun z => by rw [z, (x0.own a _ oa).1] at e; cases e
    rw [upd_ne this]; exact x0.sub _ _ e
  have s2 : ∀ b u, ow b = some u → G b = none ∧ ∃ o, upd H a (.ins (cOf K x) dx vs') b = some o := fun b u e => ⟨(x0.own b u e).1, by
    by_cases hb : b = a
    · rw [hb]; exact ⟨_, upd_same⟩
    · rw [upd_ne hb]; exact (x0.own b u e).2⟩
  have s3 : ∀ b u, ow b = some u → u ≠ .cell n → upd H a (.ins (cOf K x) dx vs') b = H b := fun b u e nu => upd_ne fun z => by
    rw [z, oa] at e; cases e; exact nu rfl
  refine ⟨s1, s2, by simp [x0.lenM], fun k c2 ec => ?_, ⟨x0.frs.1.len, fun j u ej => ?_, ?_⟩, ?_⟩
  · by_cases hk : k = n
    · subst hk
      rw [List.getElem?_set_self (List.getElem?_eq_some_iff.mp hn).1] at ec
      cases ec
      exact ⟨a, ea, oa, dx, vs', upd_same, rf⟩
    · rw [List.getElem?_set_ne (Ne.symm hk)] at ec
      obtain ⟨b, p1, p2, p3⟩ := x0.cells k c2 ec
      exact ⟨b, p1, p2, p3.keep (Same.refl _) (s3 b _ p2 (fun z => by cases z; exact hk rfl))⟩
  · obtain ⟨nu, v2, e2, r2⟩ := x0.slots_of ej
    exact ⟨nu, v2, e2, r2.keep (Same.refl _) (fun b q => ⟨q, s3 b _ q (fun z => nomatch z)⟩) (fun _ _ q => q) (fun _ _ q => q)⟩
  · exact x0.frs.1.tmps.keep (Same.refl _) (fun j _ b q => ⟨q, s3 b _ q (fun z => nomatch z)⟩) (fun _ _ q => q) (fun _ _ _ _ q => q)
  · exact x0.frs.2.keep (Same.refl _) (fun w hl b q => ⟨q, s3 b _ q (fun z => by subst z; exact hl)⟩) (fun _ _ q => q)
def mStF (f : Str) (cs : List Str) (fo fv : Sm T) : Sm Fl := bnd (bnd (bnd fv mOwn) mFv) fun y => bnd fo fun t => fun δ M => match t, fdOf y with
  | .ref n, some z => (match M[n]? with
    | some (.obj x F) => if cs.contains x = true ∧ F.length < 1000 then .ok .nx δ (M.set n (.obj x (putFd f z F))) else .bad
    | _ => .bad)
  | _, _ => .bad
theorem qs_fldO {f : Str} {cs : List Str} {fo fv : Sm T} {pos' : Pos} (h : QE X W o fo) (hv : QE X W e fv) (cl : ∀ x ∈ cs, Cls X.K (cOf X.K x) ∧ NoAttr X.K (cOf X.K x) f) (hs : swapsWith e (some (.Attribute o f pos')) pos.line X.env = pure false := by rfl) :
    QS X W (.Assign [.Attribute o f pos'] e pos) (mStF f cs fo fv) := by
  refine (ps_fld h (qe_fv (qe_own hv)) hs).imp fun D σ H ⟨δ, τ, fs, M, nb, r, q⟩ => ⟨δ, τ, fs, M, r, Res.post_mono (bnd_post q) (fun y δ1 M1 q1 v H1 r1 => ?_) fun _ _ _ z => xw z⟩
  refine ⟨δ1, (v, y) :: τ, fs, M1, r1, Res.post_mono (bnd_post q1) (fun t δ2 M2 q2 w H2 r2 => ?_) fun _ _ _ z => wX.push (xw z)⟩
  cases t with
  | ref n =>
    cases ey : fdOf y with
    | none => rw [ey] at q2; exact q2.elim
    | some z =>
      simp only [ey] at q2
      cases hm : M2[n]? with
      | none => rw [hm] at q2; exact q2.elim
      | some c =>
        rw [hm] at q2
        cases c with
        | obj x F =>
          simp only at q2
          split at q2
          · rename_i hx
            obtain ⟨G, ow, ι, a, dx, vs, z2, ev, ea, oa, ha, rf⟩ := r2.obj hm
            obtain ⟨c1, c2⟩ := cl x (by simpa using hx.1)
            refine ⟨a, _, dx, vs, ev, ha, c1, c2, by rw [rf.length]; exact hx.2, ?_⟩
            have top := z2.pop.top
            have rf' : RFd X.K G ι (putF f v vs) (putFd f z F) := by
              refine RFd.put ?_ rf
              cases y with
              | d x => cases ey; exact top
              | ref m => cases ey; exact top
              | _ => cases ey
            exact q2 σ _ ⟨G, ow, ι, (z2.pop.pop).setObj hm ea oa rf'⟩
          · exact q2.elim
        | _ => exact q2.elim
  | _ => exact q2.elim
@[simp] theorem e_fvC {c : C} : mFv (.con c) δ M = .ok (.ref M.length) δ (M ++ [c]) := rfl
@[simp] theorem e_fvD {x : D} : mFv (.d x) δ M = .ok (.d x) δ M := rfl
@[simp] theorem e_fvR {n : Nat} : mFv (.ref n) δ M = .ok (.ref n) δ M := rfl
@[simp] theorem e_fdD {x : D} : fdOf (.d x) = some (.d x) := rfl
@[simp] theorem e_fdR {n : Nat} : fdOf (.ref n) = some (.r n) := rfl
@[simp] theorem e_stF {f : Str} {cs : List Str} {fo fv : Sm T} : mStF f cs fo fv δ M = bnd (bnd (bnd fv mOwn) mFv) (fun y => bnd fo fun t => fun δ M => match t, fdOf y with
  | .ref n, some z => (match M[n]? with
    | some (.obj x F) => if cs.contains x = true ∧ F.length < 1000 then .ok .nx δ (M.set n (.obj x (putFd f z F))) else .bad
    | _ => .bad)
  | _, _ => .bad) δ M := rfl
end
/-! ### o.m(e, ..) -/
section
variable {X : Cx} {W : WX} {k n : Nat} {f : Addr} {fd : FuncData} {ps ks : List Str} {x m : Str} {p pos apos : Pos} {e o : Expr} {es : List Expr} {g : Fm} {σ : St} {H : Hp} {Q : VK} {fa : Sm (List T)} {fo : Sm T} {K : KF} {δ : DL.Env} {τ : List (V × T)} {fs : List Fram} {M : Mem} {v : V}
/-- what a caller knows of a method -/
structure CalM (P : Program) (w : World) (K : KF) (mg : Str → Option Value) (base : Heap) (k : Nat) (x m : Str) (n : Nat) (g : Fm) : Prop where
  cl : Cls K (cOf K x)
  ex : ∃ (f : Addr) (fd : FuncData) (ps : List Str), ps.length = n ∧ FnG P w K mg base k f fd ps (spG K n g) ∧ Meth K (cOf K x) m f ∧ Binds K fd ps []
theorem CalM.mono {P : Program} {w : World} {K : KF} {mg : Str → Option Value} {base : Heap} {j k : Nat} {x m : Str} {n : Nat} {g : Fm} (c : CalM P w K mg base j x m n g) (h : j ≤ k) : CalM P w K mg base k x m n g :=
  let ⟨f, fd, ps, a, F, b⟩ := c.ex; ⟨c.cl, f, fd, ps, a, F.mono h, b⟩
def isObj (x m : Str) (t : T) (M : Mem) : Bool := match t with
  | .ref n => (match M[n]? with
    | some (.obj y F) => (y == x) && (F.lookup m).isNone
    | _ => false)
  | _ => false
theorem isObj_of {t : T} (h : isObj x m t M = true) : ∃ n F, t = .ref n ∧ M[n]? = some (.obj x F) ∧ F.lookup m = none := by
  unfold isObj at h
  split at h
  · rename_i n
    split at h
    · rename_i y F e
      simp only [Bool.and_eq_true, beq_iff_eq, Option.isNone_iff_eq_none] at h
      obtain ⟨rfl, h2⟩ := h
      exact ⟨n, F, rfl, e, h2⟩
    · cases h
  · cases h
def callT (g : Fm) (ts : List T) : Sm T := fun δ M =>
  if ts.all (fun t => !t.isBor) = true then
    match g ts M with
    | .ok r _ M' => if r.isBor = true then .bad else .ok r δ M'
    | .ex e _ M' => .ex e δ M'
    | .bad => .bad
  else .bad
def mCallM (x m : Str) (g : Fm) (fo : Sm T) (fa : Sm (List T)) : Sm T := bnd fo fun t => fun δ M =>
  if isObj x m t M = true then (bnd fa fun ts => callT g (t :: ts)) δ M else .bad
theorem qe_callM {pl : Sem Bool} (c : CalM X.prog X.w X.K X.mg X.base k x m n g) (hr : Room k X.A) (hgd : X.A.guards = some []) (tk : Takes X W) (hO : QE X W o fo) (ha : QA X W (e :: es) fa) (hlen : ∀ δ M ts δ' M', fa δ M = .ok ts δ' M' → ts.length + 1 = n)
    (hst : starEach (e :: es) X.env = (false, eval e X.env) :: starEach es X.env := by rfl) (hpl : (backTo pos (starEach es X.env)).any (·.1) = false := by rfl)
    (ht : eval (.Call (.Attribute o m apos) (e :: es) [] pos) X.env = (do
      let ov ← eval o X.env
      standAt apos.atName
      let (f, first) ← holding [ov] (getMethod ov m pl)
      callWith pos f first (backTo pos (starEach (e :: es) X.env)) (backToKw pos (keywordEach [] X.env))) := by rfl) :
    QE X W (.Call (.Attribute o m apos) (e :: es) [] pos) (mCallM x m g fo fa) := by
  obtain ⟨f, fd, ps, hp, F, hm, hb⟩ := c.ex
  refine ⟨fun pins s σ H Q I h => ?_⟩
  have h2 : tE X.K W fo σ H fun y H1 => ∃ a dx vs, y = .ref a ∧ H1 a = some (.ins (cOf X.K x) dx vs) ∧ vs.lookup m = none ∧ tA X.K W fa σ H1 fun us H2 => spG X.K n g (y :: us) H2 Q fun c d H' => W c d σ H' := by
    obtain ⟨δ, τ, fs, M, r, q⟩ := h
    refine ⟨δ, τ, fs, M, r, Res.post_mono (bnd_post q) (fun t δ1 M1 q1 v H1 r1 => ?_) fun _ _ _ z => z⟩
    by_cases hi : isObj x m t M1 = true
    · simp only [if_pos hi] at q1
      obtain ⟨n0, F0, rfl, hm0, hl0⟩ := isObj_of hi
      obtain ⟨G, ow, ι, a, dx, vs, z, ev, ea, oa, hH, rf⟩ := r1.obj hm0
      refine ⟨a, dx, vs, ev, hH, rf.lookN hl0, δ1, (v, .ref n0) :: τ, fs, M1, r1, ?_⟩
      have q2 := bnd_post q1
      cases ef : fa δ1 M1 with
      | ok ts δ2 M2 =>
        rw [ef] at q2
        exact fun us H2 hl r2 => call_sp (vs := v :: us) (ts := .ref n0 :: ts) (τ := τ) (congrArg (· + 1) hl) (hlen _ _ _ _ _ ef) r2 q2
      | ex a b c => rw [ef] at q2; exact wX.push q2
      | bad => rw [ef] at q2; exact q2
    · simp only [if_neg hi] at q1; exact q1.elim
  refine PySem.W.methodCall_KW (pl := pl) (thn (hO.run pins s σ H _ I h2) fun u s1 ⟨y, H1, I1, ry, a, dx, vs, ey, ea, l, q⟩ => ?_) ht
  subst ey
  obtain rfl : u = Value.ref a := ry
  refine getmeth_ok I1 ea c.cl hm l ?_
  refine PySem.W.callWith_K (first := [.ref a]) (h₀ := X.base) I.ok.mod.kin hm.kp (thn (ha.run pos pins s1 σ H1 _ I1 q) fun us s2 ⟨ws, H2, I2, r, q2⟩ => ⟨I2.kIn, ?_⟩) hst hpl
  have hl : (Value.ref a :: us ++ []).length = ps.length := by rw [List.append_nil, List.length_cons, ← r.length]; exact F.len _ _ _ _ q2
  have b := hb s2 (Value.ref a :: us) I2.kIn hl
  rw [List.append_nil] at b
  exact run_G F hr hgd tk I2 b (.cons (show RelV (.ref a) (Value.ref a) from rfl) r) q2
theorem qe_callM0 {pl : Sem Bool} (c : CalM X.prog X.w X.K X.mg X.base k x m 1 g) (hr : Room k X.A) (hgd : X.A.guards = some []) (tk : Takes X W) (hO : QE X W o fo)
    (ht : eval (.Call (.Attribute o m apos) [] [] pos) X.env = (do
      let ov ← eval o X.env
      standAt apos.atName
      let (f, first) ← holding [ov] (getMethod ov m pl)
      callWith pos f first (backTo pos (starEach [] X.env)) (backToKw pos (keywordEach [] X.env))) := by rfl) :
    QE X W (.Call (.Attribute o m apos) [] [] pos) (mCallM x m g fo mNil) := by
  obtain ⟨f, fd, ps, hp, F, hm, hb⟩ := c.ex
  refine ⟨fun pins s σ H Q I h => ?_⟩
  have h2 : tE X.K W fo σ H fun y H1 => ∃ a dx vs, y = .ref a ∧ H1 a = some (.ins (cOf X.K x) dx vs) ∧ vs.lookup m = none ∧ spG X.K 1 g [y] H1 Q fun c d H' => W c d σ H' := by
    obtain ⟨δ, τ, fs, M, r, q⟩ := h
    refine ⟨δ, τ, fs, M, r, Res.post_mono (bnd_post q) (fun t δ1 M1 q1 v H1 r1 => ?_) fun _ _ _ z => z⟩
    by_cases hi : isObj x m t M1 = true
    · simp only [if_pos hi] at q1
      obtain ⟨n0, F0, rfl, hm0, hl0⟩ := isObj_of hi
      obtain ⟨G, ow, ι, a, dx, vs, z, ev, ea, oa, hH, rf⟩ := r1.obj hm0
      exact ⟨a, dx, vs, ev, hH, rf.lookN hl0, call_sp (vs := [v]) (ts := [.ref n0]) (τ := τ) rfl rfl r1 (bnd_post q1)⟩
    · simp only [if_neg hi] at q1; exact q1.elim
  refine PySem.W.methodCall_KW (pl := pl) (thn (hO.run pins s σ H _ I h2) fun u s1 ⟨y, H1, I1, ry, a, dx, vs, ey, ea, l, q⟩ => ?_) ht
  subst ey
  obtain rfl : u = Value.ref a := ry
  refine getmeth_ok I1 ea c.cl hm l ?_
  have b := hb s1 [Value.ref a] I1.kIn (by rw [List.append_nil]; exact hp.symm)
  exact PySem.W.callWith_K0 (first := [.ref a]) I1.kIn hm.kp (run_G F hr hgd tk I1 (us := [Value.ref a]) (vs := [.ref a]) b (.cons rfl .nil) q)
@[simp] theorem e_callM : mCallM x m g fo fa δ M = bnd fo (fun t => fun δ M =>
  if isObj x m t M = true then (bnd fa fun ts => callT g (t :: ts)) δ M else .bad) δ M := rfl
theorem e_isObj {i : Nat} {F : List (Str × Fd)} (h : M[i]? = some (.obj x F)) (h2 : F.lookup m = none) : isObj x m (.ref i) M = true := by
  unfold isObj; simp [h, h2]
@[simp] theorem e_callT {ts : List T} : callT g ts δ M = (if ts.all (fun t => !t.isBor) = true then
    match g ts M with
    | .ok r _ M' => if r.isBor = true then .bad else .ok r δ M'
    | .ex e _ M' => .ex e δ M'
    | .bad => .bad
  else .bad) := rfl
end
/-! ### C(e, ..) -/
section
variable {K : KF} {H G : Hp} {ow : Addr → Option Who} {ι : List Addr} {σ : St} {δ : DL.Env} {τ τ1 τ2 : List (V × T)} {fs : List Fram} {M : Mem} {p : Addr} {ho : HO}
theorem RepG.newN (h : RepG K H G ow ι (⟨σ, δ, τ⟩ :: fs) M) (hp : H p = none) : RepG K (upd H p ho) G ow ι (⟨σ, δ, τ⟩ :: fs) M :=
  h.chg (fun _ => False) (fun _ z => z.elim) (fun a w e _ => ⟨e, upd_ne (h.apart hp e)⟩) (Same.refl _) (h.sub.trans (same_upd hp)) (fun a w e => by
    have ne := h.apart hp e
    rw [upd_ne ne]; exact h.own a w e)
theorem RepG.newCell {c : C} (h : RepG K H G ow ι (⟨σ, δ, τ⟩ :: fs) M) (hp : H p = none) (rc : ∀ ι', RCm K (upd H p ho) G ι' p c) : RepG K (upd H p ho) G (ownW ow p (.cell M.length)) (ι ++ [p]) (⟨σ, δ, τ⟩ :: fs) (M ++ [c]) := by
  have y := h.newO (o := ho) hp (.cell M.length)
  have up : ∀ (n : Nat) (b : Addr), ι[n]? = some b → (ι ++ [p])[n]? = some b := fun n b e => by
    rw [List.getElem?_append_left (List.getElem?_eq_some_iff.mp e).1]; exact e
  refine ⟨y.sub, y.own, by simp [h.lenM], fun n c' ec => ?_, y.frs.1.keep (Same.refl _) (fun _ _ _ q => ⟨q, rfl⟩) (fun _ _ _ q => ⟨q, rfl⟩) up, y.frs.2.keep (Same.refl _) (fun _ _ _ q => ⟨q, rfl⟩) up⟩
  by_cases hn : n < M.length
  · rw [List.getElem?_append_left hn] at ec
    obtain ⟨b, q1, q2, q3⟩ := y.cells n c' ec
    exact ⟨b, up _ _ q1, q2, q3.keepI (Same.refl _) up rfl⟩
  · have hl := (List.getElem?_eq_some_iff.mp ec).1
    have e : n = M.length := by simp at hl; omega
    subst e
    simp at ec
    subst ec
    exact ⟨p, by rw [← h.lenM]; simp, ownW_same, rc _⟩
theorem rts_repl {k : Nat} : ∀ {vs : List V} {ts : List T} {τ1 τ2 : List (V × T)}, RTs K H G ow ι σ k (rz vs ts τ1) → τ1.length = τ2.length → (RTs K H G ow ι σ k τ1 → RTs K H G ow ι σ k τ2) → RTs K H G ow ι σ k (rz vs ts τ2)
  | [], [], _, _, h, _, f => f h
  | [], _ :: _, _, _, h, _, f => f h
  | _ :: _, [], _, _, h, _, f => f h
  | v :: vs, t :: ts, τ1, τ2, h, hl, f => rts_repl (vs := vs) (ts := ts) (τ1 := (v, t) :: τ1) (τ2 := (v, t) :: τ2) h (congrArg (· + 1) hl) fun q => ⟨hl ▸ q.1, f q.2⟩
theorem RepG.repl {vs : List V} {ts : List T} (h : RepG K H G ow ι (⟨σ, δ, rz vs ts τ1⟩ :: fs) M) (hl : τ1.length = τ2.length) (f : RTs K H G ow ι σ fs.length τ1 → RTs K H G ow ι σ fs.length τ2) : RepG K H G ow ι (⟨σ, δ, rz vs ts τ2⟩ :: fs) M :=
  ⟨h.sub, h.own, h.lenM, h.cells, ⟨h.frs.1.len, h.frs.1.slots, rts_repl h.frs.1.tmps hl f⟩, h.frs.2⟩
end
section
variable {X : Cx} {W : WX} {k n : Nat} {f : Addr} {fd : FuncData} {ps ks : List Str} {x m : Str} {p pos apos : Pos} {e o : Expr} {es : List Expr} {g : Fm} {σ : St} {H : Hp} {Q : VK} {fa : Sm (List T)} {K : KF} {δ : DL.Env} {τ : List (V × T)} {fs : List Fram} {M : Mem} {v : V}
/-- what a caller knows of a class -/
structure CalC (P : Program) (w : World) (K : KF) (mg : Str → Option Value) (base : Heap) (k : Nat) (x : Str) (n : Nat) (g : Fm) : Prop where
  hm : mg x = some (.ref (cOf K x))
  ex : ∃ (f : Addr) (fd : FuncData) (ps : List Str), ps.length = n ∧ FnG P w K mg base k f fd ps (spG K n g) ∧ Mk K (cOf K x) f ∧ Binds K fd ps []
theorem CalC.mono {P : Program} {w : World} {K : KF} {mg : Str → Option Value} {base : Heap} {j k : Nat} {x : Str} {n : Nat} {g : Fm} (c : CalC P w K mg base j x n g) (h : j ≤ k) : CalC P w K mg base k x n g :=
  let ⟨f, fd, ps, a, F, b⟩ := c.ex; ⟨c.hm, f, fd, ps, a, F.mono h, b⟩
def makeT (x : Str) (g : Fm) (ts : List T) : Sm T := fun δ M =>
  if ts.all (fun t => !t.isBor) = true then
    match g (.ref M.length :: ts) (M ++ [.obj x []]) with
    | .ok (.d .none) _ M' => .ok (.ref M.length) δ M'
    | .ex e _ M' => .ex e δ M'
    | _ => .bad
  else .bad
def mMake (x : Str) (g : Fm) (fa : Sm (List T)) : Sm T := bnd fa fun ts => makeT x g ts
theorem make_sp {vs : List V} {ts : List T} {a dx : Addr} (hl : vs.length = ts.length) (hn : ts.length + 1 = n) (ha : H a = none) (hdx : H dx = none) (ne : dx ≠ a) (r : Rep K H (⟨σ, δ, rz vs ts ((.non, .d .none) :: (.non, .d .none) :: τ)⟩ :: fs) M)
    (q : (makeT x g ts δ M).post (fun r δ' M' => ∀ v H', Rep K H' (⟨σ, δ', (v, r) :: τ⟩ :: fs) M' → Q v H') (wX K W σ τ fs)) :
    spG K n g (.ref a :: vs) (upd (upd H dx (.own a)) a (.ins (cOf K x) dx [])) (fun v H2 => v = .non ∧ Q (.ref a) H2) fun c d H' => W c d σ H' := by
  unfold makeT at q
  split at q
  · rename_i hb
    obtain ⟨G, ow, ι, y⟩ := r
    have y1 := y.newN (ho := .own a) hdx
    have ha' : upd H dx (.own a) a = none := by rw [upd_ne (Ne.symm ne)]; exact ha
    have y2 := y1.newCell (c := .obj x []) (ho := .ins (cOf K x) dx []) ha' (fun ι' => ⟨dx, [], upd_same, trivial⟩)
    have hi : (ι ++ [a])[M.length]? = some a := by rw [← y.lenM]; simp
    have y3 := y2.repl (τ2 := (.ref a, .ref M.length) :: (.ref a, .ref M.length) :: τ) rfl fun z => ⟨⟨a, rfl, hi⟩, ⟨a, rfl, hi⟩, z.2.2⟩
    have r3 : Rep K (upd (upd H dx (.own a)) a (.ins (cOf K x) dx [])) (⟨σ, δ, rz (.ref a :: vs) (.ref M.length :: ts) ((.ref a, .ref M.length) :: τ)⟩ :: fs) (M ++ [.obj x []]) := ⟨_, _, _, y3⟩
    have nb : ∀ t ∈ T.ref M.length :: ts, t.isBor = false := fun t ht => by
      rcases List.mem_cons.mp ht with rfl | ht
      · rfl
      · simpa using List.all_eq_true.mp hb t ht
    refine ⟨.ref M.length :: ts, ⟨σ, δ, (.ref a, .ref M.length) :: τ⟩ :: fs, M ++ [.obj x []], by simpa [hl] using hn, by simpa using hn, r3.enter (congrArg (· + 1) hl) nb, ?_⟩
    cases eg : g (.ref M.length :: ts) (M ++ [.obj x []]) with
    | ok r' δ' M' =>
      rw [eg] at q
      cases r' with
      | d z =>
        cases z with
        | none =>
          refine ⟨rfl, fun v H' z => ?_⟩
          have z2 := z.leave rfl
          have ev : v = .non := let ⟨_, _, _, yy⟩ := z2; yy.top
          exact ⟨ev, q _ H' z2.pop⟩
        | _ => exact q.elim
      | _ => exact q.elim
    | ex e δ' M' =>
      rw [eg] at q
      exact fun d H' z => q d H' (XAt.pop (let ⟨G, ow, ι, y, c⟩ := z; ⟨G, ow, ι, ⟨y.sub, y.own, y.lenM, y.cells, y.frs.2⟩, c⟩))
    | bad => rw [eg] at q; exact q.elim
  · exact q.elim
theorem run_makeG {pins : List (Addr × Obj)} {s : Shared} {us : List Value} {vs : List V} (c : CalC X.prog X.w X.K X.mg X.base k x n g) (hr : Room (k + 1) X.A) (hgd : X.A.guards = some []) (tk : Takes X W) (I : Inv X pins σ H s) (r : Vals vs us) (hl : vs.length + 1 = n)
    (h : ∀ a dx, H a = none → H dx = none → dx ≠ a → spG X.K n g (.ref a :: vs) (upd (upd H dx (.own a)) a (.ins (cOf X.K x) dx [])) (fun v H2 => v = .non ∧ Q (.ref a) H2) fun c d H' => W c d σ H') :
    wpAny (model X.prog X.w) X.A (call (.ref (cOf X.K x)) us) (EP X pins σ Q) X.xe s := by
  obtain ⟨f, fd, ps, hp, F, Mc, hb⟩ := c.ex
  have hq := h (s.heap.objs.size + 1) s.heap.objs.size (I.hok.fresh (Nat.le_succ _)) (I.hok.fresh (Nat.le_refl _)) (Nat.ne_of_lt (Nat.lt_succ_self _))
  have I2 := Inv.made (C := cOf X.K x) I
  have r2 : Vals (V.ref (s.heap.objs.size + 1) :: vs) (Value.ref (s.heap.objs.size + 1) :: us) := .cons rfl r
  have hl2 : (Value.ref (s.heap.objs.size + 1) :: us ++ []).length = ps.length := by rw [List.append_nil, List.length_cons, ← r.length, hp]; exact hl
  have b := hb _ (Value.ref (s.heap.objs.size + 1) :: us) I2.kIn hl2
  rw [List.append_nil] at b
  refine wpAny_call (make_map (f := f) I.kIn Mc.makes Mc.init (beq_iff_eq.mp Mc.fn) (codeAny_mono (F.run (outer := X.stack) (Room.make hr (cOf X.K x) us []) (by first | exact hgd | simpa [Around.under] using hgd)
    (I2.env0.make (cOf X.K x) us []) b r2 hq) fun r s' hq' => ?_))
  cases r with
  | error e => exact tk e s' (XE.of_call I2 (fun _ _ _ h => h) hq')
  | ok fl =>
    cases fl with
    | ret u =>
      obtain ⟨v, H', I3, rv, ev, q3⟩ := I2.after hq'
      subst ev
      exact ⟨rv, ⟨V.ref (s.heap.objs.size + 1), H', I3, rfl, q3⟩⟩
    | next => exact False.elim hq'
    | brk => exact False.elim hq'
    | cont => exact False.elim hq'
theorem qe_make (c : CalC X.prog X.w X.K X.mg X.base k x n g) (hr : Room (k + 1) X.A) (hgd : X.A.guards = some []) (tk : Takes X W) (hg : Gl X x) (ha : QA X W (e :: es) fa) (hlen : ∀ δ M ts δ' M', fa δ M = .ok ts δ' M' → ts.length + 1 = n)
    (hdb : (x == ("__debug__" : Str)) = false := by decide) (he : starEach (e :: es) X.env = (false, eval e X.env) :: starEach es X.env := by rfl) (hpl : (backTo pos (starEach es X.env)).any (·.1) = false := by rfl) :
    QE X W (.Call (.Name x p) (e :: es) [] pos) (mMake x g fa) := by
  refine ⟨fun pins s σ H Q I h => wpAny_Call_Name_kw (ld_glob I hg c.hm ?_ hdb)⟩
  have h2 : tA X.K W fa σ H fun vs H1 => vs.length + 1 = n ∧ ∀ a dx, H1 a = none → H1 dx = none → dx ≠ a → spG X.K n g (.ref a :: vs) (upd (upd H1 dx (.own a)) a (.ins (cOf X.K x) dx [])) (fun v H2 => v = .non ∧ Q (.ref a) H2) fun c d H' => W c d σ H' := by
    obtain ⟨δ, τ, fs, M, r, q⟩ := h
    have q' := bnd_post q
    have r' : Rep X.K H (⟨σ, δ, (.non, .d .none) :: (.non, .d .none) :: τ⟩ :: fs) M := (r.pushD (x := .none) (v := .non) fun _ _ => rfl).pushD (x := .none) (v := .non) fun _ _ => rfl
    refine ⟨δ, _, fs, M, r', ?_⟩
    cases ef : fa δ M with
    | ok ts δ1 M1 =>
      rw [ef] at q'
      have hn := hlen _ _ _ _ _ ef
      exact fun vs H1 hl r1 => ⟨by rw [hl]; exact hn, fun a dx h1 h2 ne => make_sp hl hn h1 h2 ne r1 q'⟩
    | ex a b c => rw [ef] at q'; exact wX.push (wX.push q')
    | bad => rw [ef] at q'; exact q'
  have hk : PySem.W.keepIn X.K (.ref (cOf X.K x)) = true := let ⟨_, _, _, _, _, Mc, _⟩ := c.ex; Mc.kp
  refine PySem.W.callWith_K (h₀ := X.base) I.ok.mod.kin hk (thn (ha.run pos pins s σ H _ I h2) fun us s1 ⟨vs, H1, J, r, hl, q⟩ => ⟨J.kIn, ?_⟩) he hpl
  exact run_makeG c hr hgd tk J r hl q
@[simp] theorem e_make : mMake x g fa δ M = bnd fa (fun ts => makeT x g ts) δ M := rfl
@[simp] theorem e_makeT {ts : List T} : makeT x g ts δ M = (if ts.all (fun t => !t.isBor) = true then
    match g (.ref M.length :: ts) (M ++ [.obj x []]) with
    | .ok (.d .none) _ M' => .ok (.ref M.length) δ M'
    | .ex e _ M' => .ex e δ M'
    | _ => .bad
  else .bad) := rfl
end
end DL

end
section
namespace DL
open PySem PySem.Spec L2
/-! ### dicts whose keys are tuples -/
mutual
theorem nkO_noText : ∀ (d : D) (k : NestedKey), nkO d = some k → noText k = true
  | .none, _, h => by cases h; rfl
  | .int i, _, h => by cases h; rfl
  | .tuple ds, _, h => by
    unfold nkO at h
    cases e : nkO.nkOs ds with
    | none => rw [e] at h; cases h
    | some ks => rw [e] at h; cases h; exact nkOs_noText ds ks e
  | .bool _, _, h => by cases h
  | .str _, _, h => by cases h
  | .list _, _, h => by cases h
  | .dict _, _, h => by cases h
theorem nkOs_noText : ∀ (ds : List D) (ks : List NestedKey), nkO.nkOs ds = some ks → noText.noTexts ks = true
  | [], _, h => by cases h; rfl
  | d :: ds, ks, h => by
    unfold nkO.nkOs at h
    cases e : nkO d with
    | none => rw [e] at h; cases h
    | some k =>
      cases e2 : nkO.nkOs ds with
      | none => rw [e, e2] at h; cases h
      | some r => rw [e, e2] at h; cases h; simp only [noText.noTexts, nkO_noText d k e, nkOs_noText ds r e2]; rfl
end
mutual
theorem hash_w (w w' : World) : ∀ k : NestedKey, noText k = true → k.hash w = k.hash w'
  | .none, _ => rfl
  | .num _, _ => rfl
  | .text _, h => by cases h
  | .tup ks, h => by simp only [NestedKey.hash, hashes_w w w' ks h]
theorem hashes_w (w w' : World) : ∀ ks : List NestedKey, noText.noTexts ks = true → NestedKey.hashes w ks = NestedKey.hashes w' ks
  | [], _ => rfl
  | k :: ks, h => by
    simp only [noText.noTexts, Bool.and_eq_true] at h
    simp only [NestedKey.hashes, hash_w w w' k h.1, hashes_w w w' ks h.2]
end
section
variable {X : Cx} {pins : List (Addr × Obj)} {σ : St} {H G : Hp} {s : Shared}
mutual
theorem nis_of (I : Inv X pins σ H s) (sm : Same G H) : ∀ (d : D) (k : NestedKey) (v : V) (u : Value), At X.K G v d → nkO d = some k → RelV v u → NestedIs s.heap k u
  | .none, k, v, u, a, e, r => by cases e; obtain rfl : v = .non := a; cases (show u = Value.none from r); exact .none
  | .int i, k, v, u, a, e, r => by
    cases e; obtain rfl : v = .int i := a
    obtain ⟨t, rfl⟩ := (show ∃ t, u = Value.int i t from r)
    exact .int i t
  | .tuple ds, k, v, u, a, e, r => by
    unfold nkO at e
    cases e1 : nkO.nkOs ds with
    | none => rw [e1] at e; cases e
    | some ks =>
      rw [e1] at e; cases e
      obtain ⟨p, vs, rfl, hq, al⟩ := a
      cases (show u = Value.ref p from r)
      obtain ⟨its, rv, ⟨o, ho, hc, n, hd⟩, _⟩ := I.tuple (SqT.grow sm hq)
      exact .tup ho hc hd (by simpa using nisAll_of I sm ds ks vs its al e1 rv)
  | .bool _, _, _, _, _, e, _ => by cases e
  | .str _, _, _, _, _, e, _ => by cases e
  | .list _, _, _, _, _, e, _ => by cases e
  | .dict _, _, _, _, _, e, _ => by cases e
theorem nisAll_of (I : Inv X pins σ H s) (sm : Same G H) : ∀ (ds : List D) (ks : List NestedKey) (vs : List V) (us : List Value), AtL X.K G vs ds → nkO.nkOs ds = some ks → Vals vs us → NestedAll s.heap ks us
  | [], ks, vs, us, a, e, r => by cases e; rw [show vs = [] from a] at r; cases r; exact .nil
  | d :: ds, ks, vs, us, ⟨v, w, ev, a1, a2⟩, e, r => by
    unfold nkO.nkOs at e
    subst ev
    cases e1 : nkO d with
    | none => rw [e1] at e; cases e
    | some k =>
      cases e2 : nkO.nkOs ds with
      | none => rw [e1, e2] at e; cases e
      | some q =>
        rw [e1, e2] at e; cases e
        cases r with
        | cons r1 r2 => exact .cons (nis_of I sm d k v _ a1 e1 r1) (nisAll_of I sm ds q w _ a2 e2 r2)
end
end
/-- a tuple that may be a key -/
def nkT (d : D) : Option NestedKey := match d with
  | .tuple _ => (nkO d).bind fun k => if k.depth ≤ 8 then some k else none
  | _ => none
theorem nkT_of {d : D} {k : NestedKey} (h : nkT d = some k) : nkO d = some k ∧ k.depth ≤ 8 ∧ ∃ ds, d = .tuple ds := by
  unfold nkT at h
  split at h
  · rename_i ds
    cases e : nkO (.tuple ds) with
    | none => rw [e] at h; cases h
    | some q =>
      rw [e, Option.bind_some] at h
      split at h
      · rename_i hd; cases h; exact ⟨rfl, hd, ds, rfl⟩
      · cases h
  · cases h
def lookN (q : NestedKey) (kvs : List (D × D)) : Option D := (kvs.find? fun p => decide (nkO p.1 = some q)).map (·.2)
def putN (q : NestedKey) (y d : D) (kvs : List (D × D)) : List (D × D) :=
  if (kvs.any fun p => decide (nkO p.1 = some q)) = true then kvs.map (fun p => if nkO p.1 = some q then (p.1, d) else p) else kvs ++ [(y, d)]
section
variable {K : KF} {G H : Hp}
abbrev Ent3 := NestedKey × Addr × V
def look3 (es : List Ent3) (q : NestedKey) : Option V := (es.find? fun p => decide (p.1 = q)).map (·.2.2)
def put3 (q : NestedKey) (b : Addr) (v : V) (es : List Ent3) : List Ent3 := if (es.any fun p => decide (p.1 = q)) = true then es.map (fun p => if p.1 = q then (p.1, p.2.1, v) else p) else es ++ [(q, b, v)]
theorem AtN.len : ∀ {kvs : List (D × D)} {es : List Ent3}, AtN K G es kvs → es.length = kvs.length
  | [], _, h => by rw [show _ = _ from h]; rfl
  | (_, _) :: r, _, ⟨_, _, _, _, e, _, _, _, h⟩ => by rw [e, List.length_cons, List.length_cons, AtN.len h]
theorem AtN.look {q : NestedKey} : ∀ {kvs : List (D × D)} {es : List Ent3}, AtN K G es kvs → (∀ d, lookN q kvs = some d → ∃ v, look3 es q = some v ∧ At K G v d) ∧ (lookN q kvs = none → look3 es q = none)
  | [], es, h => by
    obtain rfl : es = [] := h
    exact ⟨fun d e => (nomatch e), fun _ => rfl⟩
  | (x, d) :: r, es, ⟨p, b, w, s, e, hk, _, a, h⟩ => by
    subst e
    obtain ⟨h1, h2⟩ := AtN.look (q := q) h
    by_cases hq : p = q
    · subst hq
      have e : lookN p ((x, d) :: r) = some d := by unfold lookN; rw [List.find?_cons_of_pos (by simp [hk])]; rfl
      have e3 : look3 ((p, b, w) :: s) p = some w := by unfold look3; rw [List.find?_cons_of_pos (by simp)]; rfl
      rw [e, e3]
      exact ⟨fun z ez => ⟨w, rfl, by cases ez; exact a⟩, fun z => nomatch z⟩
    · have e : lookN q ((x, d) :: r) = lookN q r := by
        unfold lookN
        rw [List.find?_cons_of_neg (by rw [hk]; simpa using fun z => hq z)]
      have e3 : look3 ((p, b, w) :: s) q = look3 s q := by unfold look3; rw [List.find?_cons_of_neg (by simpa using hq)]
      rw [e, e3]
      exact ⟨h1, h2⟩
theorem AtN.isSome {q : NestedKey} {kvs : List (D × D)} {es : List Ent3} (h : AtN K G es kvs) : (look3 es q).isSome = (lookN q kvs).isSome := by
  obtain ⟨h1, h2⟩ := h.look (q := q)
  cases e : lookN q kvs with
  | none => rw [h2 e]; rfl
  | some d => obtain ⟨v, e2, _⟩ := h1 d e; rw [e2]; rfl
theorem AtN.any {q : NestedKey} : ∀ {kvs : List (D × D)} {es : List Ent3}, AtN K G es kvs → (es.any fun p => decide (p.1 = q)) = kvs.any fun p => decide (nkO p.1 = some q)
  | [], es, h => by rw [show es = [] from h]; rfl
  | (x, d) :: r, es, ⟨p, b, w, s, e, hk, _, a, h⟩ => by
    subst e
    rw [List.any_cons, List.any_cons, AtN.any h, hk]
    congr 1
    simp
theorem AtN.app : ∀ {kvs : List (D × D)} {es : List Ent3} {q : NestedKey} {b : Addr} {x d : D} {w : V}, AtN K G es kvs → nkO x = some q → At K G (.ref b) x → At K G w d → AtN K G (es ++ [(q, b, w)]) (kvs ++ [(x, d)])
  | [], es, q, b, x, d, w, h, hk, ab, a => by
    rw [show es = [] from h]
    exact ⟨q, b, w, [], rfl, hk, ab, a, rfl⟩
  | (y, z) :: r, es, q, b, x, d, w, ⟨p, c, v, s, e, h1, h2, h3, h4⟩, hk, ab, a => by
    subst e
    exact ⟨p, c, v, s ++ [(q, b, w)], rfl, h1, h2, h3, AtN.app h4 hk ab a⟩
theorem AtN.repl : ∀ {kvs : List (D × D)} {es : List Ent3} {q : NestedKey} {d : D} {w : V}, AtN K G es kvs → At K G w d → AtN K G (es.map fun p => if p.1 = q then (p.1, p.2.1, w) else p) (kvs.map fun p => if nkO p.1 = some q then (p.1, d) else p)
  | [], es, q, d, w, h, a => by rw [show es = [] from h]; rfl
  | (y, z) :: r, es, q, d, w, ⟨p, c, v, s, e, h1, h2, h3, h4⟩, a => by
    subst e
    have ih := AtN.repl (q := q) h4 a
    simp only [List.map_cons]
    by_cases hq : p = q
    · subst hq
      rw [if_pos rfl, if_pos h1]
      exact ⟨p, c, w, _, rfl, h1, h2, a, ih⟩
    · rw [if_neg hq, if_neg (by rw [h1]; exact fun z => hq (Option.some.inj z))]
      exact ⟨p, c, v, _, rfl, h1, h2, h3, ih⟩
theorem AtN.put {kvs : List (D × D)} {es : List Ent3} {q : NestedKey} {b : Addr} {x d : D} {w : V} (h : AtN K G es kvs) (hk : nkO x = some q) (ab : At K G (.ref b) x) (a : At K G w d) : AtN K G (put3 q b w es) (putN q x d kvs) := by
  unfold put3 putN
  rw [h.any]
  split
  · exact h.repl a
  · exact h.app hk ab a
theorem AtN.keys : ∀ {kvs : List (D × D)} {es : List Ent3}, AtN K G es kvs → ∀ p ∈ es, ∃ x, nkO x = some p.1 ∧ At K G (.ref p.2.1) x
  | [], es, h, p, hp => by rw [show es = [] from h] at hp; cases hp
  | (y, z) :: r, es, ⟨q, c, v, s, e, h1, h2, h3, h4⟩, p, hp => by
    subst e
    rcases List.mem_cons.mp hp with rfl | hp
    · exact ⟨y, h1, h2⟩
    · exact AtN.keys h4 p hp
theorem putN_length (q : NestedKey) (y d : D) (kvs : List (D × D)) : (putN q y d kvs).length ≤ kvs.length + 1 := by
  unfold putN; split <;> simp
end
section
variable {X : Cx} {pins : List (Addr × Obj)} {σ : St} {H G : Hp} {s : Shared} {a : Addr} {es : List Ent3}
/-- the model's own entries -/
def Rel3 (p : Ent3) (q : NestedKey × Addr × Value) : Prop := p.1 = q.1 ∧ p.2.1 = q.2.1 ∧ RelV p.2.2 q.2.2
theorem ents_xs (w : World) (P : Program) : ∀ {es : List Ent3} {ents : List DictEntry}, Paired EntN es ents → ∃ xs : List (NestedKey × Addr × Value), Paired Rel3 es xs ∧ ents = xs.map (entryOfKey (nestedKind P w))
  | [], _, .nil => ⟨[], .nil, rfl⟩
  | p :: es, e :: ents, .cons ⟨h1, h2, h3, h4, h5⟩ t => by
    obtain ⟨xs, r, q⟩ := ents_xs w P t
    refine ⟨(p.1, p.2.1, e.val) :: xs, .cons ⟨rfl, rfl, h5⟩ r, ?_⟩
    rw [List.map_cons, ← q]
    congr 1
    cases e
    simp only at h3 h4
    show DictEntry.mk _ _ _ = DictEntry.mk (p.1.hash w) (.ref p.2.1) _
    rw [h3 w, h4]
theorem xs_ents (w : World) (P : Program) : ∀ {es : List Ent3} {xs : List (NestedKey × Addr × Value)}, Paired Rel3 es xs → (∀ p ∈ es, noText p.1 = true ∧ p.1.depth ≤ 8) → Paired EntN es (xs.map (entryOfKey (nestedKind P w)))
  | [], _, .nil, _ => .nil
  | p :: es, q :: xs, .cons ⟨h1, h2, h3⟩ t, h => by
    obtain ⟨n1, n2⟩ := h p List.mem_cons_self
    refine .cons ⟨n1, n2, fun w' => ?_, ?_, h3⟩ (xs_ents w P t fun x hx => h x (List.mem_cons_of_mem _ hx))
    · show q.1.hash w = p.1.hash w'
      rw [← h1]; exact hash_w w w' _ n1
    · show Value.ref q.2.1 = .ref p.2.1
      rw [h2]
theorem rel3_keys : ∀ {es : List Ent3} {xs : List (NestedKey × Addr × Value)}, Paired Rel3 es xs → es.map (·.1) = xs.map (·.1)
  | [], _, .nil => rfl
  | _ :: _, _ :: _, .cons ⟨h1, _, _⟩ t => by rw [List.map_cons, List.map_cons, rel3_keys t, h1]
theorem rel3_at {q : NestedKey} : ∀ {es : List Ent3} {xs : List (NestedKey × Addr × Value)}, Paired Rel3 es xs → RelO (look3 es q) ((atKey xs q).map (·.2))
  | [], _, .nil => trivial
  | p :: es, x :: xs, .cons ⟨h1, h2, h3⟩ t => by
    by_cases hq : p.1 = q
    · have e1 : look3 (p :: es) q = some p.2.2 := by unfold look3; rw [List.find?_cons_of_pos (by simpa using hq)]; rfl
      have e2 : atKey (x :: xs) q = some x.2 := by unfold atKey; rw [List.find?_cons_of_pos (by rw [← h1]; simpa using hq)]; rfl
      rw [e1, e2]; exact h3
    · have e1 : look3 (p :: es) q = look3 es q := by unfold look3; rw [List.find?_cons_of_neg (by simpa using hq)]
      have e2 : atKey (x :: xs) q = atKey xs q := by unfold atKey; rw [List.find?_cons_of_neg (by rw [← h1]; simpa using hq)]
      rw [e1, e2]; exact rel3_at t
theorem rel3_any {q : NestedKey} : ∀ {es : List Ent3} {xs : List (NestedKey × Addr × Value)}, Paired Rel3 es xs → (es.any fun p => decide (p.1 = q)) = (atKey xs q).isSome
  | [], _, .nil => rfl
  | p :: es, x :: xs, .cons ⟨h1, h2, h3⟩ t => by
    have ih := rel3_any (q := q) t
    rw [List.any_cons, ih]
    by_cases hq : p.1 = q
    · have e2 : atKey (x :: xs) q = some x.2 := by unfold atKey; rw [List.find?_cons_of_pos (by rw [← h1]; simpa using hq)]; rfl
      rw [e2]; simp [hq]
    · have e2 : atKey (x :: xs) q = atKey xs q := by unfold atKey; rw [List.find?_cons_of_neg (by rw [← h1]; simpa using hq)]
      rw [e2]; simp [hq]
theorem rel3_repl {q : NestedKey} {v : V} {u : Value} (r : RelV v u) : ∀ {es : List Ent3} {xs : List (NestedKey × Addr × Value)}, Paired Rel3 es xs → Paired Rel3 (es.map fun p => if p.1 = q then (p.1, p.2.1, v) else p) (xs.map (putAt q u))
  | [], _, .nil => .nil
  | p :: es, x :: xs, .cons ⟨h1, h2, h3⟩ t => by
    rw [List.map_cons, List.map_cons]
    refine .cons ?_ (rel3_repl r t)
    unfold putAt
    by_cases hq : p.1 = q
    · rw [if_pos hq, if_pos (h1 ▸ hq)]; exact ⟨h1, h2, r⟩
    · rw [if_neg hq, if_neg (fun z => hq (h1.trans z))]; exact ⟨h1, h2, h3⟩
theorem rel3_app {p : Ent3} {x : NestedKey × Addr × Value} (r : Rel3 p x) : ∀ {es : List Ent3} {xs : List (NestedKey × Addr × Value)}, Paired Rel3 es xs → Paired Rel3 (es ++ [p]) (xs ++ [x])
  | [], _, .nil => .cons r .nil
  | _ :: _, _ :: _, .cons h t => .cons h (rel3_app r t)
theorem rel3_put {q : NestedKey} {b : Addr} {v : V} {u : Value} (r : RelV v u) {es : List Ent3} {xs : List (NestedKey × Addr × Value)} (t : Paired Rel3 es xs) : Paired Rel3 (put3 q b v es) (storedH xs q b u) := by
  unfold put3 storedH
  rw [rel3_any t]
  split
  · exact rel3_repl r t
  · exact rel3_app ⟨rfl, rfl, r⟩ t
theorem dcn_of (I : Inv X pins σ H s) (e : Rd H a (dcnO a es)) (sm : Same G H) (hk : ∀ p ∈ es, ∃ x, nkO x = some p.1 ∧ At X.K G (.ref p.2.1) x) :
    ∃ xs, Paired Rel3 es xs ∧ s.heap.DictOfH (nestedKind X.prog X.w) a xs ∧ (a == sysModules) = false ∧ es.length ≤ sizeLine ∧ ∀ p ∈ es, noText p.1 = true ∧ p.1.depth ≤ 8 := by
  obtain ⟨⟨ns, z, nd, o, ents, ep, ho, hx, hd, pr⟩, _, _⟩ := rd_of I.hok e
  obtain ⟨xs, r, q⟩ := ents_xs X.w X.prog pr
  have pk : ∀ {es : List Ent3} {ents : List DictEntry}, Paired EntN es ents → ∀ p ∈ es, noText p.1 = true ∧ p.1.depth ≤ 8 := fun {es ents} pr => by
    induction pr with
    | nil => exact fun p hp => nomatch hp
    | cons h t ih =>
      intro p hp
      rcases List.mem_cons.mp hp with rfl | hp
      · exact ⟨h.1, h.2.1⟩
      · exact ih p hp
  refine ⟨xs, r, ⟨o, ents, ep, ho, hx, hd, q, ?_, by rw [← rel3_keys r]; exact nd⟩, ns, z, pk pr⟩
  have km : ∀ {es : List Ent3} {xs : List (NestedKey × Addr × Value)}, Paired Rel3 es xs → (∀ p ∈ es, ∃ x, nkO x = some p.1 ∧ At X.K G (.ref p.2.1) x) → (∀ p ∈ es, noText p.1 = true ∧ p.1.depth ≤ 8) → ∀ x ∈ xs, (nestedKind X.prog X.w).is s.heap x.1 x.2.1 := fun {es xs} r => by
    induction r with
    | nil => exact fun _ _ x hx => nomatch hx
    | cons h t ih =>
      intro h1 h2 x hx
      rcases List.mem_cons.mp hx with rfl | hx
      · obtain ⟨d, e1, e2⟩ := h1 _ List.mem_cons_self
        have := nis_of I sm d _ _ (.ref _) e2 e1 rfl
        rw [h.1, h.2.1] at this
        exact ⟨this, by rw [← h.1]; exact (h2 _ List.mem_cons_self).2⟩
      · exact ih (fun p hp => h1 p (List.mem_cons_of_mem _ hp)) (fun p hp => h2 p (List.mem_cons_of_mem _ hp)) x hx
  exact km r hk (pk pr)
theorem dcn_ok {P : Program} {w : World} {H' : Hp} {h' : Heap} {xs : List (NestedKey × Addr × Value)} (ns : (a == sysModules) = false) (z : es.length ≤ sizeLine) (r : Paired Rel3 es xs) (hk : ∀ p ∈ es, noText p.1 = true ∧ p.1.depth ≤ 8) (dd : h'.DictOfH (nestedKind P w) a xs) : ObjOk P w H' h' a (dcnO a es) := by
  obtain ⟨o, ents, ep, ho, hx, hd, q, _, nd⟩ := dd
  refine ⟨⟨ns, z, by rw [rel3_keys r]; exact nd, o, ents, ep, ho, hx, hd, by rw [q]; exact xs_ents w P r hk⟩, ⟨o, ho⟩, fun h1 h2 ⟨a1, a2, a3, o1, e1, p1, b1, b2, b3, b4⟩ k => ⟨a1, a2, a3, o1, e1, p1, k _ b1, b2, b3, b4⟩⟩
theorem dcn_empty {P : Program} {w : World} {H' : Hp} (h : Heap) (hb : sysModules < h.objs.size) : ObjOk P w H' (h.push { cls := .type "dict", data := .dict #[] }) h.objs.size (dcnO h.objs.size []) :=
  dcn_ok (xs := []) (beq_eq_false_iff_ne.mpr (Ne.symm (Nat.ne_of_lt hb))) (Nat.zero_le _) .nil (fun _ h => nomatch h) (Heap.DictOfH.new h)
end
/-! ### readings -/
section
variable {X : Cx} {W : WX} {K : KF} {H G : Hp} {ow : Addr → Option Who} {ι : List Addr} {σ : St} {δ : DL.Env} {τ : List (V × T)} {fs : List Fram} {M : Mem} {v u : V} {t : T} {e e' : Expr} {pos : Pos} {k : Nat}
def dnOf (t : T) (δ : DL.Env) (M : Mem) : Option (List (D × D)) := match t with
  | .con (.dcn kvs) => some kvs
  | .fz kvs => some kvs
  | t => match conOf t δ M with
    | some (.dcn kvs) => some kvs
    | _ => none
theorem RepG.dn {w : Who} {kvs : List (D × D)} (x : RepG K H G ow ι (⟨σ, δ, τ⟩ :: fs) M) (r : RT K H G ow ι σ w v t) (h : dnOf t δ M = some kvs) : ∃ a es, v = .ref a ∧ Rd H a (dcnO a es) ∧ AtN K G es kvs := by
  unfold dnOf at h
  split at h
  · cases h
    obtain ⟨a, ev, oa, es, h1, h2⟩ := r
    exact ⟨a, es, ev, .inl h1, h2⟩
  · cases h
    obtain ⟨a, o, es, ev, h1, h2⟩ := r
    exact ⟨a, es, ev, .inr ⟨o, x.sub _ _ h1⟩, h2⟩
  · split at h
    · rename_i e
      cases h
      obtain ⟨a, ev, ⟨es, h1, h2⟩, _⟩ := x.mod r e
      exact ⟨a, es, ev, .inl h1, h2⟩
    · cases h
/-- what an operator with such a dict wants -/
def NArg (X : Cx) (H : Hp) (a b : Addr) (es : List Ent3) (q : NestedKey) : Prop := ∃ G, Same G H ∧ Rd H a (dcnO a es) ∧ (∀ p ∈ es, ∃ x, nkO x = some p.1 ∧ At X.K G (.ref p.2.1) x) ∧ (∃ x, nkO x = some q ∧ At X.K G (.ref b) x) ∧ q.depth ≤ 8
def rInN (X : Cx) (g : Bool → Bool) : R2 := fun x y H Q => ∃ a b es q, y = .ref a ∧ x = .ref b ∧ NArg X H a b es q ∧ Q (.bl (g (look3 es q).isSome)) H
theorem NArg.get {pins : List (Addr × Obj)} {s : Shared} {a b : Addr} {es : List Ent3} {q : NestedKey} (I : Inv X pins σ H s) (h : NArg X H a b es q) : ∃ xs, Paired Rel3 es xs ∧ s.heap.DictOfH (nestedKind X.prog X.w) a xs ∧ (a == sysModules) = false ∧ es.length ≤ sizeLine ∧ (∀ p ∈ es, noText p.1 = true ∧ p.1.depth ≤ 8) ∧ (nestedKind X.prog X.w).is s.heap q b ∧ noText q = true := by
  obtain ⟨G, sm, e, hk, ⟨x, ex, ax⟩, hd⟩ := h
  obtain ⟨xs, r, dd, ns, z, nk⟩ := dcn_of I e sm hk
  exact ⟨xs, r, dd, ns, z, nk, ⟨nis_of I sm x q _ (.ref b) ax ex rfl, hd⟩, nkO_noText x q ex⟩
theorem op_inN (hu : X.A.units + 9 < cLine) : OpR X (compareOp .In) (rInN X id) := by
  intro pins s σ H x y w z Q I rx ry h
  obtain ⟨a, b, es, q, rfl, rfl, hn, hq⟩ := h
  cases (show z = Value.ref a from ry)
  cases (show w = Value.ref b from rx)
  obtain ⟨xs, r, dd, ns, z, nk, hk, -⟩ := hn.get I
  refine wpAny_in_heap (knd := nestedKind X.prog X.w) (by show X.A.in1.units + 8 < cLine; rw [Around.in1_units]; omega) hk ns dd ⟨.bl (look3 es q).isSome, H, I.tok _, ?_, hq⟩
  have e := (rel3_at (q := q) r).isSome_eq
  rw [Option.isSome_map] at e
  rw [e]; rfl
theorem op_notInN (hu : X.A.units + 9 < cLine) : OpR X (compareOp .NotIn) (rInN X not) := by
  intro pins s σ H x y w z Q I rx ry h
  obtain ⟨a, b, es, q, rfl, rfl, hn, hq⟩ := h
  cases (show z = Value.ref a from ry)
  cases (show w = Value.ref b from rx)
  obtain ⟨xs, r, dd, ns, z, nk, hk, -⟩ := hn.get I
  refine PyProof.Rows.wpAny_notIn_heap (knd := nestedKind X.prog X.w) (by show X.A.in1.units + 8 < cLine; rw [Around.in1_units]; omega) hk ns dd ⟨.bl (!(look3 es q).isSome), H, I.tok _, ?_, hq⟩
  have e := (rel3_at (q := q) r).isSome_eq
  rw [Option.isSome_map] at e
  rw [e]; rfl
def rIxN (X : Cx) : R2 := fun x y H Q => ∃ a b es q v, x = .ref a ∧ y = .ref b ∧ NArg X H a b es q ∧ look3 es q = some v ∧ Q v H
theorem ix_dcn (hu : X.A.units + 9 < cLine) : IxR X (rIxN X) := by
  intro value slice pins s σ H x y w z Q I rx ry h hs
  obtain ⟨a, b, es, q, v, rfl, rfl, hn, lv, hq⟩ := h
  cases (show w = Value.ref a from rx)
  cases (show z = Value.ref b from ry)
  obtain ⟨xs, r, dd, ns, z, nk, hk, -⟩ := hn.get I
  have hT := dd.typeIs
  obtain ⟨w', hw, rw'⟩ := RelO.some_of (v := v) (o := (atKey xs q).map (·.2)) (by rw [← lv]; exact rel3_at r)
  obtain ⟨p, hp, hp2⟩ := Option.map_eq_some_iff.mp hw
  have hi : wpAny (model X.prog X.w) X.A (getItem (.ref a) (.ref b)) (EP X pins σ Q) X.xe s := wpAny_getItem_heap (knd := nestedKind X.prog X.w) (by show X.A.in1.units + 8 < cLine; rw [Around.in1_units]; omega) hk dd hp ⟨v, H, I.tok _, by rw [hp2]; exact rw', hq⟩
  unfold PyProof.Rows.subscriptTail; refine wpAny_bind ?_; rw [getitemInPython_of_ne hT.not_modules]
  refine wpAny_bind (wpAny_specialOf hT PySem.F.slot_dict_getitem.lookup ?_)
  have last : wpAny (model X.prog X.w) X.A (subscripted slice false (.ref a) (.ref b)) (fun r s3 => wpAny (model X.prog X.w) X.A (letTemporaryGo value (.ref a) r >>= fun _ => pure r) (EP X pins σ Q) X.xe s3) X.xe s := by
    rw [hs]; exact wpAny_operating (wpAny_mono hi (fun r s3 h3 => wpAny_bind (wpAny_letTemporaryGo (wpAny_pure h3))) fun _ _ x => x)
  first | exact wpAny_pure (wpAny_bind last) | exact wpAny_bind (wpAny_pure (wpAny_bind last)) | exact wpAny_bind last
def rSetN (X : Cx) (o i v : V) (H : Hp) (Q : Hp → Prop) : Prop := ∃ a b es q, o = .ref a ∧ i = .ref b ∧ NArg X H a b es q ∧ H a = some (dcnO a es) ∧ es.length < 16000000 ∧ Q (upd H a (dcnO a (put3 q b v es)))
theorem put3_length (q : NestedKey) (b : Addr) (v : V) (es : List Ent3) : (put3 q b v es).length ≤ es.length + 1 := by
  unfold put3; split <;> simp
theorem put3_keys {q : NestedKey} {b : Addr} {v : V} {es : List Ent3} {P : NestedKey → Prop} (h : ∀ p ∈ es, P p.1) (hq : P q) : ∀ p ∈ put3 q b v es, P p.1 := by
  unfold put3
  split
  · intro p hp
    obtain ⟨x, hx, rfl⟩ := List.mem_map.mp hp
    split
    · exact h x hx
    · exact h x hx
  · intro p hp
    rcases List.mem_append.mp hp with hp | hp
    · exact h p hp
    · rw [List.mem_singleton.mp hp]; exact hq
theorem set_dcn (hu : X.A.units + 9 < cLine) : PSet X (rSetN X) := by
  intro pins s σ H o i v ov iv u Q I ro ri rv h
  obtain ⟨a, b, es, q, rfl, rfl, hn, ha, hl, hq⟩ := h
  cases (show ov = Value.ref a from ro)
  cases (show iv = Value.ref b from ri)
  obtain ⟨xs, r, dd, ns, z, nk, hk, nq⟩ := hn.get I
  have hlen : xs.length = es.length := by have := congrArg List.length (rel3_keys r); simpa using this.symm
  refine wpAny_setItem_heap (knd := nestedKind X.prog X.w) (by show X.A.in1.units + 8 < cLine; rw [Around.in1_units]; omega) hk dd (fun h' dd' sb => ?_) (by rw [hlen]; exact z)
  refine ⟨_, d_write I (by rw [ha]; exact True.intro) sb ?_ ?_, hq⟩
  · obtain ⟨o, _, _, ho, _⟩ := dd'; exact ⟨o, ho⟩
  · refine dcn_ok ns ?_ (rel3_put rv r) (fun p hp => ?_) dd'
    · have := put3_length q b v es
      have : (16000000 : Nat) ≤ sizeLine := by decide
      omega
    · exact put3_keys (P := fun k => noText k = true ∧ k.depth ≤ 8) nk ⟨nq, by obtain ⟨_, _, _, _, _, hd⟩ := hn; exact hd⟩ p hp
/-! ### the rules -/
def mInN (g : Bool → Bool) (f d : Sm T) : Sm T := bnd f fun x => bnd d fun y => fun δ M => match x, dnOf y δ M with
  | .d k, some kvs => (match nkT k with
    | some q => .ok (.d (.bool (g (lookN q kvs).isSome))) δ M
    | none => .bad)
  | _, _ => .bad
theorem narg {kvs : List (D × D)} {q : NestedKey} {x : D} {a b : Addr} {es : List Ent3} (sm : Same G H) (h1 : Rd H a (dcnO a es)) (h2 : AtN X.K G es kvs) (hq : nkO x = some q) (hd : q.depth ≤ 8) (ax : At X.K G (.ref b) x) : NArg X H a b es q :=
  ⟨G, sm, h1, h2.keys, ⟨x, hq, ax⟩, hd⟩
theorem in_rd {g : Bool → Bool} {f d : Sm T} {Q : VK} (h : tE X.K W (mInN g f d) σ H Q) : tE X.K W f σ H fun x H1 => tE X.K W d σ H1 fun y H2 => rInN X g x y H2 Q := by
  obtain ⟨δ, τ, fs, M, rp, q⟩ := h
  refine ⟨δ, τ, fs, M, rp, Res.post_mono (bnd_post q) (fun a δ1 M1 q1 v H1 r1 => ?_) fun _ _ _ z => z⟩
  refine ⟨δ1, (v, a) :: τ, fs, M1, r1, Res.post_mono (bnd_post q1) (fun b δ2 M2 q2 u H2 r2 => ?_) fun _ _ _ z => z.push⟩
  cases a with
  | d k =>
    cases ed : dnOf b δ2 M2 with
    | none => simp only [ed] at q2; exact q2.elim
    | some kvs =>
      simp only [ed] at q2
      cases ek : nkT k with
      | none => rw [ek] at q2; exact q2.elim
      | some qk =>
        rw [ek] at q2
        obtain ⟨e1, e2, ds, rfl⟩ := nkT_of ek
        obtain ⟨G, ow, ι, x⟩ := r2
        obtain ⟨a, es, rfl, h1, h2⟩ := x.dn x.top ed
        have ak : At X.K G v (.tuple ds) := x.pop.top
        obtain ⟨p, vs, rfl, hsq, al⟩ := id ak
        refine ⟨a, p, es, qk, rfl, rfl, narg x.sub h1 h2 e1 e2 ak, ?_⟩
        rw [h2.isSome]
        exact q2 _ H2 (Rep.pushD (Rep.pop (Rep.pop ⟨G, ow, ι, x⟩)) fun _ _ => rfl)
  | _ => exact q2.elim
theorem qe_inN {f d : Sm T} (hr : Room k X.A) (h : QE X W e f) (h' : QE X W e' d) (hm : behindInMarks .In e' = false := by rfl) : QE X W (.Compare e [.In] [e'] pos) (mInN id f d) :=
  (pe_cmpR (op_inN (by have := hr.units; omega)) h h' hm).imp fun _ _ _ q => in_rd q
theorem qe_notInN {f d : Sm T} (hr : Room k X.A) (h : QE X W e f) (h' : QE X W e' d) (hm : behindInMarks .NotIn e' = false := by rfl) : QE X W (.Compare e [.NotIn] [e'] pos) (mInN not f d) :=
  (pe_cmpR (op_notInN (by have := hr.units; omega)) h h' hm).imp fun _ _ _ q => in_rd q
theorem qt_inN {f d : Sm T} (hr : Room k X.A) (h : QE X W e f) (h' : QE X W e' d) (hm : behindInMarks .In e' = false := by rfl) : QT X W (.Compare e [.In] [e'] pos) (mTest (mInN id f d)) :=
  (pt_cmpR (op_inN (by have := hr.units; omega)) h h' hm).imp fun _ _ _ q => in_rd (test_of q)
theorem qt_notInN {f d : Sm T} (hr : Room k X.A) (h : QE X W e f) (h' : QE X W e' d) (hm : behindInMarks .NotIn e' = false := by rfl) : QT X W (.Compare e [.NotIn] [e'] pos) (mTest (mInN not f d)) :=
  (pt_cmpR (op_notInN (by have := hr.units; omega)) h h' hm).imp fun _ _ _ q => in_rd (test_of q)
def mIxN (d f : Sm T) : Sm T := bnd d fun y => bnd f fun x => fun δ M => match x, dnOf y δ M with
  | .d k, some kvs => (match (nkT k).bind fun q => lookN q kvs with
    | some z => .ok (.d z) δ M
    | none => .bad)
  | _, _ => .bad
theorem qe_ixN {d f : Sm T} (hr : Room k X.A) (h : QE X W e d) (h' : QE X W e' f) (hs : PlainIx e' := by exact fun _ _ => rfl) : QE X W (.Subscript e e' pos) (mIxN d f) := by
  refine (pe_ix (ix_dcn (by have := hr.units; omega)) h h' hs).imp fun σ H Q ⟨δ, τ, fs, M, rp, q⟩ => ?_
  refine ⟨δ, τ, fs, M, rp, Res.post_mono (bnd_post q) (fun b δ1 M1 q1 v H1 r1 => ?_) fun _ _ _ z => z⟩
  refine ⟨δ1, (v, b) :: τ, fs, M1, r1, Res.post_mono (bnd_post q1) (fun a δ2 M2 q2 u H2 r2 => ?_) fun _ _ _ z => z.push⟩
  cases a with
  | d k =>
    cases ed : dnOf b δ2 M2 with
    | none => simp only [ed] at q2; exact q2.elim
    | some kvs =>
      simp only [ed] at q2
      cases ek : nkT k with
      | none => rw [ek] at q2; exact q2.elim
      | some qk =>
        rw [ek, Option.bind_some] at q2
        cases ez : lookN qk kvs with
        | none => rw [ez] at q2; exact q2.elim
        | some z =>
          rw [ez] at q2
          obtain ⟨e1, e2, ds, rfl⟩ := nkT_of ek
          obtain ⟨G, ow, ι, x⟩ := r2
          obtain ⟨a, es, rfl, h1, h2⟩ := x.dn x.pop.top ed
          have ak : At X.K G u (.tuple ds) := x.top
          obtain ⟨p, vs, rfl, hsq, al⟩ := id ak
          obtain ⟨w, lw, aw⟩ := (h2.look (q := qk)).1 z ez
          exact ⟨a, p, es, qk, w, rfl, rfl, narg x.sub h1 h2 e1 e2 ak, lw, q2 w H2 ⟨G, ow, ι, (x.pop.pop).push (t := .d z) aw⟩⟩
  | _ => exact q2.elim
def mStoreN (fo fi : Sm T) : T → Sm Unit := fun t => bnd (mFrz t) fun y => bnd fo fun o => bnd fi fun i => fun δ M =>
  match y, conOf o δ M, i with
  | .d y, some (.dcn kvs), .d x => (match nkT x with
    | some q => if kvs.length < 16000000 then .ok () (putE o (.dcn (putN q x y kvs)) δ) (putM o (.dcn (putN q x y kvs)) M) else .bad
    | Option.none => .bad)
  | _, _, _ => .bad
theorem qg_storeN {o i : Expr} {fo fi : Sm T} (hr : Room k X.A) (ho : QE X WF o fo) (hi : QE X WF i fi)
    (ha : ∀ v, assign (.Subscript o i pos) X.env v = (do let ov ← holding [v] (eval o X.env); let iv ← holding [v, ov] (eval i X.env); standAt pos; holding [v, ov, iv] (setItem ov iv v); release [v, ov, iv] []) := by intro _; rfl) :
    QG X (.Subscript o i pos) (mStoreN fo fi) := by
  refine ⟨fun pins s σ H v u Q I r h => (pg_sub ho hi (set_dcn (by have := hr.units; omega)) ha).run pins s σ H v u Q I r ?_⟩
  obtain ⟨t, δ, τ, fs, M, nt, nb, rp, q⟩ := h
  have q := bnd_post q
  cases ef : mFrz t δ M with
  | ex a b c => rw [ef] at q; exact q.elim
  | bad => rw [ef] at q; exact q.elim
  | ok y δ1 M1 =>
    rw [ef] at q
    have r1 := rp.frz ef
    refine ⟨δ1, (v, y) :: τ, fs, M1, r1, Res.post_mono (bnd_post q) (fun ot δ2 M2 q2 ov H2 r2 => ?_) fun _ _ _ z => z.elim⟩
    refine ⟨δ2, (ov, ot) :: (v, y) :: τ, fs, M2, r2, Res.post_mono (bnd_post q2) (fun it δ3 M3 q3 iv H3 r3 => ?_) fun _ _ _ z => z.elim⟩
    split at q3
    · rename_i y' kvs x' e1
      obtain ⟨G, ow, ι, x⟩ := r3
      obtain ⟨a, ea, ⟨es, ha2, al⟩, go⟩ := x.mod x.pop.top e1
      have ex : At X.K G iv x' := x.top
      have ay : At X.K G v y' := x.pop.pop.top
      cases ej : nkT x' with
      | none => rw [ej] at q3; exact q3.elim
      | some j =>
        rw [ej] at q3
        simp only at q3
        split at q3
        · rename_i hl
          obtain ⟨e2, e3, ds, rfl⟩ := nkT_of ej
          obtain ⟨p, vs, rfl, hsq, al2⟩ := id ex
          have ea' : ov = .ref a := ea
          subst ea'
          exact ⟨a, p, es, j, rfl, rfl, narg x.sub (.inl ha2) al e2 e3 ex, ha2, by rw [al.len]; exact hl, q3 σ _ ⟨G, ow, ι, (go (.dcn (putN j (.tuple ds) y' kvs)) (dcnO a (put3 j p v es)) ⟨put3 j p v es, upd_same, al.put e2 ex ay⟩).pop.pop.pop⟩⟩
        · exact q3.elim
    · exact q3.elim
/-- {} for tuples as keys -/
def mDn0 : Sm T := ret (.con (.dcn []))
theorem pe_dnewN : PE X (.Dict [] [] pos) (fun _ H Q => ∀ p, H p = none → Q (.ref p) (upd H p (dcnO p []))) := ⟨fun pins s σ H Q I h =>
  wpAny_Dict_empty ⟨.ref s.heap.objs.size, _, I.laid (a := s.heap.objs.size) (o := dcnO s.heap.objs.size []) (t' := s.toks) (fun _ _ q => Heap.get?_push_of_some _ q) (Nat.le_refl _) (dcn_empty s.heap I.big), rfl, h _ (I.hok.fresh (Nat.le_refl _))⟩⟩
theorem Rep.newDcn {p : Addr} (h : Rep K H (⟨σ, δ, τ⟩ :: fs) M) (hp : H p = none) : Rep K (upd H p (dcnO p [])) (⟨σ, δ, (.ref p, .con (.dcn [])) :: τ⟩ :: fs) M := by
  obtain ⟨G, ow, ι, x⟩ := h
  exact ⟨_, _, ι, (x.newO (o := dcnO p []) hp (.tmp fs.length τ.length)).push ⟨p, rfl, ownW_same, [], upd_same, rfl⟩⟩
theorem qe_dn0 : QE X W (.Dict [] [] pos) mDn0 := pe_dnewN.imp fun σ H Q ⟨δ, τ, fs, M, r, q⟩ => fun p hp => q _ _ (r.newDcn hp)
@[simp] theorem e_dn0 : mDn0 δ M = .ok (.con (.dcn [])) δ M := rfl
@[simp] theorem e_inN {g : Bool → Bool} {f d : Sm T} : mInN g f d δ M = bnd f (fun x => bnd d fun y => fun δ M => match x, dnOf y δ M with
  | .d k, some kvs => (match nkT k with
    | some q => .ok (.d (.bool (g (lookN q kvs).isSome))) δ M
    | none => .bad)
  | _, _ => .bad) δ M := rfl
@[simp] theorem e_ixN {f d : Sm T} : mIxN d f δ M = bnd d (fun y => bnd f fun x => fun δ M => match x, dnOf y δ M with
  | .d k, some kvs => (match (nkT k).bind fun q => lookN q kvs with
    | some z => .ok (.d z) δ M
    | none => .bad)
  | _, _ => .bad) δ M := rfl
@[simp] theorem e_storeN {fo fi : Sm T} {t : T} : mStoreN fo fi t δ M = bnd (mFrz t) (fun y => bnd fo fun o => bnd fi fun i => fun δ M =>
  match y, conOf o δ M, i with
  | .d y, some (.dcn kvs), .d x => (match nkT x with
    | some q => if kvs.length < 16000000 then .ok () (putE o (.dcn (putN q x y kvs)) δ) (putM o (.dcn (putN q x y kvs)) M) else .bad
    | Option.none => .bad)
  | _, _, _ => .bad) δ M := rfl
@[simp] theorem e_dnC {kvs : List (D × D)} : dnOf (.con (.dcn kvs)) δ M = some kvs := rfl
@[simp] theorem e_dnZ {kvs : List (D × D)} : dnOf (.fz kvs) δ M = some kvs := rfl
@[simp] theorem e_dnR {n : Nat} : dnOf (.ref n) δ M = (match (M[n]?).bind C.real with
    | some (.dcn kvs) => some kvs
    | _ => none) := rfl
@[simp] theorem e_dnB {i : Nat} : dnOf (.bor i) δ M = (match conOf (.bor i) δ M with
    | some (.dcn kvs) => some kvs
    | _ => none) := rfl
end
end DL

end
section
namespace DL
open PySem PySem.Spec PyProof.Rows L2
/-! ### zip of two or three, each a list or a tuple -/
def SqK (K : KF) (t : Bool) (H : Hp) (a : Addr) (xs : List V) : Prop := match t with | true => SqT K H a xs | false => SqL K H a xs
def IsK (t : Bool) (h : Heap) (a : Addr) (its : Array Value) : Prop := match t with | true => h.IsTuple a its | false => h.IsList a its
def IrK (t : Bool) (h : Heap) (it a : Addr) (i : Nat) : Prop := match t with | true => h.IsTupleIter it a i | false => h.IsListIter it a i
def obK (t : Bool) (a : Addr) : Obj := match t with | true => { cls := .type "tuple_iterator", data := .fields #[.ref a, .int 0 0] } | false => { cls := .type "list_iterator", data := .fields #[.ref a, .int 0 0] }
theorem beginsK (t : Bool) (a : Addr) (its : Array Value) : Begins (.ref a) (obK t a) fun h => IsK t h a its := match t with
  | true => begins_tuple a its
  | false => begins_list a its
theorem irK_new {t : Bool} {h : Heap} {it a : Addr} (e : h.get? it = some (obK t a)) : IrK t h it a 0 := match t, e with
  | true, e => ⟨_, e, rfl, rfl⟩
  | false, e => ⟨_, e, rfl, rfl⟩
theorem irK_obj {t : Bool} {h : Heap} {it a : Addr} {i : Nat} (e : IrK t h it a i) : ∃ o, h.get? it = some o ∧ ∀ v, o.data ≠ .cell v := match t, e with
  | true, ⟨o, e, _, d⟩ => ⟨o, e, fun v q => by rw [d] at q; cases q⟩
  | false, ⟨o, e, _, d⟩ => ⟨o, e, fun v q => by rw [d] at q; cases q⟩
theorem irK_at {t : Bool} {h h' : Heap} {it a : Addr} {i : Nat} (e : IrK t h it a i) (k : ∀ o, h.get? it = some o → h'.get? it = some o) : IrK t h' it a i := match t, e with
  | true, ⟨o, e, r⟩ => ⟨o, k o e, r⟩
  | false, ⟨o, e, r⟩ => ⟨o, k o e, r⟩
theorem drawsK {P : Program} {w : World} {A : Around} (hh : A.handled = none) (t : Bool) (it a : Addr) (hne : a ≠ it) (its : Array Value) :
    Draws P w A it [it, a] its.size (fun i v => its[i]? = some v) (fun i h => IrK t h it a i ∧ IsK t h a its) := match t with
  | true => Draws.tuple hh it a hne its
  | false => Draws.list hh it a hne its
theorem drawsZ {P : Program} {w : World} {A : Around} {t : Bool} {h : Heap} {it a : Addr} {i : Nat} {its : Array Value} (hh : A.handled = none) (hne : a ≠ it) (e : IrK t h it a i) (p : IsK t h a its) :
    ∃ (n : Nat) (Q : Nat → Value → Prop) (St : Nat → Heap → Prop), Draws P w A it [it, a] n Q St ∧ i ≤ n ∧ (its.size ≤ i → i = n) ∧ St i h := by
  by_cases hl : its.size ≤ i
  · refine ⟨i, fun _ _ => False, fun k h => k = i ∧ IrK t h it a k ∧ IsK t h a its, ?_, Nat.le_refl _, fun _ => rfl, rfl, e, p⟩
    have hnone : its[i]? = none := by simp; omega
    cases t with
    | true => exact {
        live := fun _ _ st => let ⟨o, ho, _⟩ := st.2.1; ⟨o, ho⟩
        frame := fun _ _ _ st hk => ⟨st.1, st.2.1.at fun o e => hk it (by simp) o e, st.2.2.at fun o e => hk a (by simp) o e⟩
        item := fun k s Q E hi st hQ => absurd st.1 (Nat.ne_of_lt hi)
        done := fun s Q E st hE => wpAny_nextOf_tuple_end hh st.2.1 st.2.2 hnone hE }
    | false => exact {
        live := fun _ _ st => let ⟨o, ho, _⟩ := st.2.1; ⟨o, ho⟩
        frame := fun _ _ _ st hk => ⟨st.1, st.2.1.at fun o e => hk it (by simp) o e, st.2.2.at fun o e => hk a (by simp) o e⟩
        item := fun k s Q E hi st hQ => absurd st.1 (Nat.ne_of_lt hi)
        done := fun s Q E st hE => wpAny_nextOf_list_end hh st.2.1 st.2.2 hnone hE }
  · exact ⟨its.size, _, _, drawsK hh t it a hne its, by omega, fun h => absurd h hl, e, p⟩
theorem sqK_get {X : Cx} {pins : List (Addr × Obj)} {σ : L2.St} {H : Hp} {s : Shared} {t : Bool} {a : Addr} {xs : List V} (I : Inv X pins σ H s) (h : SqK X.K t H a xs) : ∃ its : List Value, Vals xs its ∧ IsK t s.heap a its.toArray ∧ a < s.heap.objs.size := match t, h with
  | true, h => by
    obtain ⟨its, rv, p, _⟩ := I.tuple h
    obtain ⟨o, ho, _⟩ := id p
    exact ⟨its, rv, p, Heap.lt_size ho⟩
  | false, h => by
    obtain ⟨its, rv, p, _⟩ := I.list h
    exact ⟨its, rv, p.isList, p.lt⟩
theorem sqK_inj {X : Cx} {pins : List (Addr × Obj)} {σ : L2.St} {H : Hp} {s : Shared} {t : Bool} {a : Addr} {xs ys : List V} (I : Inv X pins σ H s) (h : SqK X.K t H a xs) (h' : SqK X.K t H a ys) : xs = ys := match t, h, h' with
  | true, h, h' => I.tuple_inj h h'
  | false, h, h' => I.list_inj h h'
/-- the things as they stand at each turn, the items in a new tuple -/
def ItzK2 (K : KF) (t1 t2 : Bool) (a1 a2 : Addr) : It :=
  ⟨fun i H => ∃ (xs1 xs2 : List V) (x1 x2 : V), SqK K t1 H a1 xs1 ∧ SqK K t2 H a2 xs2 ∧ xs1[i]? = some x1 ∧ xs2[i]? = some x2,
    fun i H v H' => ∃ T x1 x2, v = .ref T ∧ H T = none ∧ H' = upd H T (.tup [x1, x2]) ∧ (∀ xs, SqK K t1 H a1 xs → xs[i]? = some x1) ∧ (∀ xs, SqK K t2 H a2 xs → xs[i]? = some x2),
    fun i H => ∃ xs1 xs2 : List V, SqK K t1 H a1 xs1 ∧ SqK K t2 H a2 xs2 ∧ (xs1.length ≤ i ∨ xs2.length ≤ i)⟩
theorem turn_zipK2 {P : Program} {w : World} {K : KF} {elts : List Expr} {kk : Nat} {tpos : Pos} {t1 t2 : Bool} {a1 a2 z TI TO i1 i2 : Addr} (S : ZipSep2 z TI TO i1 i2 [i1, a1] [i2, a2]) (hn1 : a1 ≠ i1) (hn2 : a2 ≠ i2) :
    Turn P w K (.Tuple elts kk tpos) (ItzK2 K t1 t2 a1 a2) [z, TI, TO, i1, i2] z (fun i h => IsZip h z TI TO .none ∧ IsTupOf2 h TI (.ref i1) (.ref i2) ∧ (∃ x1 x2, IsTupOf2 h TO x1 x2) ∧ IrK t1 h i1 a1 i ∧ IrK t2 h i2 a2 i) where
  mem := by simp
  obj := fun i h st c hc => by
    obtain ⟨hz, hTI, ⟨x1, x2, hTO⟩, h1, h2⟩ := st
    have e' : c = z ∨ c = TI ∨ c = TO ∨ c = i1 ∨ c = i2 := by simpa using hc
    rcases e' with q | q | q | q | q
    · rw [q]; exact ⟨_, hz, fun v q => nomatch q⟩
    · rw [q]; exact ⟨_, hTI, fun v q => nomatch q⟩
    · rw [q]; exact ⟨_, hTO, fun v q => nomatch q⟩
    · rw [q]; exact irK_obj h1
    · rw [q]; exact irK_obj h2
  keep := fun i h h' st k => by
    obtain ⟨hz, hTI, ⟨x1, x2, hTO⟩, h1, h2⟩ := st
    exact ⟨k z (by simp) _ hz, k TI (by simp) _ hTI, ⟨x1, x2, k TO (by simp) _ hTO⟩, irK_at h1 fun o q => k i1 (by simp) o q, irK_at h2 fun o q => k i2 (by simp) o q⟩
  item := by
    intro X hP hw hK hc i pins s σ H E I hf st hg
    subst hP hw hK
    obtain ⟨hz, hTI, ⟨y1, y2, hTO⟩, h1, h2⟩ := st
    obtain ⟨xs1, xs2, x1, x2, hq1, hq2, hx1, hx2⟩ := hg
    obtain ⟨its1, rv1, p1, l1⟩ := sqK_get I hq1
    obtain ⟨u1, hu1, ru1⟩ := rv1.get hx1
    have n1 : i < its1.toArray.size := by
      have := (List.getElem?_eq_some_iff.mp hu1).1
      simpa using this
    have D1 := drawsK (P := X.prog) (w := X.w) (A := X.A.in1) (I.ok.hd hc) t1 i1 a1 hn1 its1.toArray
    obtain ⟨its2, rv2, p2, l2⟩ := sqK_get I hq2
    obtain ⟨u2, hu2, ru2⟩ := rv2.get hx2
    have n2 : i < its2.toArray.size := by
      have := (List.getElem?_eq_some_iff.mp hu2).1
      simpa using this
    have D2 := drawsK (P := X.prog) (w := X.w) (A := X.A.in1) (I.ok.hd hc) t2 i2 a2 hn2 its2.toArray
    have hzl : z < s.heap.objs.size := Heap.lt_size hz
    refine wpAny_pyNext_zipD2_item S D1 D2 hz hTI hTO ⟨h1, p1⟩ ⟨h2, p2⟩ n1 n2 fun v1 v2 h' tk hv1 hv2 z' TO' h1' h2' hT hsz hk => ?_
    have ev1 : v1 = u1 := by
      have e : its1[i]? = some v1 := by simpa using hv1
      rw [hu1] at e; cases e; rfl
    subst ev1
    have ev2 : v2 = u2 := by
      have e : its2[i]? = some v2 := by simpa using hv2
      rw [hu2] at e; cases e; rfl
    subst ev2
    refine ⟨_, rfl, wpAny_letOwnedTupleGo_zip (s := { s with heap := h', toks := tk }) z' fun h'' z'' sb => ?_⟩
    have hT2 : h''.get? s.heap.objs.size = some { cls := .type "tuple", data := .seq #[v1, v2] } := (sb.2 _ (Nat.ne_of_gt hzl)).trans hT
    have new : ObjOk X.prog X.w (upd H s.heap.objs.size (.tup [x1, x2])) h'' s.heap.objs.size (.tup [x1, x2]) :=
      ⟨by show 2 ≤ sizeLine; decide, [v1, v2], .cons ru1 ( .cons ru2 (.nil)), ⟨_, hT2, rfl, _, rfl⟩⟩
    have I1 : Inv X pins σ (upd H s.heap.objs.size (.tup [x1, x2])) { s with heap := h'', toks := tk } :=
      I.turnedNew (t' := tk) (ch := [z, TI, TO, i1, i2]) (fun c o hb q => (sb.2 c (fun q' => hb (by simp [q']))).trans (hk c o (fun q' => hb (by simp [q'])) (fun q' => hb (by simp [q'])) (fun q' => hb (by simp [q'])) (fun q' => hb (by simp [q'])) q)) hf (Nat.le_refl _) new
    refine ⟨.ref s.heap.objs.size, _, I1, rfl, ⟨_, x1, x2, rfl, I.hok.fresh (Nat.le_refl _), rfl, fun l hl => by rw [sqK_inj I hl hq1]; exact hx1, fun l hl => by rw [sqK_inj I hl hq2]; exact hx2⟩, ⟨z'', ?_, ⟨v1, v2, ?_⟩, ?_, ?_⟩, fun c hcm => ?_⟩
    · exact (sb.2 _ S.TIz).trans (hk _ _ S.TIz S.TITO S.TIi1 S.TIi2 hTI)
    · exact (sb.2 _ S.TOz).trans TO'
    · exact irK_at h1'.1 fun o q => (sb.2 _ (fun e => S.zi1 e.symm)).trans q
    · exact irK_at h2'.1 fun o q => (sb.2 _ (fun e => S.zi2 e.symm)).trans q
    · have hlt : c < s.heap.objs.size := by
        have e' : c = z ∨ c = TI ∨ c = TO ∨ c = i1 ∨ c = i2 := by simpa using hcm
        rcases e' with q | q | q | q | q
        · rw [q]; exact hzl
        · rw [q]; exact Heap.lt_size hTI
        · rw [q]; exact Heap.lt_size hTO
        · rw [q]; obtain ⟨_, e1, _⟩ := irK_obj h1; exact Heap.lt_size e1
        · rw [q]; obtain ⟨_, e1, _⟩ := irK_obj h2; exact Heap.lt_size e1
      rw [upd_ne (Nat.ne_of_lt hlt)]
      exact (hf c hcm).1
  done := by
    intro X hP hw hK hc i pins s σ H E I hf st hg
    subst hP hw hK
    obtain ⟨hz, hTI, ⟨y1, y2, hTO⟩, h1, h2⟩ := st
    obtain ⟨xs1, xs2, hq1, hq2, hend⟩ := hg
    obtain ⟨its1, rv1, p1, l1⟩ := sqK_get I hq1
    have m1 := rv1.length
    have z1 : its1.toArray.size = xs1.length := by simp; omega
    obtain ⟨k1, P1, St1, D1, le1, eq1, st1⟩ := drawsZ (P := X.prog) (w := X.w) (A := X.A.in1) (I.ok.hd hc) hn1 h1 p1
    obtain ⟨its2, rv2, p2, l2⟩ := sqK_get I hq2
    have m2 := rv2.length
    have z2 : its2.toArray.size = xs2.length := by simp; omega
    obtain ⟨k2, P2, St2, D2, le2, eq2, st2⟩ := drawsZ (P := X.prog) (w := X.w) (A := X.A.in1) (I.ok.hd hc) hn2 h2 p2
    exact wpAny_pyNext_zipD2_end S D1 D2 hz hTI hTO st1 st2 le1 le2 (by omega) fun h' tk hk => ⟨rfl, I.turnedL (t' := tk) (ch := [z, TI, TO, i1, i2]) (fun c o hb q =>
      hk c o (fun q' => hb (by simp [q'])) (fun q' => hb (by simp [q'])) (fun q' => hb (by simp [q'])) (fun q' => hb (by simp [q'])) q) hf⟩
  self := fun A i s Q E st h => wpAny_pyIter_zip st.1 h

def iZipK2 (K : KF) (ta : TA) : TI := fun σ H R => ta σ H fun vs H1 => ∃ (t1 t2 : Bool) (a1 a2 : Addr) (xs1 xs2 : List V), vs = [.ref a1, .ref a2] ∧ SqK K t1 H1 a1 xs1 ∧ SqK K t2 H1 a2 xs2 ∧ R (ItzK2 K t1 t2 a1 a2) H1
theorem pi_zipK2 {X : Cx} {e e2 : Expr} {ta : TA} {p pos tpos : Pos} {elts : List Expr} {kk : Nat} (hg : Gl X "zip") (hm : X.mg "zip" = none) (ha : PA X [e, e2] ta)
    (hs : starEach [e, e2] X.env = (false, eval e X.env) :: starEach [e2] X.env := by rfl) (hpl : (backTo pos (starEach [e2] X.env)).any (·.1) = false := by rfl) :
    PI X (.Tuple elts kk tpos) (.Call (.Name "zip" p) [e, e2] [] pos) (iZipK2 X.K ta) := by
  refine ⟨fun pins s σ H R I h => ?_⟩
  refine Call_ (ld_blt I hg hm PyProof.Rows.boot_zip (PyProof.Rows.callWith_type1 (thn (ha.run pos pins s σ H _ I h) fun us s1 ⟨vs, H1, I1, r1, q1⟩ => ?_) hs hpl))
  obtain ⟨t1, t2, a1, a2, xs1, xs2, ex, hq1, hq2, q⟩ := q1
  subst ex
  obtain _ | ⟨r1, r1⟩ := r1
  obtain _ | ⟨r2, r1⟩ := r1
  cases r1
  cases r1
  cases r2
  have fresh : ∀ c, c ∈ [s1.heap.objs.size + 4, s1.heap.objs.size + 2, s1.heap.objs.size + 3, s1.heap.objs.size, s1.heap.objs.size + 1] → FpOk X pins H1 c := fun c hcm => by
    have hle : s1.heap.objs.size ≤ c := by
      have e' : c = s1.heap.objs.size + 4 ∨ c = s1.heap.objs.size + 2 ∨ c = s1.heap.objs.size + 3 ∨ c = s1.heap.objs.size ∨ c = s1.heap.objs.size + 1 := by simpa using hcm
      rcases e' with z | z | z | z | z <;> rw [z] <;> first | exact Nat.le_refl _ | exact Nat.le_add_right _ _
    exact I1.fpOk hle (I1.hok.fresh hle)
  obtain ⟨its1, rv1, p1, l1⟩ := sqK_get I1 hq1
  obtain ⟨its2, rv2, p2, l2⟩ := sqK_get I1 hq2
  refine zip_begins2 (beginsK t1 a1 its1.toArray) (beginsK t2 a2 its2.toArray) p1 p2 fun h' hz hTI hTO g1 g2 hsz hk => wpAny_pyIter_zip hz ?_
  have I2 : Inv X pins σ H1 { s1 with heap := h' } := I1.kept (t' := s1.toks) hk
  exact ⟨s1.heap.objs.size + 4, [s1.heap.objs.size + 4, s1.heap.objs.size + 2, s1.heap.objs.size + 3, s1.heap.objs.size, s1.heap.objs.size + 1], _, _, H1, rfl, I2, turn_zipK2 (zip_sep2 (fun b hb => by rw [List.mem_singleton.mp hb]; exact l1) (fun b hb => by rw [List.mem_singleton.mp hb]; exact l2)) (Nat.ne_of_lt l1) (Nat.ne_of_lt (Nat.lt_of_lt_of_le l2 (Nat.le_add_right _ _))), ⟨hz, hTI, ⟨_, _, hTO⟩, irK_new g1, irK_new g2⟩, fresh, q⟩
/-- the things as they stand at each turn, the items in a new tuple -/
def ItzK3 (K : KF) (t1 t2 t3 : Bool) (a1 a2 a3 : Addr) : It :=
  ⟨fun i H => ∃ (xs1 xs2 xs3 : List V) (x1 x2 x3 : V), SqK K t1 H a1 xs1 ∧ SqK K t2 H a2 xs2 ∧ SqK K t3 H a3 xs3 ∧ xs1[i]? = some x1 ∧ xs2[i]? = some x2 ∧ xs3[i]? = some x3,
    fun i H v H' => ∃ T x1 x2 x3, v = .ref T ∧ H T = none ∧ H' = upd H T (.tup [x1, x2, x3]) ∧ (∀ xs, SqK K t1 H a1 xs → xs[i]? = some x1) ∧ (∀ xs, SqK K t2 H a2 xs → xs[i]? = some x2) ∧ (∀ xs, SqK K t3 H a3 xs → xs[i]? = some x3),
    fun i H => ∃ xs1 xs2 xs3 : List V, SqK K t1 H a1 xs1 ∧ SqK K t2 H a2 xs2 ∧ SqK K t3 H a3 xs3 ∧ (xs1.length ≤ i ∨ xs2.length ≤ i ∨ xs3.length ≤ i)⟩
theorem turn_zipK3 {P : Program} {w : World} {K : KF} {elts : List Expr} {kk : Nat} {tpos : Pos} {t1 t2 t3 : Bool} {a1 a2 a3 z TI TO i1 i2 i3 : Addr} (S : ZipSep3 z TI TO i1 i2 i3 [i1, a1] [i2, a2] [i3, a3]) (hn1 : a1 ≠ i1) (hn2 : a2 ≠ i2) (hn3 : a3 ≠ i3) :
    Turn P w K (.Tuple elts kk tpos) (ItzK3 K t1 t2 t3 a1 a2 a3) [z, TI, TO, i1, i2, i3] z (fun i h => IsZip h z TI TO .none ∧ IsTupOf3 h TI (.ref i1) (.ref i2) (.ref i3) ∧ (∃ x1 x2 x3, IsTupOf3 h TO x1 x2 x3) ∧ IrK t1 h i1 a1 i ∧ IrK t2 h i2 a2 i ∧ IrK t3 h i3 a3 i) where
  mem := by simp
  obj := fun i h st c hc => by
    obtain ⟨hz, hTI, ⟨x1, x2, x3, hTO⟩, h1, h2, h3⟩ := st
    have e' : c = z ∨ c = TI ∨ c = TO ∨ c = i1 ∨ c = i2 ∨ c = i3 := by simpa using hc
    rcases e' with q | q | q | q | q | q
    · rw [q]; exact ⟨_, hz, fun v q => nomatch q⟩
    · rw [q]; exact ⟨_, hTI, fun v q => nomatch q⟩
    · rw [q]; exact ⟨_, hTO, fun v q => nomatch q⟩
    · rw [q]; exact irK_obj h1
    · rw [q]; exact irK_obj h2
    · rw [q]; exact irK_obj h3
  keep := fun i h h' st k => by
    obtain ⟨hz, hTI, ⟨x1, x2, x3, hTO⟩, h1, h2, h3⟩ := st
    exact ⟨k z (by simp) _ hz, k TI (by simp) _ hTI, ⟨x1, x2, x3, k TO (by simp) _ hTO⟩, irK_at h1 fun o q => k i1 (by simp) o q, irK_at h2 fun o q => k i2 (by simp) o q, irK_at h3 fun o q => k i3 (by simp) o q⟩
  item := by
    intro X hP hw hK hc i pins s σ H E I hf st hg
    subst hP hw hK
    obtain ⟨hz, hTI, ⟨y1, y2, y3, hTO⟩, h1, h2, h3⟩ := st
    obtain ⟨xs1, xs2, xs3, x1, x2, x3, hq1, hq2, hq3, hx1, hx2, hx3⟩ := hg
    obtain ⟨its1, rv1, p1, l1⟩ := sqK_get I hq1
    obtain ⟨u1, hu1, ru1⟩ := rv1.get hx1
    have n1 : i < its1.toArray.size := by
      have := (List.getElem?_eq_some_iff.mp hu1).1
      simpa using this
    have D1 := drawsK (P := X.prog) (w := X.w) (A := X.A.in1) (I.ok.hd hc) t1 i1 a1 hn1 its1.toArray
    obtain ⟨its2, rv2, p2, l2⟩ := sqK_get I hq2
    obtain ⟨u2, hu2, ru2⟩ := rv2.get hx2
    have n2 : i < its2.toArray.size := by
      have := (List.getElem?_eq_some_iff.mp hu2).1
      simpa using this
    have D2 := drawsK (P := X.prog) (w := X.w) (A := X.A.in1) (I.ok.hd hc) t2 i2 a2 hn2 its2.toArray
    obtain ⟨its3, rv3, p3, l3⟩ := sqK_get I hq3
    obtain ⟨u3, hu3, ru3⟩ := rv3.get hx3
    have n3 : i < its3.toArray.size := by
      have := (List.getElem?_eq_some_iff.mp hu3).1
      simpa using this
    have D3 := drawsK (P := X.prog) (w := X.w) (A := X.A.in1) (I.ok.hd hc) t3 i3 a3 hn3 its3.toArray
    have hzl : z < s.heap.objs.size := Heap.lt_size hz
    refine wpAny_pyNext_zipD3_item S D1 D2 D3 hz hTI hTO ⟨h1, p1⟩ ⟨h2, p2⟩ ⟨h3, p3⟩ n1 n2 n3 fun v1 v2 v3 h' tk hv1 hv2 hv3 z' TO' h1' h2' h3' hT hsz hk => ?_
    have ev1 : v1 = u1 := by
      have e : its1[i]? = some v1 := by simpa using hv1
      rw [hu1] at e; cases e; rfl
    subst ev1
    have ev2 : v2 = u2 := by
      have e : its2[i]? = some v2 := by simpa using hv2
      rw [hu2] at e; cases e; rfl
    subst ev2
    have ev3 : v3 = u3 := by
      have e : its3[i]? = some v3 := by simpa using hv3
      rw [hu3] at e; cases e; rfl
    subst ev3
    refine ⟨_, rfl, wpAny_letOwnedTupleGo_zip (s := { s with heap := h', toks := tk }) z' fun h'' z'' sb => ?_⟩
    have hT2 : h''.get? s.heap.objs.size = some { cls := .type "tuple", data := .seq #[v1, v2, v3] } := (sb.2 _ (Nat.ne_of_gt hzl)).trans hT
    have new : ObjOk X.prog X.w (upd H s.heap.objs.size (.tup [x1, x2, x3])) h'' s.heap.objs.size (.tup [x1, x2, x3]) :=
      ⟨by show 3 ≤ sizeLine; decide, [v1, v2, v3], .cons ru1 ( .cons ru2 ( .cons ru3 (.nil))), ⟨_, hT2, rfl, _, rfl⟩⟩
    have I1 : Inv X pins σ (upd H s.heap.objs.size (.tup [x1, x2, x3])) { s with heap := h'', toks := tk } :=
      I.turnedNew (t' := tk) (ch := [z, TI, TO, i1, i2, i3]) (fun c o hb q => (sb.2 c (fun q' => hb (by simp [q']))).trans (hk c o (fun q' => hb (by simp [q'])) (fun q' => hb (by simp [q'])) (fun q' => hb (by simp [q'])) (fun q' => hb (by simp [q'])) (fun q' => hb (by simp [q'])) q)) hf (Nat.le_refl _) new
    refine ⟨.ref s.heap.objs.size, _, I1, rfl, ⟨_, x1, x2, x3, rfl, I.hok.fresh (Nat.le_refl _), rfl, fun l hl => by rw [sqK_inj I hl hq1]; exact hx1, fun l hl => by rw [sqK_inj I hl hq2]; exact hx2, fun l hl => by rw [sqK_inj I hl hq3]; exact hx3⟩, ⟨z'', ?_, ⟨v1, v2, v3, ?_⟩, ?_, ?_, ?_⟩, fun c hcm => ?_⟩
    · exact (sb.2 _ S.TIz).trans (hk _ _ S.TIz S.TITO S.TIi1 S.TIi2 S.TIi3 hTI)
    · exact (sb.2 _ S.TOz).trans TO'
    · exact irK_at h1'.1 fun o q => (sb.2 _ (fun e => S.zi1 e.symm)).trans q
    · exact irK_at h2'.1 fun o q => (sb.2 _ (fun e => S.zi2 e.symm)).trans q
    · exact irK_at h3'.1 fun o q => (sb.2 _ (fun e => S.zi3 e.symm)).trans q
    · have hlt : c < s.heap.objs.size := by
        have e' : c = z ∨ c = TI ∨ c = TO ∨ c = i1 ∨ c = i2 ∨ c = i3 := by simpa using hcm
        rcases e' with q | q | q | q | q | q
        · rw [q]; exact hzl
        · rw [q]; exact Heap.lt_size hTI
        · rw [q]; exact Heap.lt_size hTO
        · rw [q]; obtain ⟨_, e1, _⟩ := irK_obj h1; exact Heap.lt_size e1
        · rw [q]; obtain ⟨_, e1, _⟩ := irK_obj h2; exact Heap.lt_size e1
        · rw [q]; obtain ⟨_, e1, _⟩ := irK_obj h3; exact Heap.lt_size e1
      rw [upd_ne (Nat.ne_of_lt hlt)]
      exact (hf c hcm).1
  done := by
    intro X hP hw hK hc i pins s σ H E I hf st hg
    subst hP hw hK
    obtain ⟨hz, hTI, ⟨y1, y2, y3, hTO⟩, h1, h2, h3⟩ := st
    obtain ⟨xs1, xs2, xs3, hq1, hq2, hq3, hend⟩ := hg
    obtain ⟨its1, rv1, p1, l1⟩ := sqK_get I hq1
    have m1 := rv1.length
    have z1 : its1.toArray.size = xs1.length := by simp; omega
    obtain ⟨k1, P1, St1, D1, le1, eq1, st1⟩ := drawsZ (P := X.prog) (w := X.w) (A := X.A.in1) (I.ok.hd hc) hn1 h1 p1
    obtain ⟨its2, rv2, p2, l2⟩ := sqK_get I hq2
    have m2 := rv2.length
    have z2 : its2.toArray.size = xs2.length := by simp; omega
    obtain ⟨k2, P2, St2, D2, le2, eq2, st2⟩ := drawsZ (P := X.prog) (w := X.w) (A := X.A.in1) (I.ok.hd hc) hn2 h2 p2
    obtain ⟨its3, rv3, p3, l3⟩ := sqK_get I hq3
    have m3 := rv3.length
    have z3 : its3.toArray.size = xs3.length := by simp; omega
    obtain ⟨k3, P3, St3, D3, le3, eq3, st3⟩ := drawsZ (P := X.prog) (w := X.w) (A := X.A.in1) (I.ok.hd hc) hn3 h3 p3
    exact wpAny_pyNext_zipD3_end S D1 D2 D3 hz hTI hTO st1 st2 st3 le1 le2 le3 (by omega) fun h' tk hk => ⟨rfl, I.turnedL (t' := tk) (ch := [z, TI, TO, i1, i2, i3]) (fun c o hb q =>
      hk c o (fun q' => hb (by simp [q'])) (fun q' => hb (by simp [q'])) (fun q' => hb (by simp [q'])) (fun q' => hb (by simp [q'])) (fun q' => hb (by simp [q'])) q) hf⟩
  self := fun A i s Q E st h => wpAny_pyIter_zip st.1 h

def iZipK3 (K : KF) (ta : TA) : TI := fun σ H R => ta σ H fun vs H1 => ∃ (t1 t2 t3 : Bool) (a1 a2 a3 : Addr) (xs1 xs2 xs3 : List V), vs = [.ref a1, .ref a2, .ref a3] ∧ SqK K t1 H1 a1 xs1 ∧ SqK K t2 H1 a2 xs2 ∧ SqK K t3 H1 a3 xs3 ∧ R (ItzK3 K t1 t2 t3 a1 a2 a3) H1
theorem pi_zipK3 {X : Cx} {e e2 e3 : Expr} {ta : TA} {p pos tpos : Pos} {elts : List Expr} {kk : Nat} (hg : Gl X "zip") (hm : X.mg "zip" = none) (ha : PA X [e, e2, e3] ta)
    (hs : starEach [e, e2, e3] X.env = (false, eval e X.env) :: starEach [e2, e3] X.env := by rfl) (hpl : (backTo pos (starEach [e2, e3] X.env)).any (·.1) = false := by rfl) :
    PI X (.Tuple elts kk tpos) (.Call (.Name "zip" p) [e, e2, e3] [] pos) (iZipK3 X.K ta) := by
  refine ⟨fun pins s σ H R I h => ?_⟩
  refine Call_ (ld_blt I hg hm PyProof.Rows.boot_zip (PyProof.Rows.callWith_type1 (thn (ha.run pos pins s σ H _ I h) fun us s1 ⟨vs, H1, I1, r1, q1⟩ => ?_) hs hpl))
  obtain ⟨t1, t2, t3, a1, a2, a3, xs1, xs2, xs3, ex, hq1, hq2, hq3, q⟩ := q1
  subst ex
  obtain _ | ⟨r1, r1⟩ := r1
  obtain _ | ⟨r2, r1⟩ := r1
  obtain _ | ⟨r3, r1⟩ := r1
  cases r1
  cases r1
  cases r2
  cases r3
  have fresh : ∀ c, c ∈ [s1.heap.objs.size + 5, s1.heap.objs.size + 3, s1.heap.objs.size + 4, s1.heap.objs.size, s1.heap.objs.size + 1, s1.heap.objs.size + 2] → FpOk X pins H1 c := fun c hcm => by
    have hle : s1.heap.objs.size ≤ c := by
      have e' : c = s1.heap.objs.size + 5 ∨ c = s1.heap.objs.size + 3 ∨ c = s1.heap.objs.size + 4 ∨ c = s1.heap.objs.size ∨ c = s1.heap.objs.size + 1 ∨ c = s1.heap.objs.size + 2 := by simpa using hcm
      rcases e' with z | z | z | z | z | z <;> rw [z] <;> first | exact Nat.le_refl _ | exact Nat.le_add_right _ _
    exact I1.fpOk hle (I1.hok.fresh hle)
  obtain ⟨its1, rv1, p1, l1⟩ := sqK_get I1 hq1
  obtain ⟨its2, rv2, p2, l2⟩ := sqK_get I1 hq2
  obtain ⟨its3, rv3, p3, l3⟩ := sqK_get I1 hq3
  refine zip_begins3 (beginsK t1 a1 its1.toArray) (beginsK t2 a2 its2.toArray) (beginsK t3 a3 its3.toArray) p1 p2 p3 fun h' hz hTI hTO g1 g2 g3 hsz hk => wpAny_pyIter_zip hz ?_
  have I2 : Inv X pins σ H1 { s1 with heap := h' } := I1.kept (t' := s1.toks) hk
  exact ⟨s1.heap.objs.size + 5, [s1.heap.objs.size + 5, s1.heap.objs.size + 3, s1.heap.objs.size + 4, s1.heap.objs.size, s1.heap.objs.size + 1, s1.heap.objs.size + 2], _, _, H1, rfl, I2, turn_zipK3 (zip_sep3 (fun b hb => by rw [List.mem_singleton.mp hb]; exact l1) (fun b hb => by rw [List.mem_singleton.mp hb]; exact l2) (fun b hb => by rw [List.mem_singleton.mp hb]; exact l3)) (Nat.ne_of_lt l1) (Nat.ne_of_lt (Nat.lt_of_lt_of_le l2 (Nat.le_add_right _ _))) (Nat.ne_of_lt (Nat.lt_of_lt_of_le l3 (Nat.le_add_right _ _))), ⟨hz, hTI, ⟨_, _, _, hTO⟩, irK_new g1, irK_new g2, irK_new g3⟩, fresh, q⟩
variable {X : Cx} {W : WX} {K : KF} {H G : Hp} {ow : Addr → Option Who} {δ : Env} {M : Mem} {pos : Pos} {v : V}
def seqD (t : Bool) (xs : List D) : D := match t with | true => .tuple xs | false => .list xs
@[simp] def sqOf : T → Option (Bool × List D)
  | .d (.list xs) => some (false, xs)
  | .d (.tuple xs) => some (true, xs)
  | _ => none
theorem sqOf_eq {b : T} {t : Bool} {xs : List D} (h : sqOf b = some (t, xs)) : b = .d (seqD t xs) := by
  unfold sqOf at h
  split at h <;> cases h <;> rfl
theorem seqD_ref {G : Hp} {v : V} {t : Bool} {xs : List D} (h : At K G v (seqD t xs)) : ∃ a, v = .ref a := by
  cases t with
  | true => obtain ⟨a, us, e, _⟩ := h; exact ⟨a, e⟩
  | false => obtain ⟨a, us, e, _⟩ := h; exact ⟨a, e⟩
theorem seqD_at {ι : List Addr} {fs : List Fram} {t : Bool} {a : Addr} {xs : List D} (x : RepG K H G ow ι fs M) (h : At K G (.ref a) (seqD t xs)) : ∃ us, SqK K t H a us ∧ AtL K G us xs := by
  cases t with
  | true =>
    obtain ⟨b, us, e, q, al⟩ := h
    cases e
    exact ⟨us, SqT.grow x.sub q, al⟩
  | false =>
    obtain ⟨b, us, e, q, al⟩ := h
    cases e
    exact ⟨us, SqL.of (x.sub _ _ q), al⟩
theorem AtL.m2 {a b : V} {x y : D} (h : At K G a x) (h' : At K G b y) : AtL K G [a, b] [x, y] := ⟨a, [b], rfl, h, b, [], rfl, h', rfl⟩
theorem AtL.m3 {a b c : V} {x y z : D} (h : At K G a x) (h' : At K G b y) (h2 : At K G c z) : AtL K G [a, b, c] [x, y, z] := ⟨a, [b, c], rfl, h, b, [c], rfl, h', c, [], rfl, h2, rfl⟩
def zip3D (xs ys zs : List D) : List D := (xs.zip (ys.zip zs)).map fun p => .tuple [p.1, p.2.1, p.2.2]
theorem zip3D_length (xs ys zs : List D) : (zip3D xs ys zs).length = min xs.length (min ys.length zs.length) := by simp [zip3D]
theorem zip3D_at {xs ys zs : List D} {i : Nat} {d : D} (h : (zip3D xs ys zs)[i]? = some d) : ∃ p q r, xs[i]? = some p ∧ ys[i]? = some q ∧ zs[i]? = some r ∧ d = .tuple [p, q, r] := by
  unfold zip3D at h
  rw [List.getElem?_map] at h
  cases e : (xs.zip (ys.zip zs))[i]? with
  | none => rw [e] at h; cases h
  | some p =>
    rw [e] at h
    cases h
    obtain ⟨a, b⟩ := List.getElem?_zip_eq_some.mp e
    obtain ⟨b, c⟩ := List.getElem?_zip_eq_some.mp b
    exact ⟨_, _, _, a, b, c, rfl⟩
theorem iter_zipK2 {t1 t2 : Bool} {a1 a2 : Addr} {xs1 xs2 : List D} : IterOk K (ItzK2 K t1 t2 a1 a2) (V.non, T.st fun K' G' _ => At K' G' (.ref a1) (seqD t1 xs1) ∧ At K' G' (.ref a2) (seqD t2 xs2)) (zipD xs1 xs2) := by
  refine ⟨rfl, fun i H σ δ τ fs M ⟨G, ow, ι, x⟩ => ?_⟩
  obtain ⟨h1, h2⟩ := (show At K G (.ref a1) (seqD t1 xs1) ∧ At K G (.ref a2) (seqD t2 xs2) from x.top G (Same.refl _))
  obtain ⟨us1, q1, la1⟩ := seqD_at x h1
  have n1 := la1.length
  obtain ⟨us2, q2, la2⟩ := seqD_at x h2
  have n2 := la2.length
  refine ⟨fun hi => ⟨us1, us2, q1, q2, ?_⟩, fun d ed => ?_⟩
  · rw [zipD_length] at hi
    omega
  obtain ⟨p1, p2, e1, e2, rfl⟩ := zipD_at ed
  obtain ⟨v1, ep1, ap1⟩ := la1.get e1
  obtain ⟨v2, ep2, ap2⟩ := la2.get e2
  refine ⟨⟨us1, us2, v1, v2, q1, q2, ep1, ep2⟩, fun z H' yl => ?_⟩
  obtain ⟨A, w1, w2, rfl, hA, rfl, f1, f2⟩ := yl
  have g1 := f1 us1 q1
  rw [ep1] at g1; cases g1
  have g2 := f2 us2 q2
  rw [ep2] at g2; cases g2
  exact Rep.newTup ⟨G, ow, ι, x, AtL.m2 ap1 ap2⟩ hA
def zipK2 : List T → Option (List D)
  | [a1, a2] => (sqOf a1).bind fun (_, xs1) => (sqOf a2).bind fun (_, xs2) => some (zipD xs1 xs2)
  | _ => none
theorem zipK2_eq {ts : List T} {ds : List D} (h : zipK2 ts = some ds) : ∃ t1 xs1 t2 xs2, ts = [.d (seqD t1 xs1), .d (seqD t2 xs2)] ∧ ds = zipD xs1 xs2 := by
  unfold zipK2 at h
  split at h
  · rename_i a1 a2
    obtain ⟨⟨t1, xs1⟩, s1, h⟩ := Option.bind_eq_some_iff.mp h
    obtain ⟨⟨t2, xs2⟩, s2, h⟩ := Option.bind_eq_some_iff.mp h
    cases h
    exact ⟨t1, xs1, t2, xs2, by rw [sqOf_eq s1, sqOf_eq s2], rfl⟩
  · cases h
def mZ2 (fa : Sm (List T)) : Sm (List D) := bnd fa fun ts => opt (zipK2 ts)
theorem qi_zipK2 {p tpos : Pos} {elts : List Expr} {kk : Nat} {fa : Sm (List T)} {e e2 : Expr} (hg : Gl X "zip") (hm : X.mg "zip" = none) (ha : QA X W [e, e2] fa)
    (hs : starEach [e, e2] X.env = (false, eval e X.env) :: starEach [e2] X.env := by rfl) (hpl : (backTo pos (starEach [e2] X.env)).any (·.1) = false := by rfl) : QI X W (.Tuple elts kk tpos) (.Call (.Name "zip" p) [e, e2] [] pos) (mZ2 fa) := by
  refine (pi_zipK2 hg hm ha hs hpl).imp fun σ H R ⟨δ, τ, fs, M, r, q⟩ => ⟨δ, τ, fs, M, r, Res.post_mono (bnd_post q) (fun ts δ1 M1 q1 vs H1 hl r1 => ?_) fun _ _ _ z => z⟩
  obtain ⟨ds, ez, q1⟩ := opt_post q1
  obtain ⟨t1, xs1, t2, xs2, rfl, rfl⟩ := zipK2_eq ez
  match vs, hl, r1 with
  | [v1, v2], _, r1 =>
    obtain ⟨G, ow, ι, x⟩ := r1
    have h1 : At X.K G v1 (seqD t1 xs1) := x.pop.top
    obtain ⟨a1, rfl⟩ := seqD_ref h1
    obtain ⟨us1, q1', la1⟩ := seqD_at x h1
    have h2 : At X.K G v2 (seqD t2 xs2) := x.top
    obtain ⟨a2, rfl⟩ := seqD_ref h2
    obtain ⟨us2, q2', la2⟩ := seqD_at x h2
    exact ⟨t1, t2, a1, a2, us1, us2, rfl, q1', q2', q1 _ H1 _ iter_zipK2 ⟨G, ow, ι, x.pop.pop.push fun G' s => ⟨At.mono s _ _ h1, At.mono s _ _ h2⟩⟩⟩
@[simp] theorem e_Z2 {fa : Sm (List T)} : mZ2 fa δ M = bnd fa (fun ts => opt (zipK2 ts)) δ M := rfl
@[simp] theorem e_zipK2 {t1 t2 : T} : zipK2 [t1, t2] = (sqOf t1).bind fun (_, xs1) => (sqOf t2).bind fun (_, xs2) => some (zipD xs1 xs2) := rfl
theorem iter_zipK3 {t1 t2 t3 : Bool} {a1 a2 a3 : Addr} {xs1 xs2 xs3 : List D} : IterOk K (ItzK3 K t1 t2 t3 a1 a2 a3) (V.non, T.st fun K' G' _ => At K' G' (.ref a1) (seqD t1 xs1) ∧ At K' G' (.ref a2) (seqD t2 xs2) ∧ At K' G' (.ref a3) (seqD t3 xs3)) (zip3D xs1 xs2 xs3) := by
  refine ⟨rfl, fun i H σ δ τ fs M ⟨G, ow, ι, x⟩ => ?_⟩
  obtain ⟨h1, h2, h3⟩ := (show At K G (.ref a1) (seqD t1 xs1) ∧ At K G (.ref a2) (seqD t2 xs2) ∧ At K G (.ref a3) (seqD t3 xs3) from x.top G (Same.refl _))
  obtain ⟨us1, q1, la1⟩ := seqD_at x h1
  have n1 := la1.length
  obtain ⟨us2, q2, la2⟩ := seqD_at x h2
  have n2 := la2.length
  obtain ⟨us3, q3, la3⟩ := seqD_at x h3
  have n3 := la3.length
  refine ⟨fun hi => ⟨us1, us2, us3, q1, q2, q3, ?_⟩, fun d ed => ?_⟩
  · rw [zip3D_length] at hi
    omega
  obtain ⟨p1, p2, p3, e1, e2, e3, rfl⟩ := zip3D_at ed
  obtain ⟨v1, ep1, ap1⟩ := la1.get e1
  obtain ⟨v2, ep2, ap2⟩ := la2.get e2
  obtain ⟨v3, ep3, ap3⟩ := la3.get e3
  refine ⟨⟨us1, us2, us3, v1, v2, v3, q1, q2, q3, ep1, ep2, ep3⟩, fun z H' yl => ?_⟩
  obtain ⟨A, w1, w2, w3, rfl, hA, rfl, f1, f2, f3⟩ := yl
  have g1 := f1 us1 q1
  rw [ep1] at g1; cases g1
  have g2 := f2 us2 q2
  rw [ep2] at g2; cases g2
  have g3 := f3 us3 q3
  rw [ep3] at g3; cases g3
  exact Rep.newTup ⟨G, ow, ι, x, AtL.m3 ap1 ap2 ap3⟩ hA
def zipK3 : List T → Option (List D)
  | [a1, a2, a3] => (sqOf a1).bind fun (_, xs1) => (sqOf a2).bind fun (_, xs2) => (sqOf a3).bind fun (_, xs3) => some (zip3D xs1 xs2 xs3)
  | _ => none
theorem zipK3_eq {ts : List T} {ds : List D} (h : zipK3 ts = some ds) : ∃ t1 xs1 t2 xs2 t3 xs3, ts = [.d (seqD t1 xs1), .d (seqD t2 xs2), .d (seqD t3 xs3)] ∧ ds = zip3D xs1 xs2 xs3 := by
  unfold zipK3 at h
  split at h
  · rename_i a1 a2 a3
    obtain ⟨⟨t1, xs1⟩, s1, h⟩ := Option.bind_eq_some_iff.mp h
    obtain ⟨⟨t2, xs2⟩, s2, h⟩ := Option.bind_eq_some_iff.mp h
    obtain ⟨⟨t3, xs3⟩, s3, h⟩ := Option.bind_eq_some_iff.mp h
    cases h
    exact ⟨t1, xs1, t2, xs2, t3, xs3, by rw [sqOf_eq s1, sqOf_eq s2, sqOf_eq s3], rfl⟩
  · cases h
def mZ3 (fa : Sm (List T)) : Sm (List D) := bnd fa fun ts => opt (zipK3 ts)
theorem qi_zipK3 {p tpos : Pos} {elts : List Expr} {kk : Nat} {fa : Sm (List T)} {e e2 e3 : Expr} (hg : Gl X "zip") (hm : X.mg "zip" = none) (ha : QA X W [e, e2, e3] fa)
    (hs : starEach [e, e2, e3] X.env = (false, eval e X.env) :: starEach [e2, e3] X.env := by rfl) (hpl : (backTo pos (starEach [e2, e3] X.env)).any (·.1) = false := by rfl) : QI X W (.Tuple elts kk tpos) (.Call (.Name "zip" p) [e, e2, e3] [] pos) (mZ3 fa) := by
  refine (pi_zipK3 hg hm ha hs hpl).imp fun σ H R ⟨δ, τ, fs, M, r, q⟩ => ⟨δ, τ, fs, M, r, Res.post_mono (bnd_post q) (fun ts δ1 M1 q1 vs H1 hl r1 => ?_) fun _ _ _ z => z⟩
  obtain ⟨ds, ez, q1⟩ := opt_post q1
  obtain ⟨t1, xs1, t2, xs2, t3, xs3, rfl, rfl⟩ := zipK3_eq ez
  match vs, hl, r1 with
  | [v1, v2, v3], _, r1 =>
    obtain ⟨G, ow, ι, x⟩ := r1
    have h1 : At X.K G v1 (seqD t1 xs1) := x.pop.pop.top
    obtain ⟨a1, rfl⟩ := seqD_ref h1
    obtain ⟨us1, q1', la1⟩ := seqD_at x h1
    have h2 : At X.K G v2 (seqD t2 xs2) := x.pop.top
    obtain ⟨a2, rfl⟩ := seqD_ref h2
    obtain ⟨us2, q2', la2⟩ := seqD_at x h2
    have h3 : At X.K G v3 (seqD t3 xs3) := x.top
    obtain ⟨a3, rfl⟩ := seqD_ref h3
    obtain ⟨us3, q3', la3⟩ := seqD_at x h3
    exact ⟨t1, t2, t3, a1, a2, a3, us1, us2, us3, rfl, q1', q2', q3', q1 _ H1 _ iter_zipK3 ⟨G, ow, ι, x.pop.pop.pop.push fun G' s => ⟨At.mono s _ _ h1, At.mono s _ _ h2, At.mono s _ _ h3⟩⟩⟩
@[simp] theorem e_Z3 {fa : Sm (List T)} : mZ3 fa δ M = bnd fa (fun ts => opt (zipK3 ts)) δ M := rfl
@[simp] theorem e_zipK3 {t1 t2 t3 : T} : zipK3 [t1, t2, t3] = (sqOf t1).bind fun (_, xs1) => (sqOf t2).bind fun (_, xs2) => (sqOf t3).bind fun (_, xs3) => some (zip3D xs1 xs2 xs3) := rfl
end DL

end
section
namespace DL
open PySem PySem.Spec L2
variable {X : Cx}
/-! ### is of bools -/
def fIsBl (a b : D) : Option D := match a, b with
  | .bool p, .bool q => some (.bool (decide (p = q)))
  | _, _ => Option.none
theorem opd_isBl : OpD X (fun x y H Q => ∃ a b, x = .bl a ∧ y = .bl b ∧ Q (.bl (decide (a = b))) H) fIsBl := by
  intro v u H Q a b z ha hb ef k
  match a, b, ef with
  | .bool p, .bool q, ef =>
    cases ef
    exact ⟨p, q, ha, hb, k _ fun _ => rfl⟩
theorem cd_isBl : CD X .Is fIsBl := ⟨_, op_is_bl, opd_isBl⟩
@[simp] theorem e_isBl {p q : Bool} : fIsBl (.bool p) (.bool q) = some (.bool (decide (p = q))) := rfl
end DL

end
section
namespace DL
open PySem PySem.Spec L2

/-! _law_bad_papers (ff11c7): slots 0 _law_blocks, 1 _law_rows, 2 _law_order, 3 _law_xs, 4 _law_zero, 5 _law_one, 6 _law_found -/
def m__law_bad_papers : Sm Fl := (mSeq (mPar2 4 5 (mCons (bnd (mTup (mCons (bnd (mOpT fIx (mName 3) (mD (.int 0))) mFrz) mNil)) mOwn) (mCons (bnd (mTup (mCons (bnd (mOpT fIx (mName 3) (mD (.int 1))) mFrz) mNil)) mOwn) mNil))) (mSeq (mSet 6 (mLst (mCons (bnd (mTup (mCons (bnd (mName 0) mFrz) (mCons (bnd (mOpT fAdd (mOpT fAdd (mSlice (mName 1) (oSome (mD (.int 2))) (oSome (mD (.int 3)))) (mSlice (mName 1) oNone (oSome (mD (.int 2))))) (mSlice (mName 1) (oSome (mD (.int 3))) oNone)) mFrz) mNil))) mFrz) (mCons (bnd (mTup (mCons (bnd (mName 0) mFrz) (mCons (bnd (mSlice (mName 1) oNone (oSome (mNeg (mD (.int 1))))) mFrz) mNil))) mFrz) (mCons (bnd (mTup (mCons (bnd (mName 0) mFrz) (mCons (bnd (mSlice (mName 1) (oSome (mD (.int 1))) oNone) mFrz) mNil))) mFrz) mNil))))) (mSeq (mExpr (mMeth (mName 6) (mCons (bnd (mTup (mCons (bnd (mName 0) mFrz) (mCons (bnd (mOpT fAdd (mSlice (mName 1) oNone (oSome (mD (.int 3)))) (mSlice (mName 1) (oSome (mD (.int 4))) oNone)) mFrz) mNil))) mFrz) mNil) fAppend)) (mSeq (mExpr (mMeth (mName 6) (mCons (bnd (mTup (mCons (bnd (mName 0) mFrz) (mCons (bnd (mOpT fAdd (mSlice (mName 1) oNone (oSome (mD (.int 4)))) (mTup (mCons (bnd (mTup (mCons (bnd (mOpT fIx (mName 2) (mD (.int 0))) mFrz) (mCons (mD (.int 0)) (mCons (mD (.int 3)) mNil)))) mFrz) mNil))) mFrz) mNil))) mFrz) mNil) fAppend)) (mSeq (mExpr (mMeth (mName 6) (mCons (bnd (mTup (mCons (bnd (mName 0) mFrz) (mCons (bnd (mOpT fAdd (mSlice (mName 1) oNone (oSome (mD (.int 4)))) (mTup (mCons (bnd (mTup (mCons (bnd (mOpT fIx (mName 2) (mD (.int 0))) mFrz) (mCons (mD (.int 0)) (mCons (mD (.int 1)) mNil)))) mFrz) mNil))) mFrz) mNil))) mFrz) mNil) fAppend)) (mSeq (mExpr (mMeth (mName 6) (mCons (bnd (mTup (mCons (bnd (mName 0) mFrz) (mCons (bnd (mOpT fAdd (mName 1) (mTup (mCons (bnd (mTup (mCons (bnd (mOpT fIx (mName 2) (mD (.int 1))) mFrz) (mCons (mD (.int 0)) (mCons (mD (.int 2)) mNil)))) mFrz) mNil))) mFrz) mNil))) mFrz) mNil) fAppend)) (mSeq (mExpr (mMeth (mName 6) (mCons (bnd (mTup (mCons (bnd (mTup (mCons (bnd (mOpT fIx (mName 0) (mD (.int 0))) mFrz) (mCons (bnd (mOpT fIx (mName 0) (mD (.int 1))) mFrz) (mCons (bnd (mTup (mCons (bnd (mName 4) mFrz) (mCons (bnd (mName 5) mFrz) (mCons (bnd (mTup (mCons (bnd (mOpT fIx (mName 3) (mD (.int 2))) mFrz) mNil)) mFrz) mNil)))) mFrz) mNil)))) mFrz) (mCons (bnd (mName 1) mFrz) mNil))) mFrz) mNil) fAppend)) (mSeq (mExpr (mMeth (mName 6) (mCons (bnd (mTup (mCons (bnd (mOpT fAdd (mTup (mCons (bnd (mTup (mCons (bnd (mName 4) mFrz) (mCons (bnd (mTup mNil) mFrz) (mCons (bnd (mTup mNil) mFrz) mNil)))) mFrz) mNil)) (mSlice (mName 0) (oSome (mD (.int 1))) oNone)) mFrz) (mCons (bnd (mName 1) mFrz) mNil))) mFrz) mNil) fAppend)) (mSeq (mExpr (mMeth (mName 6) (mCons (bnd (mTup (mCons (bnd (mOpT fAdd (mTup (mCons (bnd (mTup (mCons (bnd (mName 4) mFrz) (mCons (bnd (mName 4) mFrz) (mCons (bnd (mName 5) mFrz) mNil)))) mFrz) mNil)) (mSlice (mName 0) (oSome (mD (.int 1))) oNone)) mFrz) (mCons (bnd (mName 1) mFrz) mNil))) mFrz) mNil) fAppend)) (mSeq (mExpr (mMeth (mName 6) (mCons (bnd (mTup (mCons (bnd (mOpT fAdd (mOpT fAdd (mSlice (mName 0) oNone (oSome (mD (.int 1)))) (mSlice (mName 0) (oSome (mD (.int 2))) oNone)) (mSlice (mName 0) (oSome (mD (.int 1))) (oSome (mD (.int 2))))) mFrz) (mCons (bnd (mName 1) mFrz) mNil))) mFrz) mNil) fAppend)) (mRet (mOpT fAdd (mName 6) (mLst (mCons (bnd (mTup (mCons (bnd (mSlice (mName 0) oNone (oSome (mD (.int 2)))) mFrz) (mCons (bnd (mName 1) mFrz) mNil))) mFrz) (mCons (bnd (mTup (mCons (bnd (mName 1) mFrz) (mCons (bnd (mName 0) mFrz) mNil))) mFrz) (mCons (bnd (mTup (mCons (bnd (mBlt (mBT fList) (mCons (mName 0) mNil)) mFrz) (mCons (bnd (mName 1) mFrz) mNil))) mFrz) (mCons (bnd (mTup (mCons (bnd (mName 0) mFrz) (mCons (bnd (mBlt (mBT fList) (mCons (mName 1) mNil)) mFrz) mNil))) mFrz) mNil)))))))))))))))))
def g__law_bad_papers : Fm := mBody 3 m__law_bad_papers
/-! composed (e15ca8): slots 0 one, 1 other, 2 found, 3 middles, 4 targets, 5 middle, 6 target -/
def e_composed_1 : Sm T := (mName 6)
def e_composed_2 : Sm T := (mD (.bool true))
def i_composed_1 : Sm (List D) := (mSeqIt (mOpT fIx (mName 1) (mName 5)))
def l_composed_1 : Sm Fl := (mExpr (mMethK (mName 4) (mCons (bnd (mDc [6] i_composed_1 (mNm 6) (ret true) e_composed_1 e_composed_2) mFrz) mNil) fUpdate))
def l_composed_2 : Sm Fl := (mSeq (mSet 4 mDct0) (mSeq (mFor (mSeqIt (mName 3)) (mNm 5) l_composed_1) (mExpr (mMeth (mName 2) (mCons (bnd (mBlt (mBT fTuple) (mCons (mBlt (mBT fSortedK) (mCons (mName 4) mNil)) mNil)) mFrz) mNil) fAppend))))
def m_composed : Sm Fl := (mSeq (mSet 2 (mLst mNil)) (mSeq (mFor (mSeqIt (mName 0)) (mNm 3) l_composed_2) (mRet (mBlt (mBT fTuple) (mCons (mName 2) mNil)))))
def g_composed : Fm := mBody 5 m_composed
/-! letter_relation (2514d5): slots 0 judge, 1 letter, 2 rows, 3 entry -/
def e_letter_relation_1 : Sm T := (mName 3)
def i_letter_relation_1 : Sm (List D) := (mSeqIt (mOpT fIx (mName 2) (mName 1)))
def t_letter_relation_1 : Sm Bool := (mTest (mNotNX (mName 3)))
def e_letter_relation_2 : Sm T := (mBlt (mBT fTuple) (mCons (mSortSet (mLc [3] i_letter_relation_1 (mNm 3) t_letter_relation_1 e_letter_relation_1)) mNil))
def i_letter_relation_2 : Sm (List D) := (mSeqIt (mName 0))
def m_letter_relation : Sm Fl := (mRet (mBlt (mBT fTuple) (mCons (mLc [2] i_letter_relation_2 (mNm 2) (ret true) e_letter_relation_2) mNil)))
def g_letter_relation : Fm := mBody 2 m_letter_relation
/-! relation_of (9c013d): slots 0 judge, 1 inputs, 2 found, 3 letter, 4 state -/
def l_relation_of_1 : Sm Fl := (mSet 2 (mCall g_composed (mCons (bnd (mName 2) mFrz) (mCons (bnd (mCall g_letter_relation (mCons (bnd (mName 0) mFrz) (mCons (bnd (mName 3) mFrz) mNil))) mFrz) mNil))))
def e_relation_of_1 : Sm T := (mTup (mCons (bnd (mName 4) mFrz) mNil))
def i_relation_of_1 : Sm (List D) := (mRange1 (mCons (mBlt (mPl fLen) (mCons (mName 0) mNil)) mNil))
def m_relation_of : Sm Fl := (mSeq (mSet 2 (mBlt (mBT fTuple) (mCons (mLc [4] i_relation_of_1 (mNm 4) (ret true) e_relation_of_1) mNil))) (mSeq (mFor (mSeqIt (mName 1)) (mNm 3) l_relation_of_1) (mRet (mName 2))))
def g_relation_of : Fm := mBody 3 m_relation_of
/-! are_rows_kept (57bd53): slots 0 judge, 1 blocks, 2 rows, 3 relations, 4 known, 5 state, 6 number, 7 following, 8 block, 9 target -/
def e_are_rows_kept_1 : Sm T := (mInN id (mTup (mCons (bnd (mName 9) mFrz) (mCons (bnd (mName 7) mFrz) mNil))) (mName 4))
def i_are_rows_kept_1 : Sm (List D) := (mSeqIt (mOpT fIx (mOpT fIx (mName 3) (mName 6)) (mName 5)))
def l_are_rows_kept_1 : Sm Fl := (mSeq (mIf (mNotT (mTest (mBlt (mPl fAll) (mCons (mLc [9] i_are_rows_kept_1 (mNm 9) (ret true) e_are_rows_kept_1) mNil)))) (mRet (mD (.bool false))) (ret .nx)) (mAsg (mD (.bool true)) (mStoreN (mName 4) (mTup (mCons (bnd (mName 5) mFrz) (mCons (bnd (mName 6) mFrz) mNil))))))
def e_are_rows_kept_2 : Sm T := (mCall g_relation_of (mCons (bnd (mName 0) mFrz) (mCons (bnd (mOpT fAdd (mOpT fIx (mName 8) (mD (.int 0))) (mOpT fIx (mName 8) (mD (.int 2)))) mFrz) mNil)))
def i_are_rows_kept_2 : Sm (List D) := (mSeqIt (mName 1))
def m_are_rows_kept : Sm Fl := (mSeq (mPar2 3 4 (mCons (bnd (mLc [8] i_are_rows_kept_2 (mNm 8) (ret true) e_are_rows_kept_2) mOwn) (mCons (bnd mDn0 mOwn) mNil))) (mSeq (mFor (mSeqIt (mName 2)) (mGt 3 (mGc (mNm 5) (mGc (mNm 6) (mGc (mNm 7) mGn)))) l_are_rows_kept_1) (mRet (mD (.bool true)))))
def g_are_rows_kept : Fm := mBody 7 m_are_rows_kept
/-! is_integer (3bf4a8): slots 0 value, 1 least, 2 most -/
def m_is_integer : Sm Fl := (mRet (mAndV (mIsD "int" (mName 0)) (mAndV (mNotV (mIsD "bool" (mName 0))) (mChain fLe fLe (mName 1) (mName 0) (mName 2)))))
def g_is_integer : Fm := mBody 0 m_is_integer
/-! is_row (66d69b): slots 0 judge, 1 count, 2 value -/
def m_is_row : Sm Fl := (mSeq (mIf (mOrT (mNotT (mTest (mIsD "tuple" (mName 2)))) (mOrT (mTest (mOp2 fNe (mBlt (mPl fLen) (mCons (mName 2) mNil)) (mD (.int 3)))) (mNotT (mTest (mCall g_is_integer (mCons (bnd (mOpT fIx (mName 2) (mD (.int 0))) mFrz) (mCons (mD (.int 0)) (mCons (bnd (mOp2 fSub (mBlt (mPl fLen) (mCons (mName 0) mNil)) (mD (.int 1))) mFrz) mNil)))))))) (mRet (mD (.bool false))) (ret .nx)) (mRet (mAndV (mCall g_is_integer (mCons (bnd (mOpT fIx (mName 2) (mD (.int 1))) mFrz) (mCons (mD (.int 0)) (mCons (bnd (mOp2 fSub (mName 1) (mD (.int 1))) mFrz) mNil)))) (mCall g_is_integer (mCons (bnd (mOpT fIx (mName 2) (mD (.int 2))) mFrz) (mCons (mD (.int 0)) (mCons (bnd (mOp2 fSub (mName 1) (mD (.int 1))) mFrz) mNil)))))))
def g_is_row : Fm := mBody 0 m_is_row
/-! is_word (91fd10): slots 0 value, 1 letters, 2 most, 3 letter -/
def e_is_word_1 : Sm T := (mCall g_is_integer (mCons (bnd (mName 3) mFrz) (mCons (mD (.int 0)) (mCons (bnd (mOp2 fSub (mName 1) (mD (.int 1))) mFrz) mNil))))
def i_is_word_1 : Sm (List D) := (mSeqIt (mName 0))
def m_is_word : Sm Fl := (mSeq (mIf (mOrT (mNotT (mTest (mIsD "tuple" (mName 0)))) (mTest (mOp2 fGt (mBlt (mPl fLen) (mCons (mName 0) mNil)) (mName 2)))) (mRet (mD (.bool false))) (ret .nx)) (mRet (mBlt (mPl fAll) (mCons (mLc [3] i_is_word_1 (mNm 3) (ret true) e_is_word_1) mNil))))
def g_is_word : Fm := mBody 1 m_is_word
/-! input_count (af7cb6): slots 0 judge -/
def m_input_count : Sm Fl := (mRet (mBlt (mPl fLen) (mCons (mOpT fIx (mName 0) (mD (.int 0))) mNil)))
def g_input_count : Fm := mBody 0 m_input_count
/-! is_block (1b3b1a): slots 0 judge, 1 value, 2 word -/
def e_is_block_1 : Sm T := (mCall g_is_word (mCons (bnd (mName 2) mFrz) (mCons (bnd (mCall g_input_count (mCons (bnd (mName 0) mFrz) mNil)) mFrz) (mCons (bnd (mD (.int 2000)) mFrz) mNil))))
def i_is_block_1 : Sm (List D) := (mSeqIt (mName 1))
def m_is_block : Sm Fl := (mSeq (mIf (mOrT (mNotT (mTest (mIsD "tuple" (mName 1)))) (mTest (mOp2 fNe (mBlt (mPl fLen) (mCons (mName 1) mNil)) (mD (.int 3))))) (mRet (mD (.bool false))) (ret .nx)) (mSeq (mIf (mOrT (mNotT (mTest (mBlt (mPl fAll) (mCons (mLc [2] i_is_block_1 (mNm 2) (ret true) e_is_block_1) mNil)))) (mTest (mOp2 fEq (mOpT fIx (mName 1) (mD (.int 1))) (mTup mNil)))) (mRet (mD (.bool false))) (ret .nx)) (mRet (mOp2 fEq (mCall g_relation_of (mCons (bnd (mName 0) mFrz) (mCons (bnd (mOpT fIx (mName 1) (mD (.int 0))) mFrz) mNil))) (mCall g_relation_of (mCons (bnd (mName 0) mFrz) (mCons (bnd (mOpT fAdd (mOpT fIx (mName 1) (mD (.int 0))) (mOpT fIx (mName 1) (mD (.int 1)))) mFrz) mNil)))))))
def g_is_block : Fm := mBody 1 m_is_block
/-! shows_certificate (d341bb): slots 0 judge, 1 value, 2 blocks, 3 rows, 4 block, 5 row -/
def e_shows_certificate_1 : Sm T := (mCall g_is_row (mCons (bnd (mName 0) mFrz) (mCons (bnd (mBlt (mPl fLen) (mCons (mName 2) mNil)) mFrz) (mCons (bnd (mName 5) mFrz) mNil))))
def i_shows_certificate_1 : Sm (List D) := (mSeqIt (mName 3))
def e_shows_certificate_2 : Sm T := (mCall g_is_block (mCons (bnd (mName 0) mFrz) (mCons (bnd (mName 4) mFrz) mNil)))
def i_shows_certificate_2 : Sm (List D) := (mSeqIt (mName 2))
def m_shows_certificate : Sm Fl := (mSeq (mIf (mOrT (mNotT (mTest (mIsD "tuple" (mName 1)))) (mTest (mOp2 fNe (mBlt (mPl fLen) (mCons (mName 1) mNil)) (mD (.int 2))))) (mRet (mD (.bool false))) (ret .nx)) (mSeq (mAsg (mName 1) (mGt 2 (mGc (mNm 2) (mGc (mNm 3) mGn)))) (mSeq (mIf (mOrT (mNotT (mTest (mIsD "tuple" (mName 2)))) (mOrT (mTest (mOp2 fEq (mName 2) (mTup mNil))) (mNotT (mTest (mBlt (mPl fAll) (mCons (mLc [4] i_shows_certificate_2 (mNm 4) (ret true) e_shows_certificate_2) mNil)))))) (mRet (mD (.bool false))) (ret .nx)) (mSeq (mIf (mOrT (mNotT (mTest (mIsD "tuple" (mName 3)))) (mOrT (mTest (mOp2 fEq (mName 3) (mTup mNil))) (mNotT (mTest (mBlt (mPl fAll) (mCons (mLc [5] i_shows_certificate_1 (mNm 5) (ret true) e_shows_certificate_1) mNil)))))) (mRet (mD (.bool false))) (ret .nx)) (mRet (mAndV (mOp2 fEq (mOpT fIx (mOpT fIx (mName 3) (mNeg (mD (.int 1)))) (mD (.int 0))) (mD (.int 0))) (mCall g_are_rows_kept (mCons (bnd (mName 0) mFrz) (mCons (bnd (mName 2) mFrz) (mCons (bnd (mName 3) mFrz) mNil))))))))))
def g_shows_certificate : Fm := mBody 4 m_shows_certificate
/-! _law_take (40e1f4): slots 0 _law_pot_here, 1 _law_many, 2 _law_digit, 3 _law_turn, 4 _law_prime, 5 _law_mixed_here -/
def m__law_take : Sm Fl := (mSeq (mIf (mTest (mOp2 fGt (mOpT fIx (mName 0) (mD (.int 0))) (mD (.int 0)))) (mSeq (mSet 2 (mOp2 fMod (mOpT fIx (mName 0) (mD (.int 0))) (mName 1))) (mSeq (mAsg (mOp2 fDiv (mOpT fIx (mName 0) (mD (.int 0))) (mName 1)) (mStore (mName 0) (mD (.int 0)))) (mRet (mName 2)))) (ret .nx)) (mSeq (mAsg (mOpT fAdd (mOpT fIx (mName 0) (mD (.int 2))) (mD (.int 1))) (mStore (mName 0) (mD (.int 2)))) (mSeq (mSet 3 (mOpT fIx (mName 0) (mD (.int 2)))) (mSeq (mSet 4 (mOpT fIx (mLst (mCons (mD (.int 2147483647)) (mCons (mD (.int 2147483629)) (mCons (mD (.int 2147483587)) (mCons (mD (.int 2147483579)) (mCons (mD (.int 2147483563)) (mCons (mD (.int 2147483549)) mNil))))))) (mOp2 fMod (mName 3) (mD (.int 6))))) (mSeq (mSet 5 (mOp2 fMod (mOp2 fPow (mOpT fAdd (mOpT fAdd (mOpT fIx (mName 0) (mD (.int 1))) (mOpT fMul (mOpT fMul (mD (.int 65537)) (mName 3)) (mName 3))) (mOpT fMul (mD (.int 31)) (mName 3))) (mD (.int 3))) (mName 4))) (mRet (mOp2 fMod (mOp2 fDiv (mOp2 fMod (mOpT fMul (mName 5) (mOpT fAdd (mOp2 fMod (mName 5) (mD (.int 10007))) (mOpT fMul (mD (.int 13)) (mName 3)))) (mD (.int 2305843009213693907))) (mD (.int 97))) (mName 1))))))))
def g__law_take : Fm := mBody 4 m__law_take
/-! _law_papers (9a1576): slots 0 _law_pot_here, 1 _law_order, 2 _law_xs, 3 _law_zero, 4 _law_one, 5 _law_two, 6 _law_free, 7 _law_says, 8 _law_other, 9 _law_lengths, 10 _law_blocks, 11 _law_rows, 12 _law_mixed_here, 13 _law_needless, 14 _law_turn -/
def e__law_papers_1 : Sm T := (mOpT fAdd (mD (.int 1)) (mCall g__law_take (mCons (bnd (mName 0) mFrz) (mCons (mD (.int 5)) mNil))))
def i__law_papers_1 : Sm (List D) := (mRange1 (mCons (mD (.int 6)) mNil))
def m__law_papers : Sm Fl := (mSeq (mPar3 3 4 5 (mCons (bnd (mTup (mCons (bnd (mOpT fIx (mName 2) (mD (.int 0))) mFrz) mNil)) mOwn) (mCons (bnd (mTup (mCons (bnd (mOpT fIx (mName 2) (mD (.int 1))) mFrz) mNil)) mOwn) (mCons (bnd (mTup (mCons (bnd (mOpT fIx (mName 2) (mD (.int 2))) mFrz) mNil)) mOwn) mNil)))) (mSeq (mAsg (mName 1) (mGtA 3 (mGc (mNm 6) (mGc (mNm 7) (mGc (mNm 8) mGn))))) (mSeq (mSet 9 (mLc [14] i__law_papers_1 (mNm 14) (ret true) e__law_papers_1)) (mSeq (mSet 10 (mTup (mCons (bnd (mTup (mCons (bnd (mOpT fMul (mName 3) (mOpT fIx (mName 9) (mD (.int 0)))) mFrz) (mCons (bnd (mOpT fMul (mName 3) (mOpT fIx (mName 9) (mD (.int 1)))) mFrz) (mCons (bnd (mTup mNil) mFrz) mNil)))) mFrz) (mCons (bnd (mTup (mCons (bnd (mOpT fMul (mName 3) (mOpT fIx (mName 9) (mD (.int 2)))) mFrz) (mCons (bnd (mOpT fMul (mName 3) (mOpT fIx (mName 9) (mD (.int 3)))) mFrz) (mCons (bnd (mName 4) mFrz) mNil)))) mFrz) mNil)))) (mSeq (mSet 10 (mOpT fAdd (mName 10) (mTup (mCons (bnd (mTup (mCons (bnd (mOpT fMul (mName 3) (mOpT fIx (mName 9) (mD (.int 4)))) mFrz) (mCons (bnd (mOpT fMul (mName 3) (mOpT fIx (mName 9) (mD (.int 5)))) mFrz) (mCons (bnd (mName 5) mFrz) mNil)))) mFrz) mNil)))) (mSeq (mSet 11 (mTup (mCons (bnd (mTup (mCons (bnd (mName 7) mFrz) (mCons (mD (.int 2)) (mCons (mD (.int 0)) mNil)))) mFrz) (mCons (bnd (mTup (mCons (bnd (mName 8) mFrz) (mCons (mD (.int 1)) (mCons (mD (.int 2)) mNil)))) mFrz) (mCons (bnd (mTup (mCons (bnd (mName 7) mFrz) (mCons (mD (.int 0)) (mCons (mD (.int 2)) mNil)))) mFrz) (mCons (bnd (mTup (mCons (bnd (mName 8) mFrz) (mCons (mD (.int 0)) (mCons (mD (.int 1)) mNil)))) mFrz) (mCons (bnd (mTup (mCons (bnd (mName 6) mFrz) (mCons (mD (.int 0)) (mCons (mD (.int 0)) mNil)))) mFrz) mNil))))))) (mSeq (mSet 12 (mTup (mCons (bnd (mOpT fIx (mName 11) (mD (.int 1))) mFrz) (mCons (bnd (mOpT fIx (mName 11) (mD (.int 3))) mFrz) (mCons (bnd (mOpT fIx (mName 11) (mD (.int 0))) mFrz) (mCons (bnd (mOpT fIx (mName 11) (mD (.int 2))) mFrz) (mCons (bnd (mOpT fIx (mName 11) (mD (.int 4))) mFrz) mNil))))))) (mSeq (mSet 13 (mOpT fAdd (mOpT fAdd (mOpT fAdd (mTup (mCons (bnd (mTup (mCons (bnd (mName 8) mFrz) (mCons (mD (.int 1)) (mCons (mD (.int 0)) mNil)))) mFrz) mNil)) (mSlice (mName 11) oNone (oSome (mD (.int 4))))) (mTup (mCons (bnd (mOpT fIx (mName 11) (mD (.int 2))) mFrz) mNil))) (mSlice (mName 11) (oSome (mD (.int 4))) oNone))) (mRet (mTup (mCons (bnd (mName 10) mFrz) (mCons (bnd (mLst (mCons (bnd (mName 11) mFrz) (mCons (bnd (mName 12) mFrz) (mCons (bnd (mName 13) mFrz) (mCons (bnd (mOpT fAdd (mName 11) (mTup (mCons (bnd (mTup (mCons (bnd (mName 6) mFrz) (mCons (mD (.int 0)) (mCons (mD (.int 0)) mNil)))) mFrz) mNil))) mFrz) mNil))))) mFrz) mNil))))))))))))
def g__law_papers : Fm := mBody 12 m__law_papers
/-! _law_turned (808158): slots 0 _law_judge, 1 _law_order, 2 _law_xs, 3 _law_ys, 4 _law_found, 5 _law_state, 6 _law_rows, 7 _law_x, 8 _law_row, 9 _law_y, 10 _law_entry -/
def e__law_turned_1 : Sm T := (mBlt (mBT fTuple) (mCons (mName 8) mNil))
def i__law_turned_1 : Sm (List D) := (mSeqIt (mName 6))
def e__law_turned_2 : Sm T := (mBlt (mBT fTuple) (mCons (mLc [8] i__law_turned_1 (mNm 8) (ret true) e__law_turned_1) mNil))
def i__law_turned_2 : Sm (List D) := (mSeqIt (mName 4))
def l__law_turned_1 : Sm Fl := (mAsg (mIf (mTest (mIsNX (mName 10))) (mD .none) (mOpT fIx (mName 1) (mName 10))) (mStD 4 [(pIx 1 5), (pIx 2 7), (pIx 3 9)]))
def l__law_turned_2 : Sm Fl := (mFor (mEnum (mCons (bnd (mName 8) mFrz) mNil)) (mGt 2 (mGc (mNm 9) (mGc (mNm 10) mGn))) l__law_turned_1)
def l__law_turned_3 : Sm Fl := (mFor (mEnum (mCons (bnd (mName 6) mFrz) mNil)) (mGt 2 (mGc (mNm 7) (mGc (mNm 8) mGn))) l__law_turned_2)
def e__law_turned_3 : Sm T := (mD .none)
def i__law_turned_3 : Sm (List D) := (mSeqIt (mName 3))
def e__law_turned_4 : Sm T := (mLc [9] i__law_turned_3 (mNm 9) (ret true) e__law_turned_3)
def i__law_turned_4 : Sm (List D) := (mSeqIt (mName 2))
def e__law_turned_5 : Sm T := (mLcD [7] i__law_turned_4 (mNm 7) e__law_turned_4)
def i__law_turned_5 : Sm (List D) := (mSeqIt (mName 1))
def m__law_turned : Sm Fl := (mSeq (mSet 4 (mLcD [5] i__law_turned_5 (mNm 5) e__law_turned_5)) (mSeq (mFor (mEnum (mCons (bnd (mName 0) mFrz) mNil)) (mGt 2 (mGc (mNm 5) (mGc (mNm 6) mGn))) l__law_turned_3) (mRet (mBlt (mBT fTuple) (mCons (mLc [6] i__law_turned_2 (mNm 6) (ret true) e__law_turned_2) mNil)))))
def g__law_turned : Fm := mBody 7 m__law_turned
/-! _law_endless (8c5b27): slots 0 _law_start -/
def m__law_endless : Sm Fl := (mSeq (mSet 0 (mTup (mCons (bnd (mTup (mCons (mD (.int 1)) (mCons (mD (.int 2)) mNil))) mFrz) (mCons (bnd (mTup (mCons (mD (.int 0)) (mCons (mD .none) mNil))) mFrz) (mCons (bnd (mTup (mCons (mD .none) (mCons (mD (.int 0)) mNil))) mFrz) mNil))))) (mRet (mTup (mCons (bnd (mName 0) mFrz) (mCons (bnd (mTup (mCons (bnd (mTup (mCons (mD (.int 1)) (mCons (mD (.int 1)) mNil))) mFrz) (mCons (bnd (mTup (mCons (mD (.int 0)) (mCons (mD (.int 0)) mNil))) mFrz) (mCons (bnd (mTup (mCons (mD .none) (mCons (mD .none) mNil))) mFrz) mNil)))) mFrz) (mCons (bnd (mTup (mCons (bnd (mTup (mCons (mD (.int 2)) (mCons (mD (.int 2)) mNil))) mFrz) (mCons (bnd (mTup (mCons (mD .none) (mCons (mD .none) mNil))) mFrz) (mCons (bnd (mTup (mCons (mD (.int 0)) (mCons (mD (.int 0)) mNil))) mFrz) mNil)))) mFrz) mNil))))))
def g__law_endless : Fm := mBody 1 m__law_endless
/-! _law_mixed (d9cc13): slots 0 _law_pot_here, 1 _law_some, 2 _law_left, 3 _law_found -/
def l__law_mixed_1 : Sm Fl := (mExpr (mMeth (mName 3) (mCons (bnd (mMeth (mName 2) (mCons (bnd (mCall g__law_take (mCons (bnd (mName 0) mFrz) (mCons (bnd (mBlt (mPl fLen) (mCons (mName 2) mNil)) mFrz) mNil))) mFrz) mNil) fPopAt) mFrz) mNil) fAppend))
def c__law_mixed_1 : Sm Bool := (mTest (mOp2 fNe (mName 2) (mLst mNil)))
def m__law_mixed : Sm Fl := (mSeq (mPar2 2 3 (mCons (bnd (mBlt (mBT fList) (mCons (mName 1) mNil)) mOwn) (mCons (bnd (mLst mNil) mOwn) mNil))) (mSeq (mWhile 1000000 c__law_mixed_1 l__law_mixed_1) (mRet (mName 3))))
def g__law_mixed : Fm := mBody 2 m__law_mixed
/-! _law_many_rows_right (334fed): slots 0 _law_pot_here, 1 _law_plant, 2 _law_many, 3 _law_blocks, 4 _law_rows, 5 _law_told -/
def m__law_many_rows_right : Sm Fl := (mSeq (mPar2 1 2 (mCons (bnd (mTup (mCons (bnd (mTup (mCons (bnd (mTup (mCons (mD .none) mNil)) mFrz) (mCons (bnd (mTup (mCons (mD (.int 0)) mNil)) mFrz) mNil))) mFrz) mNil)) mOwn) (mCons (bnd (mOpT fAdd (mD (.int 400)) (mCall g__law_take (mCons (bnd (mName 0) mFrz) (mCons (mD (.int 400)) mNil)))) mOwn) mNil))) (mSeq (mPar2 3 4 (mCons (bnd (mTup (mCons (bnd (mTup (mCons (bnd (mTup (mCons (mD (.int 0)) mNil)) mFrz) (mCons (bnd (mTup (mCons (mD (.int 0)) mNil)) mFrz) (mCons (bnd (mTup mNil) mFrz) mNil)))) mFrz) (mCons (bnd (mTup (mCons (bnd (mTup (mCons (mD (.int 1)) mNil)) mFrz) (mCons (bnd (mTup (mCons (mD (.int 1)) mNil)) mFrz) (mCons (bnd (mTup mNil) mFrz) mNil)))) mFrz) mNil))) mOwn) (mCons (bnd (mOpT fMul (mTup (mCons (bnd (mTup (mCons (mD (.int 0)) (mCons (mD (.int 0)) (mCons (mD (.int 0)) mNil)))) mFrz) mNil)) (mName 2)) mOwn) mNil))) (mSeq (mSet 5 (mLst (mCons (bnd (mCall g_shows_certificate (mCons (bnd (mName 1) mFrz) (mCons (bnd (mTup (mCons (bnd (mName 3) mFrz) (mCons (bnd (mOpT fAdd (mName 4) (mTup (mCons (bnd (mTup (mCons (mD (.int 0)) (mCons (mD (.int 1)) (mCons (mD (.int 0)) mNil)))) mFrz) mNil))) mFrz) mNil))) mFrz) mNil))) mFrz) (mCons (bnd (mCall g_shows_certificate (mCons (bnd (mName 1) mFrz) (mCons (bnd (mTup (mCons (bnd (mName 3) mFrz) (mCons (bnd (mName 4) mFrz) mNil))) mFrz) mNil))) mFrz) mNil)))) (mRet (mAndV (mOp2 fEq (mName 5) (mLst (mCons (mD (.bool true)) (mCons (mD (.bool true)) mNil)))) (mOp2 fIsBl (mCall g_shows_certificate (mCons (bnd (mName 1) mFrz) (mCons (bnd (mTup (mCons (bnd (mName 3) mFrz) (mCons (bnd (mOpT fAdd (mOpT fAdd (mName 4) (mTup (mCons (bnd (mTup (mCons (mD (.int 0)) (mCons (mD (.int 1)) (mCons (mD (.int 1)) mNil)))) mFrz) mNil))) (mName 4)) mFrz) mNil))) mFrz) mNil))) (mD (.bool false))))))))
def g__law_many_rows_right : Fm := mBody 5 m__law_many_rows_right
/-! _law_pot (9ed787): slots 0 _law_script, 1 _law_k, 2 _law_cell, 3 _law_own -/
def m__law_pot : Sm Fl := (mSeq (mSet 2 (mIf (mTest (mOp2 fLt (mName 1) (mBlt mScrLen (mCons (mName 0) mNil)))) (mScrIx (mName 0) (mName 1)) (mOpT fAdd (mOpT fMul (mD (.int 5)) (mName 1)) (mD (.int 2))))) (mSeq (mSet 3 (mOpT fMul (mOp2 fMod (mBlt (mPl fAbs) (mCons (mName 2) mNil)) (mBlt (mPl fInt) (mCons (mOpT fAdd (mD (.str "1")) (mOpT fMul (mD (.str "0")) (mD (.int 300)))) mNil))) (mBlt (mPl fInt) (mCons (mOp2 fGe (mBlt (mPl fAbs) (mCons (mName 2) mNil)) (mOp2 fPow (mD (.int 10)) (mD (.int 18)))) mNil)))) (mRet (mLst (mCons (bnd (mName 3) mFrz) (mCons (bnd (mOp2 fMod (mOpT fMul (mOpT fAdd (mOpT fAdd (mOp2 fMod (mName 2) (mD (.int 2305843009213693951))) (mOpT fMul (mOpT fMul (mD (.int 7919)) (mName 1)) (mName 1))) (mD (.int 17))) (mD (.int 48271))) (mD (.int 2305843009213693951))) mFrz) (mCons (mD (.int 0)) mNil)))))))
def g__law_pot : Fm := mBody 2 m__law_pot
/-! law (cdf7e6): slots 0 _law_script, 1 _law_pot_here, 2 _law_turn, 3 _law_order, 4 _law_xs, 5 _law_ys, 6 _law_plant, 7 _law_blocks, 8 _law_good, 9 _law_rows, 10 _law_bad -/
def e_law_1 : Sm T := (mOp2 fIsBl (mCall g_shows_certificate (mCons (bnd (mName 6) mFrz) (mCons (bnd (mName 10) mFrz) mNil))) (mD (.bool false)))
def i_law_1 : Sm (List D) := (mSeqIt (mCall g__law_bad_papers (mCons (bnd (mName 7) mFrz) (mCons (bnd (mOpT fIx (mName 8) (mD (.int 0))) mFrz) (mCons (bnd (mName 3) mFrz) (mCons (bnd (mName 4) mFrz) mNil))))))
def e_law_2 : Sm T := (mOp2 fIsBl (mCall g_shows_certificate (mCons (bnd (mName 6) mFrz) (mCons (bnd (mTup (mCons (bnd (mName 7) mFrz) (mCons (bnd (mName 9) mFrz) mNil))) mFrz) mNil))) (mD (.bool true)))
def i_law_2 : Sm (List D) := (mSeqIt (mName 8))
def l_law_1 : Sm Fl := (mSeq (mPar3 3 4 5 (mCons (bnd (mOpT fAdd (mLst (mCons (mD (.int 0)) mNil)) (mCall g__law_mixed (mCons (bnd (mName 1) mFrz) (mCons (bnd (mLst (mCons (mD (.int 1)) (mCons (mD (.int 2)) mNil))) mFrz) mNil)))) mOwn) (mCons (bnd (mCall g__law_mixed (mCons (bnd (mName 1) mFrz) (mCons (bnd (mLst (mCons (mD (.int 0)) (mCons (mD (.int 1)) (mCons (mD (.int 2)) mNil)))) mFrz) mNil))) mOwn) (mCons (bnd (mCall g__law_mixed (mCons (bnd (mName 1) mFrz) (mCons (bnd (mLst (mCons (mD (.int 0)) (mCons (mD (.int 1)) mNil))) mFrz) mNil))) mOwn) mNil)))) (mSeq (mSet 6 (mCall g__law_turned (mCons (bnd (mCall g__law_endless mNil) mFrz) (mCons (bnd (mName 3) mFrz) (mCons (bnd (mName 4) mFrz) (mCons (bnd (mName 5) mFrz) mNil)))))) (mSeq (mAsg (mCall g__law_papers (mCons (bnd (mName 1) mFrz) (mCons (bnd (mName 3) mFrz) (mCons (bnd (mName 4) mFrz) mNil)))) (mGt 2 (mGc (mNm 7) (mGc (mNm 8) mGn)))) (mSeq (mIf (mNotT (mTest (mBlt (mPl fAll) (mCons (mLc [9] i_law_2 (mNm 9) (ret true) e_law_2) mNil)))) (mRet (mD (.bool false))) (ret .nx)) (mIf (mNotT (mTest (mBlt (mPl fAll) (mCons (mLc [10] i_law_1 (mNm 10) (ret true) e_law_1) mNil)))) (mRet (mD (.bool false))) (ret .nx))))))
def m_law : Sm Fl := (mSeq (mSetC 1 (mCall g__law_pot (mCons (bnd (mName 0) mFrz) (mCons (mD (.int 0)) mNil)))) (mSeq (mIf (mNotT (mTest (mCall g__law_many_rows_right (mCons (bnd (mName 1) mFrz) mNil)))) (mRet (mD (.bool false))) (ret .nx)) (mSeq (mFor (mRange1 (mCons (mD (.int 4)) mNil)) (mNm 2) l_law_1) (mRet (mD (.bool true))))))
def g_law : Fm := mBody 10 m_law
def nms : List PySem.Str := []
def TABS : Mem := nms.map C.tab
end DL

end
section
namespace DL
open PySem PySem.Spec L2
variable {δ : DL.Env} {M : Mem}
/-- cells that stay as they are -/
class Rest where
  R : Mem
section
variable [rest : Rest]
/-! ### judges -/
def encE : Option Nat → D
  | none => .none
  | some i => .int (i : Nat)
def encR (r : List (Option Nat)) : D := .tuple (r.map encE)
def encS (s : List (List (Option Nat))) : D := .tuple (s.map encR)
abbrev Jt := List (List (List (Option Nat)))
def encJ (j : Jt) : D := .tuple (j.map encS)
structure WfJ (N X Y : Nat) (j : Jt) : Prop where
  len : j.length = N
  n0 : 0 < N
  n8 : N ≤ 8
  x0 : 0 < X
  x4 : X ≤ 4
  y0 : 0 < Y
  y4 : Y ≤ 4
  rows : ∀ s ∈ j, s.length = X ∧ ∀ r ∈ s, r.length = Y ∧ ∀ i, some i ∈ r → i < N
def wfB (N X Y : Nat) (j : Jt) : Bool := decide (j.length = N) && decide (0 < N) && decide (N ≤ 8) && decide (0 < X) && decide (X ≤ 4) && decide (0 < Y) && decide (Y ≤ 4) && j.all fun s => decide (s.length = X) && s.all fun r => decide (r.length = Y) && r.all fun e => match e with
  | none => true
  | some i => decide (i < N)
theorem wf_of {N X Y : Nat} {j : Jt} (h : wfB N X Y j = true) : WfJ N X Y j := by
  unfold wfB at h
  simp only [Bool.and_eq_true, decide_eq_true_eq, List.all_eq_true] at h
  obtain ⟨⟨⟨⟨⟨⟨⟨h1, h2⟩, h3⟩, h4⟩, h5⟩, h6⟩, h7⟩, h8⟩ := h
  refine ⟨h1, h2, h3, h4, h5, h6, h7, fun s hs => ⟨(h8 s hs).1, fun r hr => ⟨((h8 s hs).2 r hr).1, fun i hi => ?_⟩⟩⟩
  have := ((h8 s hs).2 r hr).2 (some i) hi
  simpa using this
theorem len_J {j : Jt} : fLen [encJ j] = some (.int (j.length : Nat)) := by simp [fLen, encJ]
theorem len_S {s : List (List (Option Nat))} : fLen [encS s] = some (.int (s.length : Nat)) := by simp [fLen, encS]
theorem len_R {r : List (Option Nat)} : fLen [encR r] = some (.int (r.length : Nat)) := by simp [fLen, encR]
theorem atI_mapN {α β : Type} {f : α → β} {xs : List α} {i : Nat} {a : α} (h : xs[i]? = some a) : atI (xs.map f) (i : Int) = some (f a) := by
  have hl := (List.getElem?_eq_some_iff.mp h).1
  unfold atI ixN
  rw [if_pos (by omega), if_pos (by simp; omega)]
  simp [h]
theorem ix_J {j : Jt} {i : Nat} {s : List (List (Option Nat))} (h : j[i]? = some s) : fIx (encJ j) (.int (i : Int)) = some (.d (encS s)) := by simp [fIx, encJ, atI_mapN h]
theorem ix_S {s : List (List (Option Nat))} {i : Nat} {r : List (Option Nat)} (h : s[i]? = some r) : fIx (encS s) (.int (i : Int)) = some (.d (encR r)) := by simp [fIx, encS, atI_mapN h]
theorem ix_R {r : List (Option Nat)} {i : Nat} {e : Option Nat} (h : r[i]? = some e) : fIx (encR r) (.int (i : Int)) = some (.d (encE e)) := by simp [fIx, encR, atI_mapN h]
theorem ix_J0 {j : Jt} {s : List (List (Option Nat))} (h : j[0]? = some s) : fIx (encJ j) (.int 0) = some (.d (encS s)) := ix_J (i := 0) h
theorem ix_S0 {s : List (List (Option Nat))} {r : List (Option Nat)} (h : s[0]? = some r) : fIx (encS s) (.int 0) = some (.d (encR r)) := ix_S (i := 0) h
def inIx (n : Int) : D → Bool
  | .int i => decide (0 ≤ i) && decide (i < n)
  | _ => false
theorem inIx_true {n : Nat} {v : D} (h : inIx n v = true) : ∃ i : Nat, v = .int (i : Int) ∧ i < n := by
  cases v with
  | int i =>
    simp only [inIx, Bool.and_eq_true, decide_eq_true_eq] at h
    exact ⟨i.toNat, by congr 1; omega, by omega⟩
  | _ => cases h
theorem WfJ.cons {N X Y : Nat} {j : Jt} (h : WfJ N X Y j) : ∃ s r, (∃ j', j = s :: j') ∧ (∃ s', s = r :: s') ∧ s.length = X ∧ r.length = Y := by
  cases j with
  | nil => have := h.len; have := h.n0; simp at *; omega
  | cons s j' =>
    obtain ⟨hs, hr⟩ := h.rows s List.mem_cons_self
    cases s with
    | nil => have := h.x0; simp at hs; omega
    | cons r s' => exact ⟨r :: s', r, ⟨j', rfl⟩, ⟨s', rfl⟩, hs, (hr r List.mem_cons_self).1⟩
def j00 : Jt → List (List (Option Nat))
  | s :: _ => s
  | [] => []
def s00 : List (List (Option Nat)) → List (Option Nat)
  | r :: _ => r
  | [] => []
theorem WfJ.first {N X Y : Nat} {j : Jt} (w : WfJ N X Y j) : fIx (encJ j) (.int 0) = some (.d (encS (j00 j))) ∧ fIx (encS (j00 j)) (.int 0) = some (.d (encR (s00 (j00 j)))) ∧ fLen [encS (j00 j)] = some (.int (X : Nat)) ∧ fLen [encR (s00 (j00 j))] = some (.int (Y : Nat)) := by
  obtain ⟨s, r, ⟨j1, rfl⟩, ⟨s1, rfl⟩, hsl, hrl⟩ := w.cons
  exact ⟨ix_J0 rfl, ix_S0 rfl, by rw [len_S]; exact congrArg (fun n : Nat => some (PyData.int n)) hsl, by rw [len_R]; exact congrArg (fun n : Nat => some (PyData.int n)) hrl⟩
/-- what stands at a place -/
def entD (j : Jt) (st x y : D) : D := match st, x, y with
  | .int a, .int b, .int c => encE ((((j[a.toNat]?.getD [])[b.toNat]?.getD [])[c.toNat]?).getD none)
  | _, _, _ => .none
def dueD (N X Y : Nat) (j : Jt) (st x y : D) : D :=
  if inIx N st = true then if inIx X x = true then if inIx Y y = true then .tuple [.str "entry", entD j st x y] else .tuple [.str "output", y] else .tuple [.str "input", x] else .tuple [.str "state", st]
theorem WfJ.at {N X Y : Nat} {j : Jt} {st x y : D} (w : WfJ N X Y j) (h1 : inIx N st = true) (h2 : inIx X x = true) (h3 : inIx Y y = true) :
    ∃ (s : List (List (Option Nat))) (r : List (Option Nat)) (e : Option Nat), fIx (encJ j) st = some (.d (encS s)) ∧ fIx (encS s) x = some (.d (encR r)) ∧ fIx (encR r) y = some (.d (encE e)) ∧ encE e = entD j st x y ∧ ∀ i, e = some i → i < N := by
  obtain ⟨a, rfl, ha⟩ := inIx_true h1
  obtain ⟨b, rfl, hb⟩ := inIx_true h2
  obtain ⟨c, rfl, hc⟩ := inIx_true h3
  have e1 : j[a]? = some (j[a]'(by rw [w.len]; exact ha)) := List.getElem?_eq_getElem _
  obtain ⟨hs, hr⟩ := w.rows _ (List.getElem_mem (by rw [w.len]; exact ha))
  have e2 := List.getElem?_eq_getElem (l := j[a]'(by rw [w.len]; exact ha)) (i := b) (by rw [hs]; exact hb)
  obtain ⟨hl, hi⟩ := hr _ (List.getElem_mem (by rw [hs]; exact hb))
  have e3 := List.getElem?_eq_getElem (i := c) (by rw [hl]; exact hc)
  refine ⟨_, _, _, ix_J e1, ix_S e2, ix_R e3, ?_, fun i h => hi i (h ▸ List.getElem_mem _)⟩
  unfold entD
  simp only [Int.toNat_natCast, e1, Option.getD_some, e2, e3]
theorem for_ok {g : Sm (List D)} {tg : T → Sm Unit} {b : Sm Fl} {δ δ1 : DL.Env} {M M1 : Mem} {ds : List D} {r : Res Fl} (hg : g δ M = .ok ds δ1 M1) (h : forF tg b ds δ1 M1 = r) : mFor g tg b δ M = r := (bnd_ok hg).trans h
theorem rng8 (k : Nat) (hk : k ≤ 100000) : small62 (k : Int) = true := small62_iff.mpr ⟨by omega, by omega⟩
theorem lcF_enc {α : Type} {enc : α → D} {f : α → D} {vs : List Nat} {tg : T → Sm Unit} {te : Sm T} {δ0 : DL.Env} {M : Mem} :
    ∀ (as : List α) (acc : List D), (∀ a ∈ as, ∃ δ1 δ2, tg (.d (enc a)) δ0 M = .ok () δ1 M ∧ (bnd te mFrz) δ1 M = .ok (.d (f a)) δ2 M ∧ wipeE δ2 vs = δ0) → lcF vs tg (ret true) te (as.map enc) acc δ0 M = .ok (acc ++ as.map f) δ0 M
  | [], acc, _ => by simp [lcF]
  | a :: as, acc, h => by
    obtain ⟨δ1, δ2, e1, e2, e3⟩ := h a List.mem_cons_self
    have e4 := lcF_enc as (acc ++ [f a]) fun x hx => h x (List.mem_cons_of_mem _ hx)
    rw [List.map_cons]
    unfold lcF
    simp only [e1]
    unfold bnd at e2
    cases ete : te δ1 M with
    | ok b δ3 M3 =>
      simp only [ete] at e2
      simp only [bnd, ret, if_pos, ete, e2, e3, e4, List.append_assoc, List.singleton_append, List.map_cons]
    | ex a b c => simp only [ete] at e2; cases e2
    | bad => simp only [ete] at e2; cases e2
theorem mLc_enc {α : Type} {enc : α → D} {f : α → D} {vs : List Nat} {g : Sm (List D)} {tg : T → Sm Unit} {te : Sm T} {δ1 : DL.Env} {M M1 : Mem} {as : List α} (hg : g δ M = .ok (as.map enc) δ1 M1) (hl : as.length ≤ 16000000)
    (step : ∀ a ∈ as, ∃ δ2 δ3, tg (.d (enc a)) (wipeE δ1 vs) M1 = .ok () δ2 M1 ∧ (bnd te mFrz) δ2 M1 = .ok (.d (f a)) δ3 M1 ∧ wipeE δ3 vs = wipeE δ1 vs) :
    mLc vs g tg (ret true) te δ M = .ok (.con (.lst (as.map f))) (mergeE δ1 (wipeE δ1 vs) vs) M1 := by
  have e := lcF_enc as [] step
  unfold mLc bnd
  simp only [hg, if_pos (show (as.map enc).length ≤ 16000000 by rw [List.length_map]; exact hl), e, lcEnd, wipeE_length, if_pos, List.nil_append]

def entJ (j : Jt) (s x y : Nat) : Option Nat := (((j[s]?.getD [])[x]?.getD [])[y]?).getD none
theorem inIx_nat {n i : Nat} (h : i < n) : inIx (n : Int) (.int (i : Int)) = true := by simp only [inIx, Bool.and_eq_true, decide_eq_true_eq]; omega
theorem encE_inj {a b : Option Nat} (h : encE a = encE b) : a = b := by
  cases a with
  | none => cases b with
    | none => rfl
    | some i => simp [encE] at h
  | some i => cases b with
    | none => simp [encE] at h
    | some k => simp [encE] at h; exact congrArg some (by omega)
theorem WfJ.atN {N X Y : Nat} {j : Jt} {s x y : Nat} (w : WfJ N X Y j) (h1 : s < N) (h2 : x < X) (h3 : y < Y) :
    ∃ (ss : List (List (Option Nat))) (r : List (Option Nat)), fIx (encJ j) (.int (s : Int)) = some (.d (encS ss)) ∧ fIx (encS ss) (.int (x : Int)) = some (.d (encR r)) ∧ fIx (encR r) (.int (y : Int)) = some (.d (encE (entJ j s x y))) ∧ ∀ i, entJ j s x y = some i → i < N := by
  obtain ⟨ss, r, e, k1, k2, k3, k4, k5⟩ := w.at (inIx_nat h1) (inIx_nat h2) (inIx_nat h3)
  have e6 : encE e = encE (entJ j s x y) := by rw [k4]; unfold entD entJ; simp only [Int.toNat_natCast]
  obtain rfl := encE_inj e6
  exact ⟨ss, r, k1, k2, k3, k5⟩
theorem atI_last {α : Type} {xs : List α} {a : α} : atI (xs ++ [a]) (-1) = some a := by
  unfold atI ixN
  rw [if_neg (by decide)]
  simp
  rw [if_pos (by omega)]
  have e : (-1 + ((xs.length : Int) + 1)).toNat = xs.length := by omega
  simp [e]
theorem app_ok {xs : List D} {d : D} (h : xs.length < 16000000) : fAppend xs [d] = some (xs ++ [d], .none) := by
  unfold fAppend
  simp [h]
theorem zipD_map {α β : Type} {f : α → D} {g : β → D} {xs : List α} {ys : List β} : zipD (xs.map f) (ys.map g) = (xs.zip ys).map fun p => .tuple [f p.1, g p.2] := by
  unfold zipD
  rw [List.zip_map, List.map_map]
  rfl
theorem WfJ.sh {N X Y : Nat} {j : Jt} (w : WfJ N X Y j) : Sh 3 2400 (encJ j) := by
  have h1 : ∀ s ∈ j, ∀ r ∈ s, Sh 1 70 (encR r) := fun s hs r hr => by
    obtain ⟨a, b⟩ := (w.rows s hs).2 r hr
    refine (Sh.tup (k := 0) (w := 13) (n := 4) (fun x hx => ?_) (by rw [List.length_map, a]; exact w.y4)).mono (by decide) (by decide)
    obtain ⟨e, he, rfl⟩ := List.mem_map.mp hx
    cases e with
    | none => exact Sh.none.mono (by decide) (by decide)
    | some i => have := b i he; have := w.n8; exact Sh.int (by omega)
  have h2 : ∀ s ∈ j, Sh 2 291 (encS s) := fun s hs => (Sh.tup (k := 1) (w := 70) (n := 4) (fun x hx => by obtain ⟨r, hr, rfl⟩ := List.mem_map.mp hx; exact h1 s hs r hr) (by rw [List.length_map, (w.rows s hs).1]; exact w.x4)).mono (by decide) (by decide)
  exact (Sh.tup (k := 2) (w := 291) (n := 8) (fun x hx => by obtain ⟨s, hs, rfl⟩ := List.mem_map.mp hx; exact h2 s hs) (by rw [List.length_map, w.len]; exact w.n8)).mono (by decide) (by decide)
def encW (w : List Nat) : D := .tuple (w.map fun x : Nat => PyData.int (x : Int))
theorem forF_ind {α : Type} {enc : α → D} {tg : T → Sm Unit} {b : Sm Fl} {I : List α → List α → DL.Env → Mem → Prop}
    (step : ∀ done a todo δ M, I done (a :: todo) δ M → ∃ δ1 M1, mTgt (tg (.d (enc a))) b δ M = .ok .nx δ1 M1 ∧ I (done ++ [a]) todo δ1 M1) :
    ∀ (as done : List α) (δ : DL.Env) (M : Mem), I done as δ M → ∃ δ' M', forF tg b (as.map enc) δ M = .ok .nx δ' M' ∧ I (done ++ as) [] δ' M'
  | [], done, δ, M, h => ⟨δ, M, rfl, by simpa using h⟩
  | a :: as, done, δ, M, h => by
    obtain ⟨δ1, M1, e, i1⟩ := step done a as δ M h
    obtain ⟨δ', M', e2, i2⟩ := forF_ind step as (done ++ [a]) δ1 M1 i1
    refine ⟨δ', M', ?_, by simpa using i2⟩
    rw [List.map_cons]
    unfold forF
    unfold mTgt at e ⊢
    cases et : tg (.d (enc a)) δ M with
    | ok c δ2 M2 =>
      simp only [et] at e ⊢
      unfold bnd
      simp only [e]
      exact e2
    | ex a b c => simp only [et] at e; cases e
    | bad => simp only [et] at e; cases e
theorem ext_ok {xs ys : List D} (h : xs.length + ys.length ≤ 16000000) : fExtend xs [.list ys] = some (xs ++ ys, .none) := by
  show (if xs.length + ys.length ≤ 16000000 then some (xs ++ ys, PyData.none) else Option.none) = _
  rw [if_pos h]
theorem e_neP {a b c d : Int} : fNe (.tuple [.int a, .int b]) (.tuple [.int c, .int d]) = some (.bool (!((a == c) && (b == d)))) := by
  simp [fNe, eqOk, PyData.plain, PyData.plainAll, PyData.depth, PyData.depthAll, PyData.eqv, PyData.eqvAll]
theorem body_ex {n : Nat} {f : Sm Fl} {ts : List T} {x : XD} {δ' : DL.Env} {M' : Mem} (h : f (ts.map some ++ List.replicate n Option.none) M = .ex x δ' M') : mBody n f ts M = .ex x [] M' := by rw [e_body, h]
theorem seq_ex {f g : Sm Fl} {δ δ' : DL.Env} {x : XD} {M' : Mem} (h : f δ M = .ex x δ' M') : mSeq f g δ M = .ex x δ' M' := by rw [e_seq, e_bnd, h]
theorem seq_rt {f g : Sm Fl} {δ δ' : DL.Env} {r : T} {M' : Mem} (h : f δ M = .ok (.rt r) δ' M') : mSeq f g δ M = .ok (.rt r) δ' M' := by rw [e_seq, e_bnd, h]; rfl
theorem if_t {α : Type} {c : Sm Bool} {a b : Sm α} {δ δ1 : DL.Env} {M M1 : Mem} (h : c δ M = .ok true δ1 M1) : mIf c a b δ M = a δ1 M1 := by rw [e_if, bnd_ok h]; rfl
theorem if_f {α : Type} {c : Sm Bool} {a b : Sm α} {δ δ1 : DL.Env} {M M1 : Mem} (h : c δ M = .ok false δ1 M1) : mIf c a b δ M = b δ1 M1 := by rw [e_if, bnd_ok h]; rfl
theorem plain_nats : ∀ l : List Nat, PyData.plainAll (l.map fun x : Nat => PyData.int (x : Int)) = true := fun l => by
  induction l with
  | nil => rfl
  | cons a l ih => simp [PyData.plainAll, PyData.plain, ih]
theorem ne_nilN {l : List Nat} : fNe (.list (l.map fun x : Nat => PyData.int (x : Int))) (.list []) = some (.bool (!l.isEmpty)) := by
  unfold fNe eqOk
  cases l with
  | nil => simp [PyData.plain, PyData.plainAll, PyData.depth, PyData.depthAll, PyData.eqv, PyData.eqvAll]
  | cons a l => simp [PyData.plain, PyData.plainAll, PyData.depth, PyData.depthAll, PyData.eqv, PyData.eqvAll, plain_nats]
theorem ne_nilT {l : List Nat} : fNe (.tuple (l.map fun x : Nat => PyData.int (x : Int))) (.tuple []) = some (.bool (!l.isEmpty)) := by
  unfold fNe eqOk
  cases l with
  | nil => simp [PyData.plain, PyData.plainAll, PyData.depth, PyData.depthAll, PyData.eqv, PyData.eqvAll]
  | cons a l => simp [PyData.plain, PyData.plainAll, PyData.depth, PyData.depthAll, PyData.eqv, PyData.eqvAll, plain_nats]
theorem cut_take {ds : List D} {k : Nat} (h : k ≤ ds.length) : cutD ds none (some (k : Int)) = ds.take k := by
  unfold cutD
  rw [HT.sIx_none, HT.sIx_nat]
  simp [Nat.min_eq_left h]
theorem cut_drop {ds : List D} {k : Nat} (h : k + 1 ≤ ds.length) : cutD ds (some ((k : Int) + 1)) none = ds.drop (k + 1) := by
  unfold cutD
  rw [show ((k : Int) + 1) = ((k + 1 : Nat) : Int) by omega, HT.sIx_nat, HT.sIx_none, Nat.min_eq_left h]
  exact List.take_of_length_le (by simp)
theorem seq_gen {f g : Sm Fl} {δ : DL.Env} {M : Mem} {r : Res Fl} (h : ∃ δ' M', f δ M = .ok .nx δ' M' ∧ g δ' M' = r) : mSeq f g δ M = r := by
  obtain ⟨δ', M', h1, h2⟩ := h
  exact (seq_nx h1).trans h2
theorem body_gen {n : Nat} {f : Sm Fl} {ts : List T} {r : T} {M M' : Mem} (h : ∃ δ', f (ts.map some ++ List.replicate n Option.none) M = .ok (.rt r) δ' M') : mBody n f ts M = .ok r [] M' := by
  obtain ⟨δ', h⟩ := h
  exact body_rt h
theorem bools_true : ∀ {ys : List D}, (∀ y ∈ ys, y = .bool true) → fAll [.list ys] = some (.bool true) := by
  intro ys h
  have : bools ys = some (ys.map fun _ => true) := by
    induction ys with
    | nil => rfl
    | cons y ys ih =>
      rw [h y List.mem_cons_self]
      unfold bools
      rw [ih fun z hz => h z (List.mem_cons_of_mem _ hz)]; rfl
  unfold fAll
  simp [this]
/-! ### rows of ints, relations -/
def encRow (r : List Int) : D := .tuple (r.map PyData.int)
def encRl (r : List (List Int)) : D := .tuple (r.map encRow)
theorem sortSet_nd (ns : List Int) : (sortSet ns).Nodup := by
  unfold sortSet
  exact (sortI_perm _).nodup_iff.mpr (nodup_dups ns)
theorem sortSet_lt (ns : List Int) : (sortSet ns).Pairwise (· < ·) := by
  have h1 : (sortSet ns).Pairwise (· ≤ ·) := by unfold sortSet; exact sortI_ris _
  have h2 : (sortSet ns).Pairwise (· ≠ ·) := sortSet_nd ns
  exact (h1.and h2).imp fun h => by omega
theorem sortSet_congr {a b : List Int} (h : ∀ x, x ∈ a ↔ x ∈ b) : sortSet a = sortSet b := sortSet_of (sortSet_lt a) fun j => by rw [mem_sortSet, h, decide_eq_true_iff]
theorem sortSet_id {a : List Int} (h : a.Pairwise (· < ·)) : sortSet a = a := (sortSet_of h fun j => by rw [decide_eq_true_iff]).symm
theorem sortI_nd {ks ns : List Int} (h : ks.Nodup) (m : ∀ x, x ∈ ks ↔ x ∈ ns) : sortI ks = sortSet ns := by
  refine sortSet_of ?_ fun j => by rw [(sortI_perm ks).mem_iff, m, decide_eq_true_iff]
  have h1 := sortI_ris ks
  have h2 : (sortI ks).Pairwise (· ≠ ·) := (sortI_perm ks).nodup_iff.mpr h
  exact (h1.and h2).imp fun h => by omega
theorem few_len : ∀ (n : Nat) (l : List Int), l.Nodup → (∀ x ∈ l, 0 ≤ x ∧ x < n) → l.length ≤ n
  | 0, l, _, h => by
    cases l with
    | nil => exact Nat.le_refl _
    | cons x r => have := h x List.mem_cons_self; omega
  | n + 1, l, nd, h => by
    have h1 := few_len n (l.filter fun x => !decide (x = (n : Int))) (nd.filter _) fun x hx => by
      obtain ⟨a, b⟩ := List.mem_filter.mp hx
      have := h x a
      simp at b
      omega
    have h2 := List.length_eq_countP_add_countP (l := l) (fun x => decide (x = (n : Int)))
    have h3 : l.countP (fun x => decide (x = (n : Int))) ≤ 1 := by
      have : l.countP (fun x => decide (x = (n : Int))) = l.count (n : Int) := by
        unfold List.count
        exact List.countP_congr fun x _ => by simp
      rw [this]
      exact List.nodup_iff_count.mp nd _
    have h4 : (l.filter fun x => !decide (x = (n : Int))).length = l.countP (fun a => decide (¬ decide (a = (n : Int)) = true)) := by
      rw [List.countP_eq_length_filter]
      congr 2
      funext x
      simp
    omega
def addI (ks : List Int) (i : Int) : List Int := if i ∈ ks then ks else ks ++ [i]
theorem addI_mem {ks : List Int} {i x : Int} : x ∈ addI ks i ↔ x ∈ ks ∨ x = i := by
  unfold addI
  split
  · rename_i h
    exact ⟨.inl, fun z => z.elim id fun e => e ▸ h⟩
  · simp
theorem addI_nd {ks : List Int} {i : Int} (h : ks.Nodup) : (addI ks i).Nodup := by
  unfold addI
  split
  · exact h
  · rename_i hn
    rw [List.nodup_append]
    exact ⟨h, by simp, fun a ha b hb => by
      rw [List.mem_singleton.mp hb]; intro e; exact hn (e ▸ ha)⟩
theorem adds_mem {x : Int} : ∀ {ms ks : List Int}, x ∈ ms.foldl addI ks ↔ x ∈ ks ∨ x ∈ ms
  | [], ks => by simp
  | m :: ms, ks => by
    rw [List.foldl_cons, adds_mem, addI_mem, List.mem_cons, or_assoc]
theorem adds_nd : ∀ {ms ks : List Int}, ks.Nodup → (ms.foldl addI ks).Nodup
  | [], _, h => h
  | _ :: ms, _, h => adds_nd (ms := ms) (addI_nd h)
def dctI (ks : List Int) : List (D × D) := ks.map fun i => (PyData.int i, PyData.bool true)
theorem dctI_any {ks : List Int} {i : Int} : ((dctI ks).any fun p => decide (keyOf p.1 = some (Sum.inl i))) = decide (i ∈ ks) := by
  unfold dctI
  rw [List.any_map]
  induction ks with
  | nil => rfl
  | cons k r ih =>
    rw [List.any_cons, ih]
    show (decide ((some (Sum.inl k) : Option Key) = some (Sum.inl i)) || decide (i ∈ r)) = _
    by_cases h : k = i
    · subst h; simp
    · have h' : ¬ i = k := fun z => h z.symm
      simp [h, h']
theorem putD_dctI {ks : List Int} {i : Int} : putD (Sum.inl i) (.int i) (.bool true) (dctI ks) = dctI (addI ks i) := by
  unfold putD addI
  rw [dctI_any]
  by_cases h : i ∈ ks
  · rw [if_pos (by simpa using h), if_pos h]
    unfold dctI
    rw [List.map_map]
    refine List.map_congr_left fun k hk => ?_
    show (if keyOf (PyData.int k) = some (Sum.inl i) then (PyData.int k, PyData.bool true) else (PyData.int k, PyData.bool true)) = _
    split <;> rfl
  · rw [if_neg (by simpa using h), if_neg h]
    unfold dctI
    rw [List.map_append]; rfl
theorem mergeD_dctI : ∀ {ms ks : List Int}, mergeD (dctI ks) (dctI ms) = dctI (ms.foldl addI ks)
  | [], ks => rfl
  | m :: ms, ks => by
    have e : mergeD (dctI ks) (dctI (m :: ms)) = mergeD (putD (Sum.inl m) (.int m) (.bool true) (dctI ks)) (dctI ms) := rfl
    rw [e, putD_dctI, mergeD_dctI]; rfl
theorem dcF_ints {vs : List Nat} {tg : T → Sm Unit} {tk tv : Sm T} {δ0 : DL.Env} {M : Mem} :
    ∀ (ts ks : List Int), (∀ i ∈ ts, ∃ δ1 δ2 δ3, tg (.d (.int i)) δ0 M = .ok () δ1 M ∧ tk δ1 M = .ok (.d (.int i)) δ2 M ∧ (bnd tv mFrz) δ2 M = .ok (.d (.bool true)) δ3 M ∧ wipeE δ3 vs = δ0) → dcF vs tg (ret true) tk tv (ts.map PyData.int) (dctI ks) δ0 M = .ok (dctI (ts.foldl addI ks)) δ0 M
  | [], ks, _ => rfl
  | i :: ts, ks, h => by
    obtain ⟨δ1, δ2, δ3, e1, e2, e3, e4⟩ := h i List.mem_cons_self
    have ih := dcF_ints ts (addI ks i) fun j hj => h j (List.mem_cons_of_mem _ hj)
    rw [List.map_cons]
    unfold dcF
    simp only [e1]
    have e5 : bnd (ret true) (fun b => if b = true then bnd tk fun kt => bnd (bnd tv mFrz) fun t => (match kt, t with
        | .d x, .d y => (match keyOf x with
          | some q => fun δ2 M2 => dcF vs tg (ret true) tk tv (ts.map PyData.int) (putD q x y (dctI ks)) (wipeE δ2 vs) M2
          | none => fail)
        | _, _ => fail) else fun δ2 M2 => dcF vs tg (ret true) tk tv (ts.map PyData.int) (dctI ks) (wipeE δ2 vs) M2) δ1 M = .ok (dctI ((i :: ts).foldl addI ks)) δ0 M := by
      show (bnd tk _) δ1 M = _
      rw [bnd_ok e2, bnd_ok e3]
      show dcF vs tg (ret true) tk tv (ts.map PyData.int) (putD (Sum.inl i) (.int i) (.bool true) (dctI ks)) (wipeE δ3 vs) M = _
      rw [putD_dctI, e4, ih]; rfl
    exact e5
theorem intsOf_map : ∀ {ks : List Int}, intsOf (ks.map PyData.int) = some ks
  | [] => rfl
  | k :: ks => by
    rw [List.map_cons]
    unfold intsOf
    rw [intsOf_map]; rfl
theorem sortedK_dctI {ks : List Int} (h : ks.length < 64) : fSortedK (.dict (dctI ks)) = some (.con (.lst ((sortI ks).map PyData.int))) := by
  have e : (dctI ks).map (·.1) = ks.map PyData.int := by unfold dctI; rw [List.map_map]; rfl
  unfold fSortedK
  simp only [e, intsOf_map, Option.bind_some, if_pos h]
@[simp] theorem e_isDct {o : T} : isDct o δ M = (match conOf o δ M with
  | some (.dct _) => true
  | _ => false) := rfl
@[simp] theorem e_methK {fo : Sm T} {fa : Sm (List T)} {F : List (D × D) → List D → Option (List (D × D) × D)} : mMethK fo fa F δ M = bnd fo (fun o => fun δ M =>
  if isDct o δ M = true then (bnd fa fun ts => fun δ M =>
    match conOf o δ M with
    | some (.dct xs) => (match (allD ts).bind fun ds => F xs ds with
      | some (xs', z) => .ok (.d z) (putE o (.dct xs') δ) (putM o (.dct xs') M)
      | Option.none => .bad)
    | _ => .bad) δ M else .bad) δ M := rfl
/-- the rows one after another -/
def compRow (other : List (List Int)) (mids : List Int) : List Int := sortSet (mids.flatMap fun i => other[i.toNat]?.getD [])
def compR (one other : List (List Int)) : List (List Int) := one.map (compRow other)
/-! ### what a letter leads to -/
def entsR (r : List (Option Nat)) : List Int := (r.filterMap id).map fun i : Nat => (i : Int)
def entsOf (rows : List (List (Option Nat))) (x : Nat) : List Int := entsR (rows[x]?.getD [])
def letRel (j : Jt) (x : Nat) : List (List Int) := j.map fun rows => sortSet (entsOf rows x)
def notNo : D → Bool
  | .none => false
  | _ => true
theorem ents_enc : ∀ r : List (Option Nat), ((r.map encE).filter notNo).map id = (entsR r).map PyData.int
  | [] => rfl
  | none :: r => by
    have := ents_enc r
    rw [List.map_cons, List.filter_cons_of_neg (by simp [encE, notNo])]
    exact this
  | some i :: r => by
    have := ents_enc r
    rw [List.map_cons, List.filter_cons_of_pos (by simp [encE, notNo])]
    simp only [List.map_cons, this]
    simp [encE, entsR]
def stepR (j : Jt) (x : Nat) (row : List Int) : List Int := sortSet (row.flatMap fun h => entsOf (j[h.toNat]?.getD []) x)
theorem step_comp (j : Jt) (x : Nat) (row : List Int) : compRow (letRel j x) row = stepR j x row := by
  refine sortSet_congr fun y => ?_
  rw [List.mem_flatMap, List.mem_flatMap]
  have key : ∀ h : Int, y ∈ ((letRel j x)[h.toNat]?.getD []) ↔ y ∈ entsOf (j[h.toNat]?.getD []) x := fun h => by
    unfold letRel
    rw [List.getElem?_map]
    cases e : j[h.toNat]? with
    | none => simp [entsOf, entsR]
    | some rows => simp [mem_sortSet]
  exact ⟨fun ⟨h, a, b⟩ => ⟨h, a, (key h).mp b⟩, fun ⟨h, a, b⟩ => ⟨h, a, (key h).mpr b⟩⟩
def foldW (j : Jt) (w : List Nat) (row : List Int) : List Int := w.foldl (fun row x => stepR j x row) row
def reachR (j : Jt) (w : List Nat) : List (List Int) := (List.range j.length).map fun s : Nat => foldW j w [(s : Int)]
theorem reachR_nil (j : Jt) : reachR j [] = (List.range j.length).map fun s : Nat => [(s : Int)] := rfl
theorem foldW_snoc (j : Jt) (w : List Nat) (x : Nat) (row : List Int) : foldW j (w ++ [x]) row = stepR j x (foldW j w row) := by
  unfold foldW
  rw [List.foldl_append]; rfl
theorem reachR_snoc (j : Jt) (w : List Nat) (x : Nat) : compR (reachR j w) (letRel j x) = reachR j (w ++ [x]) := by
  unfold compR reachR
  rw [List.map_map]
  refine List.map_congr_left fun s _ => ?_
  show compRow (letRel j x) (foldW j w [(s : Int)]) = _
  rw [step_comp, foldW_snoc]
theorem mem_foldW (j : Jt) (y : Int) : ∀ (w : List Nat) (row : List Int), y ∈ foldW j w row ↔ ∃ i ∈ row, y ∈ foldW j w [i]
  | [], row => by simp [foldW]
  | x :: w, row => by
    have h1 : ∀ r, foldW j (x :: w) r = foldW j w (stepR j x r) := fun r => rfl
    rw [h1, mem_foldW j y w]
    have h2 : ∀ k r, k ∈ stepR j x r ↔ ∃ i ∈ r, k ∈ stepR j x [i] := fun k r => by
      unfold stepR
      rw [mem_sortSet, List.mem_flatMap]
      constructor
      · rintro ⟨i, a, b⟩
        exact ⟨i, a, by rw [mem_sortSet]; simpa using b⟩
      · rintro ⟨i, a, b⟩
        rw [mem_sortSet] at b
        exact ⟨i, a, by simpa using b⟩
    constructor
    · rintro ⟨k, hk, hy⟩
      obtain ⟨i, hi, hk'⟩ := (h2 k row).mp hk
      exact ⟨i, hi, by rw [h1]; exact (mem_foldW j y w _).mpr ⟨k, hk', hy⟩⟩
    · rintro ⟨i, hi, hy⟩
      rw [h1] at hy
      obtain ⟨k, hk, hy'⟩ := (mem_foldW j y w _).mp hy
      exact ⟨k, (h2 k row).mpr ⟨i, hi, hk⟩, hy'⟩
theorem foldW_lt (j : Jt) : ∀ (w : List Nat) (row : List Int), row.Pairwise (· < ·) → (foldW j w row).Pairwise (· < ·)
  | [], _, h => h
  | x :: w, row, _ => foldW_lt j w (stepR j x row) (sortSet_lt _)
theorem foldW_bnd {N X Y : Nat} {j : Jt} (wf : WfJ N X Y j) : ∀ (w : List Nat) (row : List Int), (∀ i ∈ row, 0 ≤ i ∧ i < (N : Int)) → ∀ i ∈ foldW j w row, 0 ≤ i ∧ i < (N : Int)
  | [], _, h => h
  | x :: w, row, h => foldW_bnd wf w (stepR j x row) fun i hi => by
    unfold stepR at hi
    rw [mem_sortSet, List.mem_flatMap] at hi
    obtain ⟨k, _, hk⟩ := hi
    unfold entsOf entsR at hk
    obtain ⟨n, hn, rfl⟩ := List.mem_map.mp hk
    rw [List.mem_filterMap] at hn
    obtain ⟨o, ho, e⟩ := hn
    have e : o = some n := e
    subst e
    cases e1 : j[k.toNat]? with
    | none => rw [e1] at ho; simp at ho
    | some rows =>
      rw [e1] at ho
      cases e2 : rows[x]? with
      | none => simp [e2] at ho
      | some r =>
        simp only [Option.getD_some, e2] at ho
        have := ((wf.rows rows (List.mem_of_getElem? e1)).2 r (List.mem_of_getElem? e2)).2 n ho
        omega
theorem reachR_app {N X Y : Nat} {j : Jt} (wf : WfJ N X Y j) (w1 w2 : List Nat) : compR (reachR j w1) (reachR j w2) = reachR j (w1 ++ w2) := by
  unfold compR
  conv => lhs; unfold reachR
  conv => rhs; unfold reachR
  rw [List.map_map]
  refine List.map_congr_left fun s hs => ?_
  have hs' := List.mem_range.mp hs
  show compRow (reachR j w2) (foldW j w1 [(s : Int)]) = foldW j (w1 ++ w2) [(s : Int)]
  have e1 : foldW j (w1 ++ w2) [(s : Int)] = foldW j w2 (foldW j w1 [(s : Int)]) := by unfold foldW; rw [List.foldl_append]
  rw [e1]
  have hb := foldW_bnd wf w1 [(s : Int)] fun i hi => by
    rw [List.mem_singleton.mp hi]
    have := wf.len
    omega
  have hlt := foldW_lt j w2 _ (foldW_lt j w1 [(s : Int)] (by simp))
  generalize foldW j w1 [(s : Int)] = row at hb hlt ⊢
  rw [← sortSet_id hlt]
  refine sortSet_congr fun y => ?_
  rw [mem_foldW, List.mem_flatMap]
  have key : ∀ i ∈ row, ((reachR j w2)[i.toNat]?.getD []) = foldW j w2 [i] := fun i hi => by
    obtain ⟨a, b⟩ := hb i hi
    have hl := wf.len
    unfold reachR
    rw [List.getElem?_map, List.getElem?_range (by omega)]
    have : ((i.toNat : Nat) : Int) = i := by omega
    simp [this]
  exact ⟨fun ⟨i, a, b⟩ => ⟨i, a, (key i a) ▸ b⟩, fun ⟨i, a, b⟩ => ⟨i, a, by rw [key i a]; exact b⟩⟩
theorem entsR_len (r : List (Option Nat)) : (entsR r).length ≤ r.length := by
  unfold entsR
  rw [List.length_map]
  exact List.length_filterMap_le _ _
theorem WfJ.ents {N X Y : Nat} {j : Jt} (wf : WfJ N X Y j) {rows : List (List (Option Nat))} {x : Nat} (hr : rows ∈ j) : (∀ i ∈ entsOf rows x, 0 ≤ i ∧ i < (N : Int)) ∧ (entsOf rows x).length ≤ 4 := by
  obtain ⟨h1, h2⟩ := wf.rows rows hr
  have y4 := wf.y4
  unfold entsOf
  cases e : rows[x]? with
  | none => exact ⟨fun i hi => by simp [entsR] at hi, by simp [entsR]⟩
  | some r =>
    obtain ⟨h3, h4⟩ := h2 r (List.mem_of_getElem? e)
    refine ⟨fun i hi => ?_, by have := entsR_len r; simp only [Option.getD_some]; omega⟩
    unfold entsR at hi
    obtain ⟨n, hn, rfl⟩ := List.mem_map.mp hi
    rw [List.mem_filterMap] at hn
    obtain ⟨o, ho, eo⟩ := hn
    have eo : o = some n := eo
    subst eo
    have := h4 n ho
    omega
theorem sortSet_ok {ns : List Int} {n : Nat} (hn : n ≤ 8) (hb : ∀ x ∈ ns, 0 ≤ x ∧ x < n) (hl : ns.length < 4000) : fSortSet (.list (ns.map PyData.int)) = some (.con (.lst ((sortSet ns).map PyData.int))) := by
  have h1 := few_len n ns.eraseDups (nodup_dups ns) fun x hx => hb x (List.mem_eraseDups.mp hx)
  unfold fSortSet
  simp only [intsOf_map, Option.bind_some]
  rw [if_pos ⟨by omega, hl⟩]
/-! ### the states that are reached -/
theorem lookD_dctI {ks : List Int} {i : Int} : (lookD (Sum.inl i) (dctI ks)).isSome = decide (i ∈ ks) := by
  rw [← dctI_any]
  unfold lookD
  rw [Option.isSome_map, Bool.eq_iff_iff, List.find?_isSome, List.any_eq_true]
theorem notInA_dctI {ks : List Int} {i : Int} : fInA not (.int i) (.dict (dctI ks)) = some (.bool (!decide (i ∈ ks))) := by
  show (keyOf (PyData.int i)).map (fun q => PyData.bool (!(lookD q (dctI ks)).isSome)) = _
  show some (PyData.bool (!(lookD (Sum.inl i) (dctI ks)).isSome)) = _
  rw [lookD_dctI]
def succI (j : Jt) (s : Int) : List Int := (j[s.toNat]?.getD []).flatMap entsR
inductive ReachJ (j : Jt) : Int → Prop
  | zero : ReachJ j 0
  | step {s t : Int} : ReachJ j s → t ∈ succI j s → ReachJ j t
theorem WfJ.succ {N X Y : Nat} {j : Jt} (wf : WfJ N X Y j) (s : Int) : (∀ i ∈ succI j s, 0 ≤ i ∧ i < (N : Int)) ∧ (succI j s).length ≤ 16 := by
  unfold succI
  cases e : j[s.toNat]? with
  | none => exact ⟨fun i hi => by simp at hi, by simp⟩
  | some rows =>
    have hr := List.mem_of_getElem? e
    obtain ⟨h1, h2⟩ := wf.rows rows hr
    have x4 := wf.x4
    have y4 := wf.y4
    simp only [Option.getD_some]
    refine ⟨fun i hi => ?_, ?_⟩
    · obtain ⟨r, hrr, hi⟩ := List.mem_flatMap.mp hi
      obtain ⟨h3, h4⟩ := h2 r hrr
      unfold entsR at hi
      obtain ⟨n, hn, rfl⟩ := List.mem_map.mp hi
      rw [List.mem_filterMap] at hn
      obtain ⟨o, ho, eo⟩ := hn
      have eo : o = some n := eo
      subst eo
      have := h4 n ho
      omega
    · have hb : ∀ l : List (List (Option Nat)), (∀ r ∈ l, r.length ≤ 4) → (l.flatMap entsR).length ≤ 4 * l.length := by
        intro l
        induction l with
        | nil => simp
        | cons a l ih =>
          intro h
          have h5 := ih fun r hr => h r (List.mem_cons_of_mem _ hr)
          have h6 := entsR_len a
          have h7 := h a List.mem_cons_self
          simp only [List.flatMap_cons, List.length_append, List.length_cons]
          omega
      have := hb rows fun r hrr => by rw [(h2 r hrr).1]; exact y4
      omega
theorem reach_bnd {N X Y : Nat} {j : Jt} (wf : WfJ N X Y j) {s : Int} (h : ReachJ j s) : 0 ≤ s ∧ s < (N : Int) := by
  cases h with
  | zero => have := wf.n0; omega
  | step _ h => exact (wf.succ _).1 _ h
theorem reach_in {j : Jt} {l : List Int} (h0 : (0 : Int) ∈ l) (hc : ∀ s ∈ l, ∀ t ∈ succI j s, t ∈ l) {s : Int} (h : ReachJ j s) : s ∈ l := by
  induction h with
  | zero => exact h0
  | step _ h ih => exact hc _ ih _ h
theorem lt_ext {a b : List Int} (ha : a.Pairwise (· < ·)) (hb : b.Pairwise (· < ·)) (h : ∀ x, x ∈ a ↔ x ∈ b) : a = b := by
  rw [← sortSet_id ha, ← sortSet_id hb]
  exact sortSet_congr h
/-! _law_take -/
/-- the tables of the closures stand where they stood, and so do the cells that are told -/
def TB (n : Nat) (M : Mem) : Prop := (∀ (k : Nat) (c : C), TABS[k]? = some c → k < n ∧ M[k]? = some c) ∧ ∀ (k : Nat) (c : C), k ≠ n → rest.R[k]? = some c → M[k]? = some c
theorem TB.set {n : Nat} {M : Mem} {c : C} (h : TB n M) : TB n (M.set n c) := ⟨fun k d e => by
  obtain ⟨h1, h2⟩ := h.1 k d e
  exact ⟨h1, by rw [List.getElem?_set_ne (by omega)]; exact h2⟩, fun k d nk e => by
  rw [List.getElem?_set_ne (Ne.symm nk)]; exact h.2 k d nk e⟩
omit rest in
theorem TB.new {M : Mem} {c : C} (h : ∃ M', M = TABS ++ M') : @TB ⟨[]⟩ M.length (M ++ [c]) := ⟨fun k d e => by
  obtain ⟨M', h⟩ := h
  have hk := (List.getElem?_eq_some_iff.mp e).1
  have hl : k < M.length := by rw [h, List.length_append]; omega
  exact ⟨hl, by rw [List.getElem?_append_left hl, h, List.getElem?_append_left hk]; exact e⟩, fun k d _ e => by simp at e⟩
/-- the pot at cell n: at most B turns taken -/
def Pot (B : Int) (n : Nat) (M : Mem) : Prop := ∃ own mixed turn : Int, M[n]? = some (.lst [.int own, .int mixed, .int turn]) ∧ 0 ≤ own ∧ 0 ≤ mixed ∧ mixed < 2 ^ 61 ∧ 0 ≤ turn ∧ turn ≤ B ∧ TB n M
theorem take_spec0 {B m : Int} {n : Nat} (hp : Pot B n M) (hB : B < 2 ^ 59) (hm : 0 < m) (hm2 : m < 2 ^ 62) : ∃ v M', g__law_take [.ref n, .d (.int m)] M = .ok (.d (.int v)) [] M' ∧ 0 ≤ v ∧ v < m ∧ Pot (B + 1) n M' ∧ M'.length = M.length := by
  obtain ⟨own, mixed, turn, hM, h0, h1, h2, h3, h4, hT⟩ := hp
  have hn : n < M.length := (List.getElem?_eq_some_iff.mp hM).1
  by_cases ho : 0 < own
  · refine ⟨own % m, M.set n (.lst [.int (own / m), .int mixed, .int turn]), ?_, Int.emod_nonneg _ (by omega), Int.emod_lt_of_pos _ hm, ⟨own / m, mixed, turn, ?_, Int.ediv_nonneg h0 (by omega), h1, h2, h3, by omega, hT.set⟩, by simp⟩
    · simp [g__law_take, m__law_take, hM, ho, ixN, e_mod hm, e_div hm (Int.lt_trans hm2 (by decide))]
    · simp [hn]
  · have ho' : own = 0 := by omega
    subst ho'
    generalize ht : turn + 1 = t
    have ht0 : 0 < t := by omega
    have ht1 : t < 2 ^ 60 := by omega
    have htt : t * t ≤ 2 ^ 60 * 2 ^ 60 := Int.mul_le_mul (by omega) (by omega) (by omega) (by omega)
    have htt0 : 0 ≤ t * t := Int.mul_nonneg (by omega) (by omega)
    obtain ⟨p, hp, p0, p1⟩ : ∃ p : Int, atI [PyData.int 2147483647, .int 2147483629, .int 2147483587, .int 2147483579, .int 2147483563, .int 2147483549] (t % 6) = some (.int p) ∧ 0 < p ∧ p < 2 ^ 31 := by
      have h1 := Int.emod_nonneg t (show (6 : Int) ≠ 0 by decide)
      have h2 := Int.emod_lt_of_pos t (show (0 : Int) < 6 by decide)
      generalize t % 6 = q at h1 h2
      rcases (show q = 0 ∨ q = 1 ∨ q = 2 ∨ q = 3 ∨ q = 4 ∨ q = 5 by omega) with e | e | e | e | e | e <;> subst e
      · exact ⟨_, rfl, by decide, by decide⟩
      · exact ⟨_, rfl, by decide, by decide⟩
      · exact ⟨_, rfl, by decide, by decide⟩
      · exact ⟨_, rfl, by decide, by decide⟩
      · exact ⟨_, rfl, by decide, by decide⟩
      · exact ⟨_, rfl, by decide, by decide⟩
    have e1 : fMul (.int 65537) (.int t) = some (.d (.int (65537 * t))) := e_mul (.inl (by decide))
    have e2 : fMul (.int (65537 * t)) (.int t) = some (.d (.int (65537 * t * t))) := e_mul (.inr (by omega))
    have e3 : fMul (.int 31) (.int t) = some (.d (.int (31 * t))) := e_mul (.inl (by decide))
    have hass : 65537 * t * t = 65537 * (t * t) := Int.mul_assoc _ _ _
    have e4 : fPow (.int (mixed + 65537 * t * t + 31 * t)) (.int 3) = some (.int ((mixed + 65537 * t * t + 31 * t) ^ 3)) := e_pow (by decide) (by decide) (Nat.lt_of_lt_of_le (show _ < 2 ^ 140 by omega) (Nat.pow_le_pow_right (by decide) (by decide)))
    generalize hx : (mixed + 65537 * t * t + 31 * t) ^ 3 % p = x at *
    have x0 : 0 ≤ x := by rw [← hx]; exact Int.emod_nonneg _ (by omega)
    have x1 : x < p := by rw [← hx]; exact Int.emod_lt_of_pos _ p0
    have e5 : fMul (.int 13) (.int t) = some (.d (.int (13 * t))) := e_mul (.inl (by decide))
    have e6 : fMul (.int x) (.int (x % 10007 + 13 * t)) = some (.d (.int (x * (x % 10007 + 13 * t)))) := e_mul (.inl (by omega))
    refine ⟨x * (x % 10007 + 13 * t) % 2305843009213693907 / 97 % m, M.set n (.lst [.int 0, .int mixed, .int t]), ?_, Int.emod_nonneg _ (by omega), Int.emod_lt_of_pos _ hm, ⟨0, mixed, t, ?_, by decide, h1, h2, by omega, by omega, hT.set⟩, by simp⟩
    · simp [g__law_take, m__law_take, hM, List.getElem?_set_self hn, ixN, e_mod, e_div, hm, ht, e1, e2, e3, e4, e5, e6, hp, p0, hx]
      done
    · simp [hn]
theorem Pot.mono {B B' : Int} {n : Nat} (h : Pot B n M) (hb : B ≤ B') : Pot B' n M := let ⟨a, b, c, e, h0, h1, h2, h3, h4, h5⟩ := h; ⟨a, b, c, e, h0, h1, h2, h3, by omega, h5⟩
@[simp] theorem e_small {j : Int} (h : -(2 ^ 62) ≤ j) (h' : j < 2 ^ 62) : small62 j = true := small62_iff.mpr ⟨h, h'⟩
theorem take_spec {B m : Int} {n : Nat} (hp : Pot B n M) (hB : B < 1000000000) (hm : 0 < m) (hm2 : m < 1000000000) : ∃ v M', g__law_take [.ref n, .d (.int m)] M = .ok (.d (.int v)) [] M' ∧ 0 ≤ v ∧ v < m ∧ Pot (B + 1) n M' ∧ M'.length = M.length :=
  take_spec0 hp (Int.lt_trans hB (by decide)) hm (Int.lt_trans hm2 (by decide))
/-- the pot as it stands now: all other cells are told -/
theorem Pot.self {B : Int} {n : Nat} (h : Pot B n M) : @Pot ⟨M⟩ B n M := by
  obtain ⟨a, b, c, h1, h2, h3, h4, h5, h6, h7⟩ := h
  exact ⟨a, b, c, h1, h2, h3, h4, h5, h6, h7.1, fun k d _ e => e⟩
omit rest in
theorem Pot.told {B : Int} {n : Nat} {M0 : Mem} (h : @Pot ⟨M0⟩ B n M) : ∀ (k : Nat) (c : C), k ≠ n → M0[k]? = some c → M[k]? = some c := by
  obtain ⟨a, b, c, h1, h2, h3, h4, h5, h6, h7⟩ := h
  exact h7.2
theorem Pot.back {B B' : Int} {n : Nat} {M0 : Mem} (h0 : Pot B n M0) (h : @Pot ⟨M0⟩ B' n M) : Pot B' n M := by
  obtain ⟨a0, b0, c0, g1, g2, g3, g4, g5, g6, g7⟩ := h0
  obtain ⟨a, b, c, h1, h2, h3, h4, h5, h6, h7⟩ := h
  exact ⟨a, b, c, h1, h2, h3, h4, h5, h6, h7.1, fun k d nk e => h7.2 k d nk (g7.2 k d nk e)⟩
/-- other cells are changed or added -/
theorem Pot.chg {B : Int} {n : Nat} {M' : Mem} (h : Pot B n M) (hn : M'[n]? = M[n]?) (hT : ∀ (k : Nat) (c : C), TABS[k]? = some c → M'[k]? = some c) (hR : ∀ (k : Nat) (c : C), k ≠ n → rest.R[k]? = some c → M'[k]? = some c) : Pot B n M' := by
  obtain ⟨a, b, c, h1, h2, h3, h4, h5, h6, h7⟩ := h
  exact ⟨a, b, c, hn.trans h1, h2, h3, h4, h5, h6, fun k d e => ⟨(h7.1 k d e).1, hT k d e⟩, hR⟩
theorem Pot.lt {B : Int} {n : Nat} (h : Pot B n M) : n < M.length := by
  obtain ⟨a, b, c, h1, _⟩ := h
  exact (List.getElem?_eq_some_iff.mp h1).1
/-! is_integer -/
theorem is_integer_eq {v : D} {n : Int} : g_is_integer [.d v, .d (.int 0), .d (.int (n - 1))] M = .ok (.d (.bool (inIx n v))) [] M := by
  cases v with
  | int i =>
    by_cases h0 : 0 ≤ i
    · by_cases h1 : i < n
      · have : i ≤ n - 1 := by omega
        simp [g_is_integer, m_is_integer, isB, inIx, h0, h1, this]
      · have : ¬ i ≤ n - 1 := by omega
        simp [g_is_integer, m_is_integer, isB, inIx, h0, h1, this]
    · simp [g_is_integer, m_is_integer, isB, inIx, h0]
  | _ => simp [g_is_integer, m_is_integer, isB, inIx]
/-! is_word -/
def isWord (n : Int) : D → Bool
  | .tuple xs => decide (xs.length ≤ 400) && xs.all (inIx n)
  | _ => false
theorem bools_map {p : D → Bool} : ∀ {xs : List D}, bools (xs.map fun d => PyData.bool (p d)) = some (xs.map p)
  | [] => rfl
  | x :: xs => by
    rw [List.map_cons]
    unfold bools
    rw [bools_map]; rfl
theorem all_map {p : D → Bool} {xs : List D} : fAll [.list (xs.map fun d => PyData.bool (p d))] = some (.bool (xs.all p)) := by
  unfold fAll
  simp [bools_map, Function.comp_def]
theorem is_word_eq {v : D} {n : Int} : g_is_word [.d v, .d (.int n), .d (.int 400)] M = .ok (.d (.bool (isWord n v))) [] M := by
  cases v with
  | tuple xs =>
    by_cases hl : xs.length ≤ 400
    · have e := mLc_map (vs := [3]) (g := i_is_word_1) (tg := mNm 3) (te := e_is_word_1) (F := fun d => PyData.bool (inIx n d)) (δ := [some (.d (.tuple xs)), some (.d (.int n)), some (.d (.int 400)), none]) (M := M) (ds := xs) (δ1 := [some (.d (.tuple xs)), some (.d (.int n)), some (.d (.int 400)), none]) (M1 := M) (by simp [i_is_word_1]) (by omega) (by
        intro d hd
        refine ⟨[some (.d (.tuple xs)), some (.d (.int n)), some (.d (.int 400)), some (.d d)], [some (.d (.tuple xs)), some (.d (.int n)), some (.d (.int 400)), some (.d d)], rfl, ?_, rfl⟩
        simp [e_is_word_1, is_integer_eq])
      have e2 : mergeE [some (.d (.tuple xs)), some (.d (.int n)), some (.d (.int 400)), none] (wipeE [some (.d (.tuple xs)), some (.d (.int n)), some (.d (.int 400)), none] [3]) [3] = [some (.d (.tuple xs)), some (.d (.int n)), some (.d (.int 400)), none] := rfl
      rw [e2] at e
      have hc : ¬ (400 : Int) < xs.length := by omega
      simp [g_is_word, m_is_word, isB, hc, e, all_map, isWord, hl]
    · have hc : (400 : Int) < xs.length := by omega
      simp [g_is_word, m_is_word, isB, hc, isWord, hl]
  | _ => simp [g_is_word, m_is_word, isB, isWord]
/-! input_count -/
theorem input_count_eq {N X Y : Nat} {j : Jt} (w : WfJ N X Y j) : g_input_count [.d (encJ j)] M = .ok (.d (.int (X : Nat))) [] M := by
  obtain ⟨a, b, c, d⟩ := w.first
  simp [g_input_count, m_input_count, a, c]
/-! composed -/
theorem fIx_rl {r : List (List Int)} {i : Int} {row : List Int} (h0 : 0 ≤ i) (h : r[i.toNat]? = some row) : fIx (encRl r) (.int i) = some (.d (encRow row)) := by
  have e : ((i.toNat : Nat) : Int) = i := by omega
  have := atI_mapN (f := encRow) h
  rw [e] at this
  simp [fIx, encRl, this]
structure RowsOk (n : Nat) (r : List (List Int)) : Prop where
  len : r.length ≤ 8
  few : ∀ row ∈ r, row.length ≤ 8
  bnd : ∀ row ∈ r, ∀ x ∈ row, 0 ≤ x ∧ x < n
theorem comp_mid {one : D} {other : List (List Int)} {found : List D} {mids : List Int} {n : Nat} {o5 o6 : Option T} {o3 : Option T} (hn : n ≤ 8) (ho : RowsOk n other) (hm : ∀ i ∈ mids, 0 ≤ i ∧ i < other.length) (hl : mids.length ≤ 64) :
    ∃ ks p5 p6, forF (mNm 5) l_composed_1 (mids.map PyData.int) [some (.d one), some (.d (encRl other)), some (.con (.lst found)), o3, some (.con (.dct (dctI []))), o5, o6] M = .ok .nx [some (.d one), some (.d (encRl other)), some (.con (.lst found)), o3, some (.con (.dct (dctI ks))), p5, p6] M ∧
      ks.Nodup ∧ ks.length ≤ 8 ∧ ∀ x, x ∈ ks ↔ x ∈ mids.flatMap fun i => other[i.toNat]?.getD [] := by
  obtain ⟨δ', M', e, done, ks, p5, p6, hd, rfl, rfl, nd, hk⟩ := forF_spec (tg := mNm 5) (b := l_composed_1)
    (I := fun ds δ M' => ∃ (done ks : List Int) (p5 p6 : Option T), (∃ todo : List Int, mids = done ++ todo ∧ ds = todo.map PyData.int) ∧ δ = [some (.d one), some (.d (encRl other)), some (.con (.lst found)), o3, some (.con (.dct (dctI ks))), p5, p6] ∧ M' = M ∧ ks.Nodup ∧ ∀ x, x ∈ ks ↔ x ∈ done.flatMap fun i => other[i.toNat]?.getD [])
    (by
      rintro d ds δ M' ⟨done, ks, p5, p6, ⟨todo, ht, hds⟩, rfl, rfl, nd, hk⟩
      cases todo with
      | nil => simp at hds
      | cons i todo =>
        simp only [List.map_cons, List.cons.injEq] at hds
        obtain ⟨rfl, rfl⟩ := hds
        obtain ⟨i0, i1⟩ := hm i (by rw [ht]; simp)
        have er : other[i.toNat]? = some (other[i.toNat]'(by omega)) := List.getElem?_eq_getElem _
        generalize hrow : other[i.toNat]'(by omega) = row at er
        have hmem : row ∈ other := hrow ▸ List.getElem_mem _
        have hf := ho.few row hmem
        have hx := fIx_rl i0 er
        have hksl : ks.length ≤ 8 := Nat.le_trans (few_len n ks nd fun x hx => by
          obtain ⟨j, _, hj⟩ := List.mem_flatMap.mp ((hk x).mp hx)
          cases eo : other[j.toNat]? with
          | none => rw [eo] at hj; simp at hj
          | some r => rw [eo] at hj; exact ho.bnd r (List.mem_of_getElem? eo) x hj) hn
        have e1 := dcF_ints (vs := [6]) (tg := mNm 6) (tk := e_composed_1) (tv := e_composed_2) (δ0 := [some (.d one), some (.d (encRl other)), some (.con (.lst found)), o3, some (.con (.dct (dctI ks))), some (.d (.int i)), none]) (M := M') row [] (fun j _ => ⟨[some (.d one), some (.d (encRl other)), some (.con (.lst found)), o3, some (.con (.dct (dctI ks))), some (.d (.int i)), some (.d (.int j))], _, _, rfl, rfl, rfl, rfl⟩)
        have hml : (row.foldl addI []).length ≤ 64 := by
          have := few_len n (row.foldl addI []) (adds_nd (by simp)) fun x hx => ho.bnd row hmem x (by simpa using adds_mem.mp hx)
          omega
        refine ⟨_, M', ?_, done ++ [i], (row.foldl addI []).foldl addI ks, some (.d (.int i)), p6, ⟨todo, by rw [ht]; simp, rfl⟩, rfl, rfl, adds_nd nd, fun x => ?_⟩
        · have e2 : mDc [6] i_composed_1 (mNm 6) (ret true) e_composed_1 e_composed_2 [some (.d one), some (.d (encRl other)), some (.con (.lst found)), o3, some (.con (.dct (dctI ks))), some (.d (.int i)), p6] M' = .ok (.con (.dct (dctI (row.foldl addI [])))) [some (.d one), some (.d (encRl other)), some (.con (.lst found)), o3, some (.con (.dct (dctI ks))), some (.d (.int i)), p6] M' := by
            have e3 : i_composed_1 [some (.d one), some (.d (encRl other)), some (.con (.lst found)), o3, some (.con (.dct (dctI ks))), some (.d (.int i)), p6] M' = .ok (row.map PyData.int) [some (.d one), some (.d (encRl other)), some (.con (.lst found)), o3, some (.con (.dct (dctI ks))), some (.d (.int i)), p6] M' := by
              simp [i_composed_1, hx, encRow]
            unfold mDc
            rw [bnd_ok e3]
            rw [if_pos (by rw [List.length_map]; omega)]
            have e4 : wipeE [some (.d one), some (.d (encRl other)), some (.con (.lst found)), o3, some (.con (.dct (dctI ks))), some (.d (.int i)), p6] [6] = [some (.d one), some (.d (encRl other)), some (.con (.lst found)), o3, some (.con (.dct (dctI ks))), some (.d (.int i)), none] := rfl
            rw [e4]
            have e5 : dctI [] = [] := rfl
            rw [e5] at e1
            rw [e1]
            rfl
          have e6 : fUpdate (dctI ks) [.dict (dctI (row.foldl addI []))] = some (dctI ((row.foldl addI []).foldl addI ks), .none) := by
            have h1 : (dctI ks).length = ks.length := by unfold dctI; rw [List.length_map]
            have h2 : (dctI (row.foldl addI [])).length = (row.foldl addI []).length := by unfold dctI; rw [List.length_map]
            show (if (dctI ks).length + (dctI (row.foldl addI [])).length ≤ 16000000 then some (mergeD (dctI ks) (dctI (row.foldl addI [])), PyData.none) else none) = _
            rw [h1, h2, if_pos (by omega), mergeD_dctI]
          simp [l_composed_1, e2, e6]
        · rw [adds_mem, adds_mem, hk x, List.flatMap_append]
          simp [er])
    (mids.map PyData.int) _ M ⟨[], [], o5, o6, ⟨mids, rfl, rfl⟩, rfl, rfl, by simp, by simp⟩
  obtain ⟨todo, ht, hds⟩ := hd
  have : todo = [] := by simpa using hds.symm
  subst this
  rw [List.append_nil] at ht
  subst ht
  refine ⟨ks, p5, p6, e, nd, Nat.le_trans (few_len n ks nd fun x hx => ?_) hn, hk⟩
  obtain ⟨j, _, hj⟩ := List.mem_flatMap.mp ((hk x).mp hx)
  cases eo : other[j.toNat]? with
  | none => rw [eo] at hj; simp at hj
  | some r => rw [eo] at hj; exact ho.bnd r (List.mem_of_getElem? eo) x hj
theorem comp_len {other : List (List Int)} {mids : List Int} {n : Nat} (ho : RowsOk n other) : (∀ x ∈ compRow other mids, 0 ≤ x ∧ x < n) ∧ (compRow other mids).length ≤ n := by
  have h : ∀ x ∈ compRow other mids, 0 ≤ x ∧ x < n := fun x hx => by
    unfold compRow at hx
    rw [mem_sortSet] at hx
    obtain ⟨j, _, hj⟩ := List.mem_flatMap.mp hx
    cases eo : other[j.toNat]? with
    | none => rw [eo] at hj; simp at hj
    | some r => rw [eo] at hj; exact ho.bnd r (List.mem_of_getElem? eo) x hj
  exact ⟨h, few_len n _ (sortSet_nd _) h⟩
theorem comp_ok {one other : List (List Int)} {n m : Nat} (hn : n ≤ 8) (h1 : RowsOk m one) (ho : RowsOk n other) : RowsOk n (compR one other) := by
  refine ⟨by unfold compR; rw [List.length_map]; exact h1.len, fun row hr => ?_, fun row hr => ?_⟩
  · obtain ⟨mids, _, rfl⟩ := List.mem_map.mp hr
    have := (comp_len (mids := mids) ho).2
    omega
  · obtain ⟨mids, _, rfl⟩ := List.mem_map.mp hr
    exact (comp_len (mids := mids) ho).1
theorem composed_eq {one other : List (List Int)} {n m : Nat} (hn : n ≤ 8) (h1 : RowsOk m one) (hm : m ≤ other.length) (ho : RowsOk n other) : g_composed [.d (encRl one), .d (encRl other)] M = .ok (.d (encRl (compR one other))) [] M := by
  obtain ⟨δ', M', e, done, p3, p4, p5, p6, hd, rfl, rfl⟩ := forF_spec (tg := mNm 3) (b := l_composed_2)
    (I := fun ds δ M' => ∃ (done : List (List Int)) (p3 p4 p5 p6 : Option T), (∃ todo : List (List Int), one = done ++ todo ∧ ds = todo.map encRow) ∧ δ = [some (.d (encRl one)), some (.d (encRl other)), some (.con (.lst ((compR done other).map encRow))), p3, p4, p5, p6] ∧ M' = M)
    (by
      rintro d ds δ M' ⟨done, p3, p4, p5, p6, ⟨todo, ht, hds⟩, rfl, rfl⟩
      cases todo with
      | nil => simp at hds
      | cons mids todo =>
        simp only [List.map_cons, List.cons.injEq] at hds
        obtain ⟨rfl, rfl⟩ := hds
        have hmem : mids ∈ one := by rw [ht]; simp
        obtain ⟨ks, q5, q6, e, nd, kl, hk⟩ := comp_mid (M := M') (one := encRl one) (other := other) (found := (compR done other).map encRow) (mids := mids) (o3 := some (.d (encRow mids))) (o5 := p5) (o6 := p6) hn ho (fun i hi => by
          have := h1.bnd mids hmem i hi
          omega) (Nat.le_trans (h1.few mids hmem) (by decide))
        have hf : fAppend ((compR done other).map encRow) [encRow (compRow other mids)] = some ((compR done other).map encRow ++ [encRow (compRow other mids)], .none) := by
          have hl : ((compR done other).map encRow).length < 16000000 := by
            have h8 := h1.len
            rw [ht] at h8
            simp [compR] at h8 ⊢
            omega
          show (if ((compR done other).map encRow).length < 16000000 then _ else _) = _
          rw [if_pos hl]
        have hs : sortI ks = compRow other mids := sortI_nd nd hk
        have hk2 := sortedK_dctI (ks := ks) (by omega)
        rw [hs] at hk2
        have hlen : ((compRow other mids).map PyData.int).length ≤ 16000000 := by
          have := (comp_len (mids := mids) ho).2
          rw [List.length_map]; omega
        refine ⟨_, M', ?_, done ++ [mids], some (.d (encRow mids)), some (.con (.dct (dctI ks))), q5, q6, ⟨todo, by rw [ht]; simp, rfl⟩, rfl, rfl⟩
        have a1 : mSet 4 mDct0 [some (.d (encRl one)), some (.d (encRl other)), some (.con (.lst ((compR done other).map encRow))), some (.d (encRow mids)), p4, p5, p6] M' = .ok .nx [some (.d (encRl one)), some (.d (encRl other)), some (.con (.lst ((compR done other).map encRow))), some (.d (encRow mids)), some (.con (.dct (dctI []))), p5, p6] M' := rfl
        have a2 : mFor (mSeqIt (mName 3)) (mNm 5) l_composed_1 [some (.d (encRl one)), some (.d (encRl other)), some (.con (.lst ((compR done other).map encRow))), some (.d (encRow mids)), some (.con (.dct (dctI []))), p5, p6] M' = .ok .nx [some (.d (encRl one)), some (.d (encRl other)), some (.con (.lst ((compR done other).map encRow))), some (.d (encRow mids)), some (.con (.dct (dctI ks))), q5, q6] M' := by
          simp [encRow, e] at e ⊢
        have a3 : mExpr (mMeth (mName 2) (mCons (bnd (mBlt (mBT fTuple) (mCons (mBlt (mBT fSortedK) (mCons (mName 4) mNil)) mNil)) mFrz) mNil) fAppend) [some (.d (encRl one)), some (.d (encRl other)), some (.con (.lst ((compR done other).map encRow))), some (.d (encRow mids)), some (.con (.dct (dctI ks))), q5, q6] M' = .ok .nx [some (.d (encRl one)), some (.d (encRl other)), some (.con (.lst ((compR (done ++ [mids]) other).map encRow))), some (.d (encRow mids)), some (.con (.dct (dctI ks))), q5, q6] M' := by
          have e9 : (compR (done ++ [mids]) other).map encRow = (compR done other).map encRow ++ [encRow (compRow other mids)] := by simp [compR]
          rw [e9]
          simp only [encRow] at hf ⊢
          simp [hk2, hf]
        have tg : ∀ F, mTgt (mNm 3 (.d (encRow mids))) F [some (.d (encRl one)), some (.d (encRl other)), some (.con (.lst ((compR done other).map encRow))), p3, p4, p5, p6] M' = F [some (.d (encRl one)), some (.d (encRl other)), some (.con (.lst ((compR done other).map encRow))), some (.d (encRow mids)), p4, p5, p6] M' := fun F => rfl
        exact (tg _).trans ((seq_nx a1).trans ((seq_nx a2).trans a3)))
    (one.map encRow) [some (.d (encRl one)), some (.d (encRl other)), some (.con (.lst [])), none, none, none, none] M ⟨[], none, none, none, none, ⟨one, rfl, rfl⟩, rfl, rfl⟩
  obtain ⟨todo, ht, hds⟩ := hd
  have : todo = [] := by simpa using hds.symm
  subst this
  rw [List.append_nil] at ht
  subst ht
  have a1 : mSet 2 (mLst mNil) [some (.d (encRl one)), some (.d (encRl other)), none, none, none, none, none] M' = .ok .nx [some (.d (encRl one)), some (.d (encRl other)), some (.con (.lst [])), none, none, none, none] M' := rfl
  have a2 : mFor (mSeqIt (mName 0)) (mNm 3) l_composed_2 [some (.d (encRl one)), some (.d (encRl other)), some (.con (.lst [])), none, none, none, none] M' = .ok .nx [some (.d (encRl one)), some (.d (encRl other)), some (.con (.lst ((compR one other).map encRow))), p3, p4, p5, p6] M' := for_ok (by simp [encRl]) e
  have a3 : ∃ δ', mRet (mBlt (mBT fTuple) (mCons (mName 2) mNil)) [some (.d (encRl one)), some (.d (encRl other)), some (.con (.lst ((compR one other).map encRow))), p3, p4, p5, p6] M' = .ok (.rt (.d (encRl (compR one other)))) δ' M' := by
    have hl : ((compR one other).map encRow).length ≤ 16000000 := by
      have := h1.len
      simp [compR]; omega
    simp [encRl]
  obtain ⟨δ', a3⟩ := a3
  exact body_rt ((seq_nx a1).trans ((seq_nx a2).trans a3))
/-! letter_relation -/
theorem letter_relation_eq {N X Y : Nat} {j : Jt} {x : Nat} (wf : WfJ N X Y j) (hx : x < X) : g_letter_relation [.d (encJ j), .d (.int (x : Int))] M = .ok (.d (encRl (letRel j x))) [] M := by
  have hl := wf.len
  have n8 := wf.n8
  have e := mLc_enc (vs := [2]) (g := i_letter_relation_2) (tg := mNm 2) (te := e_letter_relation_2) (δ := [some (.d (encJ j)), some (.d (.int (x : Int))), none, none]) (M := M) (enc := encS) (f := fun rows => encRow (sortSet (entsOf rows x))) (as := j) (δ1 := [some (.d (encJ j)), some (.d (.int (x : Int))), none, none]) (M1 := M) (by simp [i_letter_relation_2, encJ]) (by omega) (by
    intro rows hr
    obtain ⟨w1, w2⟩ := wf.rows rows hr
    have ex : rows[x]? = some (rows[x]'(by omega)) := List.getElem?_eq_getElem _
    generalize hrw : rows[x]'(by omega) = r at ex
    have hi := ix_S ex
    obtain ⟨b1, b2⟩ := wf.ents (x := x) hr
    have hrl : r.length ≤ 4 := by
      have := (w2 r (List.mem_of_getElem? ex)).1
      have := wf.y4
      omega
    have e1 := mLc_filter (vs := [3]) (g := i_letter_relation_1) (tg := mNm 3) (tt := t_letter_relation_1) (te := e_letter_relation_1) (B := notNo) (F := id) (δ := [some (.d (encJ j)), some (.d (.int (x : Int))), some (.d (encS rows)), none]) (M := M) (ds := r.map encE) (δ1 := [some (.d (encJ j)), some (.d (.int (x : Int))), some (.d (encS rows)), none]) (M1 := M) (by simp [i_letter_relation_1, hi, encR]) (by rw [List.length_map]; omega) (by
      intro d hd
      obtain ⟨o, ho, rfl⟩ := List.mem_map.mp hd
      refine ⟨[some (.d (encJ j)), some (.d (.int (x : Int))), some (.d (encS rows)), some (.d (encE o))], [some (.d (encJ j)), some (.d (.int (x : Int))), some (.d (encS rows)), some (.d (encE o))], rfl, ?_, fun _ => rfl, fun _ => ⟨[some (.d (encJ j)), some (.d (.int (x : Int))), some (.d (encS rows)), some (.d (encE o))], ?_, rfl⟩⟩
      · cases o <;> simp [t_letter_relation_1, encE, notNo]
      · cases o <;> simp [e_letter_relation_1, encE])
    rw [ents_enc] at e1
    have e2 : entsR r = entsOf rows x := by unfold entsOf; rw [ex]; rfl
    rw [e2] at e1
    have e3 := sortSet_ok (ns := entsOf rows x) n8 b1 (by omega)
    have hsl : ((sortSet (entsOf rows x)).map PyData.int).length ≤ 16000000 := by
      have := few_len N _ (sortSet_nd (entsOf rows x)) fun i hi => b1 i (mem_sortSet.mp hi)
      rw [List.length_map]; omega
    refine ⟨[some (.d (encJ j)), some (.d (.int (x : Int))), some (.d (encS rows)), none], [some (.d (encJ j)), some (.d (.int (x : Int))), some (.d (encS rows)), none], rfl, ?_, rfl⟩
    have e4 : mergeE [some (.d (encJ j)), some (.d (.int (x : Int))), some (.d (encS rows)), none] (wipeE [some (.d (encJ j)), some (.d (.int (x : Int))), some (.d (encS rows)), none] [3]) [3] = [some (.d (encJ j)), some (.d (.int (x : Int))), some (.d (encS rows)), none] := rfl
    rw [e4] at e1
    simp [e_letter_relation_2, e1, e3, encRow])
  have e5 : j.map (fun rows => encRow (sortSet (entsOf rows x))) = (letRel j x).map encRow := by unfold letRel; rw [List.map_map]; rfl
  rw [e5] at e
  have hll : ((letRel j x).map encRow).length ≤ 16000000 := by simp [letRel]; omega
  simp [g_letter_relation, m_letter_relation, e, encRl]
theorem letRel_ok {N X Y : Nat} {j : Jt} {x : Nat} (wf : WfJ N X Y j) : RowsOk N (letRel j x) := by
  have h : ∀ row ∈ letRel j x, (∀ i ∈ row, 0 ≤ i ∧ i < (N : Int)) ∧ row.length ≤ N := fun row hr => by
    obtain ⟨rows, hj, rfl⟩ := List.mem_map.mp hr
    have h1 : ∀ i ∈ sortSet (entsOf rows x), 0 ≤ i ∧ i < (N : Int) := fun i hi => (wf.ents hj).1 i (mem_sortSet.mp hi)
    exact ⟨h1, few_len N _ (sortSet_nd _) h1⟩
  have := wf.len
  have := wf.n8
  exact ⟨by unfold letRel; rw [List.length_map]; omega, fun row hr => by have := (h row hr).2; omega, fun row hr => (h row hr).1⟩
theorem reachR_ok {N X Y : Nat} {j : Jt} {w : List Nat} (wf : WfJ N X Y j) : RowsOk N (reachR j w) := by
  have hl := wf.len
  have n8 := wf.n8
  have h : ∀ row ∈ reachR j w, (∀ i ∈ row, 0 ≤ i ∧ i < (N : Int)) ∧ row.length ≤ N := fun row hr => by
    obtain ⟨s, hs, rfl⟩ := List.mem_map.mp hr
    have hs' := List.mem_range.mp hs
    have h1 := foldW_bnd wf w [(s : Int)] fun i hi => by rw [List.mem_singleton.mp hi]; omega
    have h2 : (foldW j w [(s : Int)]).Nodup := (foldW_lt j w [(s : Int)] (by simp)).imp fun h => Int.ne_of_lt h
    exact ⟨h1, few_len N _ h2 h1⟩
  exact ⟨by unfold reachR; rw [List.length_map, List.length_range]; omega, fun row hr => by have := (h row hr).2; omega, fun row hr => (h row hr).1⟩
/-! relation_of -/
theorem relation_of_eq {N X Y : Nat} {j : Jt} {w : List Nat} (wf : WfJ N X Y j) (hw : ∀ x ∈ w, x < X) : g_relation_of [.d (encJ j), .d (encW w)] M = .ok (.d (encRl (reachR j w))) [] M := by
  have hjl := wf.len
  have n8 := wf.n8
  have e0 : fLen [encJ j] = some (.int (N : Nat)) := by rw [len_J, wf.len]
  have s8 : small62 (N : Int) = true := rng8 N (by omega)
  have e1 := mLc_enc (vs := [4]) (g := i_relation_of_1) (tg := mNm 4) (te := e_relation_of_1) (δ := [some (.d (encJ j)), some (.d (encW w)), none, none, none]) (M := M) (enc := fun k : Nat => PyData.int (0 + (k : Int))) (f := fun k : Nat => encRow [(k : Int)]) (as := List.range N) (δ1 := [some (.d (encJ j)), some (.d (encW w)), none, none, none]) (M1 := M) (by simp [i_relation_of_1, e0, s8]) (by rw [List.length_range]; omega) (by
    intro k hk
    refine ⟨[some (.d (encJ j)), some (.d (encW w)), none, none, some (.d (.int (0 + (k : Int))))], [some (.d (encJ j)), some (.d (encW w)), none, none, some (.d (.int (0 + (k : Int))))], rfl, ?_, rfl⟩
    simp [e_relation_of_1, encRow])
  have e2 : (List.range N).map (fun k : Nat => encRow [(k : Int)]) = (reachR j []).map encRow := by rw [reachR_nil, List.map_map, hjl]; rfl
  rw [e2] at e1
  have hrl : ((reachR j []).map encRow).length ≤ 16000000 := by rw [List.length_map]; have := (reachR_ok (w := []) wf).len; omega
  have a1 : mSet 2 (mBlt (mBT fTuple) (mCons (mLc [4] i_relation_of_1 (mNm 4) (ret true) e_relation_of_1) mNil)) [some (.d (encJ j)), some (.d (encW w)), none, none, none] M = .ok .nx [some (.d (encJ j)), some (.d (encW w)), some (.d (encRl (reachR j []))), none, none] M := by
    have e3 : mergeE [some (.d (encJ j)), some (.d (encW w)), none, none, none] (wipeE [some (.d (encJ j)), some (.d (encW w)), none, none, none] [4]) [4] = [some (.d (encJ j)), some (.d (encW w)), none, none, none] := rfl
    rw [e3] at e1
    simp [e1, encRl]
  obtain ⟨δ', M', e, done, p3, hd, rfl, rfl⟩ := forF_spec (tg := mNm 3) (b := l_relation_of_1)
    (I := fun ds δ M' => ∃ (done : List Nat) (p3 : Option T), (∃ todo : List Nat, w = done ++ todo ∧ ds = todo.map fun x : Nat => PyData.int (x : Int)) ∧ δ = [some (.d (encJ j)), some (.d (encW w)), some (.d (encRl (reachR j done))), p3, none] ∧ M' = M)
    (by
      rintro d ds δ M' ⟨done, p3, ⟨todo, ht, hds⟩, rfl, rfl⟩
      cases todo with
      | nil => simp at hds
      | cons x todo =>
        simp only [List.map_cons, List.cons.injEq] at hds
        obtain ⟨rfl, rfl⟩ := hds
        have e4 := letter_relation_eq (M := M') (x := x) wf (hw x (by rw [ht]; simp))
        have e5 := composed_eq (M := M') (one := reachR j done) (other := letRel j x) (n := N) (m := N) n8 (reachR_ok wf) (by unfold letRel; rw [List.length_map, hjl]; exact Nat.le_refl _) (letRel_ok wf)
        rw [reachR_snoc] at e5
        refine ⟨_, M', ?_, done ++ [x], some (.d (.int (x : Int))), ⟨todo, by rw [ht]; simp, rfl⟩, rfl, rfl⟩
        simp [l_relation_of_1, e4, e5])
    (w.map fun x : Nat => PyData.int (x : Int)) [some (.d (encJ j)), some (.d (encW w)), some (.d (encRl (reachR j []))), none, none] M ⟨[], none, ⟨w, rfl, rfl⟩, rfl, rfl⟩
  obtain ⟨todo, ht, hds⟩ := hd
  have : todo = [] := by simpa using hds.symm
  subst this
  rw [List.append_nil] at ht
  subst ht
  have a2 : mFor (mSeqIt (mName 1)) (mNm 3) l_relation_of_1 [some (.d (encJ j)), some (.d (encW w)), some (.d (encRl (reachR j []))), none, none] M' = .ok .nx [some (.d (encJ j)), some (.d (encW w)), some (.d (encRl (reachR j w))), p3, none] M' := for_ok (by simp [encW]) e
  have a3 : ∃ δ', mRet (mName 2) [some (.d (encJ j)), some (.d (encW w)), some (.d (encRl (reachR j w))), p3, none] M' = .ok (.rt (.d (encRl (reachR j w)))) δ' M' := by simp
  obtain ⟨δ', a3⟩ := a3
  exact body_rt ((seq_nx a1).trans ((seq_nx a2).trans a3))
/-! is_row -/
def isRow (N count : Int) : D → Bool
  | .tuple [a, b, c] => inIx N a && (inIx count b && inIx count c)
  | _ => false
theorem is_row_eq {N X Y : Nat} {j : Jt} {v : D} {count : Int} (w : WfJ N X Y j) : g_is_row [.d (encJ j), .d (.int count), .d v] M = .ok (.d (.bool (isRow N count v))) [] M := by
  have hJ : fLen [encJ j] = some (.int (N : Int)) := by rw [len_J, w.len]
  have sh : ∀ xs : List D, fLen [.tuple xs] = some (.int (xs.length : Nat)) := fun xs => by simp [fLen]
  have no : ∀ v : D, (∀ a b c, v ≠ .tuple [a, b, c]) → isRow N count v = false := fun v h => by
    unfold isRow
    split
    · exact absurd rfl (h _ _ _)
    · rfl
  cases v with
  | tuple xs =>
    by_cases h3 : xs.length = 3
    · match xs, h3 with
      | [a, b, c], _ =>
        have e1 := is_integer_eq (M := M) (v := a) (n := (N : Int))
        have e2 := is_integer_eq (M := M) (v := b) (n := count)
        have e3 := is_integer_eq (M := M) (v := c) (n := count)
        have i0 : fIx (.tuple [a, b, c]) (.int 0) = some (.d a) := rfl
        have i1 : fIx (.tuple [a, b, c]) (.int 1) = some (.d b) := rfl
        have i2 : fIx (.tuple [a, b, c]) (.int 2) = some (.d c) := rfl
        have l3 : fLen [.tuple [a, b, c]] = some (.int 3) := rfl
        show _ = Res.ok (T.d (.bool (inIx N a && (inIx count b && inIx count c)))) [] M
        have hB : isB "tuple" (.tuple [a, b, c]) = true := rfl
        generalize PyData.tuple [a, b, c] = t at *
        cases h1 : inIx (N : Int) a with
        | false =>
          rw [h1] at e1
          refine body_rt (δ' := [some (.d (encJ j)), some (.d (.int count)), some (.d t)]) (seq_rt ?_)
          simp [hB, l3, i0, hJ, e1]
        | true =>
          rw [h1] at e1
          refine body_gen ⟨[some (.d (encJ j)), some (.d (.int count)), some (.d t)], ?_⟩
          refine seq_gen ⟨?_, ?_, ?_, ?_⟩
          rotate_left 2
          · (conv => lhs; simp [hB, l3, i0, hJ, e1]); try exact rfl
          cases h2 : inIx count b <;> rw [h2] at e2 <;> simp [i1, e2, i2, e3]
    · have hi : ((xs.length : Int) == 3) = false := by rw [beq_eq_false_iff_ne]; omega
      rw [no _ fun a b c e => by cases e; exact h3 rfl]
      refine body_rt (δ' := ([some (T.d (encJ j)), some (T.d (.int count)), some (T.d (.tuple xs))] : DL.Env)) (seq_rt ?_)
      simp [isB, sh, hi]
  | _ =>
    rw [no _ fun a b c e => by cases e]
    refine body_gen ⟨?_, ?_⟩
    rotate_left 1
    · refine seq_rt ?_
      (conv => lhs; simp [isB])
      try exact rfl
/-! is_block -/
def isWordM (m : Nat) (n : Int) : D → Bool
  | .tuple xs => decide (xs.length ≤ m) && xs.all (inIx n)
  | _ => false
theorem is_wordm_eq {v : D} {n : Int} {m : Nat} (hm : m ≤ 1000000) : g_is_word [.d v, .d (.int n), .d (.int (m : Int))] M = .ok (.d (.bool (isWordM m n v))) [] M := by
  cases v with
  | tuple xs =>
    have l1 : fLen [.tuple xs] = some (.int (xs.length : Nat)) := by simp [fLen]
    by_cases hl : xs.length ≤ m
    · have e := mLc_map (vs := [3]) (g := i_is_word_1) (tg := mNm 3) (te := e_is_word_1) (F := fun d => PyData.bool (inIx n d)) (δ := [some (.d (.tuple xs)), some (.d (.int n)), some (.d (.int m)), none]) (M := M) (ds := xs) (δ1 := [some (.d (.tuple xs)), some (.d (.int n)), some (.d (.int m)), none]) (M1 := M) (by simp [i_is_word_1]) (by omega) (by
        intro d hd
        refine ⟨[some (.d (.tuple xs)), some (.d (.int n)), some (.d (.int m)), some (.d d)], [some (.d (.tuple xs)), some (.d (.int n)), some (.d (.int m)), some (.d d)], rfl, ?_, rfl⟩
        simp [e_is_word_1, is_integer_eq])
      have e : mLc [3] i_is_word_1 (mNm 3) (ret true) e_is_word_1 [some (.d (.tuple xs)), some (.d (.int n)), some (.d (.int m)), none] M = .ok (.con (.lst (xs.map fun d => PyData.bool (inIx n d)))) [some (.d (.tuple xs)), some (.d (.int n)), some (.d (.int m)), none] M := e
      have hc : ¬ m < xs.length := by omega
      have hr : isWordM m n (.tuple xs) = xs.all (inIx n) := by
        show (decide _ && _) = _
        rw [decide_eq_true hl]; rfl
      rw [hr]
      have z := all_map (p := inIx n) (xs := xs)
      refine body_gen ⟨?_, ?_⟩
      rotate_left 1
      refine seq_gen ⟨?_, ?_, ?_, ?_⟩
      rotate_left 2
      · (conv => lhs; simp [isB, l1, hc]); try exact rfl
      (conv => lhs; simp [e, z])
      try exact rfl
    · have hc : m < xs.length := by omega
      have hr : isWordM m n (.tuple xs) = false := by
        show (decide _ && _) = _
        rw [decide_eq_false hl]; rfl
      rw [hr]
      refine body_rt (δ' := [some (.d (.tuple xs)), some (.d (.int n)), some (.d (.int m)), none]) (seq_rt ?_)
      simp [isB, l1, hc]
  | _ => simp [g_is_word, m_is_word, isB, isWordM]
def natsD (d : D) : List Nat := match d with
  | .tuple xs => xs.map fun d => match d with | .int i => i.toNat | _ => 0
  | _ => []
theorem nats_enc {o : List Nat} : natsD (encW o) = o := by
  unfold natsD encW
  simp only [List.map_map]
  conv => rhs; rw [← List.map_id o]
  exact List.map_congr_left fun x _ => by simp
theorem isWordM_enc {n m : Nat} {v : D} (h : isWordM m n v = true) : ∃ o : List Nat, v = encW o ∧ (∀ y ∈ o, y < n) ∧ o.length ≤ m := by
  cases v with
  | tuple xs =>
    simp only [isWordM, Bool.and_eq_true, decide_eq_true_eq, List.all_eq_true] at h
    obtain ⟨h1, h2⟩ := h
    have key : ∀ xs : List D, (∀ x ∈ xs, inIx (n : Int) x = true) → ∃ o : List Nat, xs = o.map (fun x : Nat => PyData.int (x : Int)) ∧ ∀ y ∈ o, y < n := fun xs => by
      induction xs with
      | nil => exact fun _ => ⟨[], rfl, fun _ h => nomatch h⟩
      | cons x xs ih =>
        intro h
        obtain ⟨o, e, ho⟩ := ih fun y hy => h y (List.mem_cons_of_mem _ hy)
        obtain ⟨i, ei, hi⟩ := inIx_true (h x List.mem_cons_self)
        refine ⟨i :: o, by rw [ei, e]; rfl, fun y hy => ?_⟩
        rcases List.mem_cons.mp hy with rfl | hy
        · exact hi
        · exact ho y hy
    obtain ⟨o, e, ho⟩ := key xs h2
    exact ⟨o, by rw [e]; rfl, ho, by rw [e, List.length_map] at h1; exact h1⟩
  | _ => cases h
theorem eqv_intsI : ∀ a b : List Int, PyData.eqvAll (a.map PyData.int) (b.map PyData.int) = decide (a = b)
  | [], [] => by simp [PyData.eqvAll]
  | [], _ :: _ => by simp [PyData.eqvAll]
  | _ :: _, [] => by simp [PyData.eqvAll]
  | x :: a, y :: b => by
    simp only [List.map_cons, PyData.eqvAll, eqv_intsI a b, PyData.eqv]
    rw [Bool.eq_iff_iff]
    simp only [Bool.and_eq_true, beq_iff_eq, decide_eq_true_eq, List.cons.injEq]
theorem eqv_rows : ∀ a b : List (List Int), PyData.eqvAll (a.map encRow) (b.map encRow) = decide (a = b)
  | [], [] => by simp [PyData.eqvAll]
  | [], _ :: _ => by simp [PyData.eqvAll]
  | _ :: _, [] => by simp [PyData.eqvAll]
  | x :: a, y :: b => by
    have h : PyData.eqv (encRow x) (encRow y) = decide (x = y) := by
      rw [← eqv_intsI x y]; simp [encRow, PyData.eqv]
    simp only [List.map_cons, PyData.eqvAll, eqv_rows a b, h]
    rw [Bool.eq_iff_iff]
    simp only [Bool.and_eq_true, decide_eq_true_eq, List.cons.injEq]
theorem rl_fEq {a b : List (List Int)} : fEq (encRl a) (encRl b) = some (.bool (decide (a = b))) := by
  have hi : ∀ a : List Int, PyData.plainAll (a.map PyData.int) = true ∧ PyData.depthAll (a.map PyData.int) = 0 := fun a => by
    induction a with
    | nil => exact ⟨rfl, rfl⟩
    | cons x a ih => simp [PyData.plainAll, PyData.plain, PyData.depthAll, PyData.depth, ih]
  have hp : ∀ a : List (List Int), PyData.plainAll (a.map encRow) = true ∧ PyData.depthAll (a.map encRow) ≤ 1 := fun a => by
    induction a with
    | nil => exact ⟨rfl, by simp [PyData.depthAll]⟩
    | cons x a ih =>
      obtain ⟨h1, h2⟩ := ih
      obtain ⟨g1, g2⟩ := hi x
      have d1 : (encRow x).depth = 1 := by simp [encRow, PyData.depth, g2]
      refine ⟨by simp [PyData.plainAll, encRow, PyData.plain, g1, h1], ?_⟩
      rw [List.map_cons, PyData.depthAll, d1]; omega
  have ok : eqOk (encRl a) (encRl b) = true := by
    unfold eqOk
    rw [show (encRl a).plain = true from (hp a).1, show (encRl b).plain = true from (hp b).1, Bool.true_and, Bool.true_and, decide_eq_true_eq]
    refine Nat.le_trans (Nat.min_le_left _ _) ?_
    show PyData.depthAll _ + 1 ≤ 64
    have := (hp a).2
    omega
  unfold fEq
  rw [if_pos ok, show PyData.eqv (encRl a) (encRl b) = decide (a = b) from by rw [← eqv_rows a b]; simp [encRl, PyData.eqv]]
theorem eq_nilW {p : List Nat} : fEq (encW p) (.tuple []) = some (.bool p.isEmpty) := by
  cases p with
  | nil => simp [encW, fEq, eqOk, PyData.plain, PyData.plainAll, PyData.depth, PyData.depthAll, PyData.eqv, PyData.eqvAll]
  | cons a l => simp [encW, fEq, eqOk, PyData.plain, PyData.plainAll, PyData.depth, PyData.depthAll, PyData.eqv, PyData.eqvAll, plain_nats]
def isBlk (j : Jt) (X : Nat) : D → Bool
  | .tuple [u, p, q] => isWordM 2000 X u && (isWordM 2000 X p && isWordM 2000 X q) && (!(natsD p).isEmpty && decide (reachR j (natsD u) = reachR j (natsD u ++ natsD p)))
  | _ => false
theorem is_block_eq {N X Y : Nat} {j : Jt} {v : D} (w : WfJ N X Y j) : g_is_block [.d (encJ j), .d v] M = .ok (.d (.bool (isBlk j X v))) [] M := by
  have sh : ∀ xs : List D, fLen [.tuple xs] = some (.int (xs.length : Nat)) := fun xs => by simp [fLen]
  have no : ∀ v : D, (∀ a b c, v ≠ .tuple [a, b, c]) → isBlk j X v = false := fun v h => by
    unfold isBlk
    split
    · exact absurd rfl (h _ _ _)
    · rfl
  cases v with
  | tuple xs =>
    by_cases h3 : xs.length = 3
    · match xs, h3 with
      | [u, p, q], _ =>
        have ic : ∀ M : Mem, g_input_count [.d (encJ j)] M = .ok (.d (.int (X : Int))) [] M := fun M => input_count_eq w
        have iw : ∀ d : D, g_is_word [.d d, .d (.int (X : Int)), .d (.int 2000)] M = .ok (.d (.bool (isWordM 2000 X d))) [] M := fun d => is_wordm_eq (m := 2000) (by decide)
        have i0 : fIx (.tuple [u, p, q]) (.int 0) = some (.d u) := rfl
        have i1 : fIx (.tuple [u, p, q]) (.int 1) = some (.d p) := rfl
        have l3 : fLen [.tuple [u, p, q]] = some (.int 3) := rfl
        have hB : isB "tuple" (.tuple [u, p, q]) = true := rfl
        have c1 := mLc_map (vs := [2]) (g := i_is_block_1) (tg := mNm 2) (te := e_is_block_1) (F := fun d => PyData.bool (isWordM 2000 X d)) (δ := [some (.d (encJ j)), some (.d (.tuple [u, p, q])), none]) (M := M) (ds := [u, p, q]) (δ1 := [some (.d (encJ j)), some (.d (.tuple [u, p, q])), none]) (M1 := M) (by simp [i_is_block_1]) (by simp) (fun d hd => ⟨[some (.d (encJ j)), some (.d (.tuple [u, p, q])), some (.d d)], [some (.d (encJ j)), some (.d (.tuple [u, p, q])), some (.d d)], rfl, by simp [e_is_block_1, ic, iw], rfl⟩)
        replace c1 : mLc [2] i_is_block_1 (mNm 2) (ret true) e_is_block_1 [some (.d (encJ j)), some (.d (.tuple [u, p, q])), none] M = .ok (.con (.lst ([u, p, q].map fun d => PyData.bool (isWordM 2000 X d)))) [some (.d (encJ j)), some (.d (.tuple [u, p, q])), none] M := c1
        have z1 := all_map (p := isWordM 2000 X) (xs := [u, p, q])
        have za : [u, p, q].all (isWordM 2000 X) = (isWordM 2000 X u && (isWordM 2000 X p && isWordM 2000 X q)) := by simp [List.all_cons]
        rw [za] at z1
        show _ = Res.ok (T.d (.bool ((isWordM 2000 X u && (isWordM 2000 X p && isWordM 2000 X q)) && (!(natsD p).isEmpty && decide (reachR j (natsD u) = reachR j (natsD u ++ natsD p)))))) [] M
        generalize [u, p, q].map (fun d => PyData.bool (isWordM 2000 X d)) = bs at *
        generalize PyData.tuple [u, p, q] = t at *
        cases hw : (isWordM 2000 X u && (isWordM 2000 X p && isWordM 2000 X q)) with
        | false =>
          rw [hw] at z1
          refine body_gen ⟨[some (.d (encJ j)), some (.d t), none], ?_⟩
          refine seq_gen ⟨?_, ?_, ?_, ?_⟩
          rotate_left 2
          · (conv => lhs; simp [hB, l3]); try exact rfl
          exact seq_rt (by simp [c1, z1])
        | true =>
          rw [hw] at z1
          simp only [Bool.and_eq_true] at hw
          obtain ⟨u, rfl, hu, lu⟩ := isWordM_enc hw.1
          obtain ⟨p, rfl, hp, lp⟩ := isWordM_enc hw.2.1
          rw [nats_enc, nats_enc]
          have ep := eq_nilW (p := p)
          have r1 := relation_of_eq (M := M) w hu
          have r2 := relation_of_eq (M := M) (w := u ++ p) w (fun x hx => (List.mem_append.mp hx).elim (hu x) (hp x))
          have ad : fAdd (encW u) (encW p) = some (.d (encW (u ++ p))) := by
            show fAdd (.tuple _) (.tuple _) = _
            rw [e_addT (by simp; omega)]
            unfold encW
            rw [List.map_append]
          have rq := rl_fEq (a := reachR j u) (b := reachR j (u ++ p))
          generalize encRl (reachR j u) = R1 at *
          generalize encRl (reachR j (u ++ p)) = R2 at *
          generalize encW (u ++ p) = UP at *
          generalize encW u = U at *
          generalize encW p = P at *
          cases hpe : p.isEmpty with
          | true =>
            rw [hpe] at ep
            refine body_gen ⟨[some (.d (encJ j)), some (.d t), none], ?_⟩
            refine seq_gen ⟨?_, ?_, ?_, ?_⟩
            rotate_left 2
            · (conv => lhs; simp [hB, l3]); try exact rfl
            exact seq_rt (by simp [c1, z1, i1, ep])
          | false =>
            rw [hpe] at ep
            refine body_gen ⟨[some (.d (encJ j)), some (.d t), none], ?_⟩
            refine seq_gen ⟨?_, ?_, ?_, ?_⟩
            rotate_left 2
            · (conv => lhs; simp [hB, l3]); try exact rfl
            refine seq_gen ⟨?_, ?_, ?_, ?_⟩
            rotate_left 2
            · (conv => lhs; simp [c1, z1, i1, ep]); try exact rfl
            (conv => lhs; simp [i0, i1, r1, ad, r2, rq])
            try exact rfl
    · have hi : ((xs.length : Int) == 3) = false := by rw [beq_eq_false_iff_ne]; omega
      rw [no _ fun a b c e => by cases e; exact h3 rfl]
      refine body_rt (δ' := ([some (T.d (encJ j)), some (T.d (.tuple xs)), none] : DL.Env)) (seq_rt ?_)
      simp [isB, sh, hi]
  | _ =>
    rw [no _ fun a b c e => by cases e]
    refine body_gen ⟨?_, ?_⟩
    rotate_left 1
    · refine seq_rt ?_
      (conv => lhs; simp [isB])
      try exact rfl
/-! are_rows_kept -/
def keyK (a b : Int) : NestedKey := .tup [.num a, .num b]
theorem nk2 {a b : Int} : nkT (.tuple [.int a, .int b]) = some (keyK a b) := rfl
theorem nkO2 {a b : Int} : nkO (.tuple [.int a, .int b]) = some (keyK a b) := rfl
theorem key_inj {a b c d : Int} : some (keyK a b) = some (keyK c d) ↔ (a, b) = (c, d) := by
  simp [keyK]
def encKn (L : List (Int × Int)) : List (D × D) := L.map fun p => (.tuple [.int p.1, .int p.2], .bool true)
theorem look_kn {a b : Int} : ∀ {L : List (Int × Int)}, (lookN (keyK a b) (encKn L)).isSome = decide ((a, b) ∈ L)
  | [] => by simp [lookN, encKn]
  | (c, d) :: L => by
    have ih := look_kn (a := a) (b := b) (L := L)
    unfold lookN at ih ⊢
    show ((List.find? _ ((.tuple [.int c, .int d], .bool true) :: encKn L)).map _).isSome = _
    by_cases h : (c, d) = (a, b)
    · have hk : decide (nkO (.tuple [.int c, .int d]) = some (keyK a b)) = true := decide_eq_true (by rw [nkO2]; exact key_inj.mpr h)
      rw [List.find?_cons_of_pos (by exact hk)]
      rw [h]; simp
    · have hk : decide (nkO (.tuple [.int c, .int d]) = some (keyK a b)) = false := decide_eq_false (by rw [nkO2]; exact fun e => h (key_inj.mp e))
      rw [List.find?_cons_of_neg (by simpa using hk), ih]
      have : (a, b) ≠ (c, d) := fun e => h e.symm
      simp [this]
def addK (p : Int × Int) (L : List (Int × Int)) : List (Int × Int) := if p ∈ L then L else L ++ [p]
theorem put_kn {a b : Int} {L : List (Int × Int)} : putN (keyK a b) (.tuple [.int a, .int b]) (.bool true) (encKn L) = encKn (addK (a, b) L) := by
  have hany : ((encKn L).any fun p => decide (nkO p.1 = some (keyK a b))) = decide ((a, b) ∈ L) := by
    unfold encKn
    rw [List.any_map, Bool.eq_iff_iff, List.any_eq_true, decide_eq_true_eq]
    constructor
    · rintro ⟨p, hp, h⟩
      have h : nkO (.tuple [.int p.1, .int p.2]) = some (keyK a b) := by simpa using h
      rw [nkO2] at h
      have := key_inj.mp h
      rw [← this]; exact hp
    · intro h
      exact ⟨(a, b), h, by simp [nkO2]⟩
  unfold putN addK
  rw [hany]
  by_cases h : (a, b) ∈ L
  · rw [if_pos (decide_eq_true h), if_pos h]
    unfold encKn
    rw [List.map_map]
    refine List.map_congr_left fun p _ => ?_
    show (if _ then _ else _) = _
    split <;> rfl
  · rw [if_neg (by rw [decide_eq_false h]; simp), if_neg h]
    unfold encKn
    rw [List.map_append]; rfl
/-- the rows are kept by those ahead of them -/
def kept (rels : List (List (List Int))) : List (Nat × Nat × Nat) → List (Int × Int) → Bool
  | [], _ => true
  | (s, n, f) :: r, L => (((rels[n]?.getD [])[s]?.getD []).all fun t => decide ((t, (f : Int)) ∈ L)) && kept rels r (addK ((s : Int), (n : Int)) L)
def encRw (r : Nat × Nat × Nat) : D := .tuple [.int (r.1 : Int), .int (r.2.1 : Int), .int (r.2.2 : Int)]
theorem addK_len (p : Int × Int) (L : List (Int × Int)) : (addK p L).length ≤ L.length + 1 := by
  unfold addK
  split <;> simp
theorem row_kept {rels : List (List (List Int))} {r : Nat × Nat × Nat} {rel : List (List Int)} {row : List Int} {L : List (Int × Int)} {a0 a1 a2 o5 o6 o7 : Option T} (h1 : rels[r.2.1]? = some rel) (h2 : rel[r.1]? = some row) (hr : row.length ≤ 1000) (hl : L.length < 16000000) :
    ((row.all fun t => decide ((t, (r.2.2 : Int)) ∈ L)) = true → mTgt (mGt 3 (mGc (mNm 5) (mGc (mNm 6) (mGc (mNm 7) mGn))) (.d (encRw r))) l_are_rows_kept_1 [a0, a1, a2, some (.con (.lst (rels.map encRl))), some (.con (.dcn (encKn L))), o5, o6, o7, none, none] M = .ok .nx [a0, a1, a2, some (.con (.lst (rels.map encRl))), some (.con (.dcn (encKn (addK ((r.1 : Int), (r.2.1 : Int)) L)))), some (.d (.int (r.1 : Int))), some (.d (.int (r.2.1 : Int))), some (.d (.int (r.2.2 : Int))), none, none] M) ∧
    ((row.all fun t => decide ((t, (r.2.2 : Int)) ∈ L)) = false → ∃ δ', mTgt (mGt 3 (mGc (mNm 5) (mGc (mNm 6) (mGc (mNm 7) mGn))) (.d (encRw r))) l_are_rows_kept_1 [a0, a1, a2, some (.con (.lst (rels.map encRl))), some (.con (.dcn (encKn L))), o5, o6, o7, none, none] M = .ok (.rt (.d (.bool false))) δ' M) := by
  obtain ⟨s, n, f⟩ := r
  simp only at h1 h2 ⊢
  have i1 : fIx (.list (rels.map encRl)) (.int (n : Int)) = some (.d (encRl rel)) := by
    show (atI _ (n : Int)).map T.d = _
    rw [atI_mapN h1]; rfl
  have i2 : fIx (encRl rel) (.int (s : Int)) = some (.d (encRow row)) := by
    show (atI (rel.map encRow) (s : Int)).map T.d = _
    rw [atI_mapN h2]; rfl
  have hlen : (encKn L).length < 16000000 := by unfold encKn; rw [List.length_map]; exact hl
  have lk : ∀ t : Int, (lookN (keyK t (f : Int)) (encKn L)).isSome = decide ((t, (f : Int)) ∈ L) := fun t => look_kn
  have pk : putN (keyK (s : Int) (n : Int)) (.tuple [.int (s : Int), .int (n : Int)]) (.bool true) (encKn L) = encKn (addK ((s : Int), (n : Int)) L) := put_kn
  generalize encKn (addK ((s : Int), (n : Int)) L) = K2 at *
  generalize hK : encKn L = K1 at *
  generalize rels.map encRl = RL at *
  have c1 := mLc_enc (enc := PyData.int) (f := fun t : Int => PyData.bool (decide ((t, (f : Int)) ∈ L))) (vs := [9]) (g := i_are_rows_kept_1) (tg := mNm 9) (te := e_are_rows_kept_1) (as := row) (M := M) (M1 := M) (δ := [a0, a1, a2, some (.con (.lst RL)), some (.con (.dcn K1)), some (.d (.int (s : Int))), some (.d (.int (n : Int))), some (.d (.int (f : Int))), none, none]) (δ1 := [a0, a1, a2, some (.con (.lst RL)), some (.con (.dcn K1)), some (.d (.int (s : Int))), some (.d (.int (n : Int))), some (.d (.int (f : Int))), none, none]) (by simp [i_are_rows_kept_1, i1, i2, encRow]) (by omega) (fun t ht =>
    ⟨[a0, a1, a2, some (.con (.lst RL)), some (.con (.dcn K1)), some (.d (.int (s : Int))), some (.d (.int (n : Int))), some (.d (.int (f : Int))), none, some (.d (.int t))], [a0, a1, a2, some (.con (.lst RL)), some (.con (.dcn K1)), some (.d (.int (s : Int))), some (.d (.int (n : Int))), some (.d (.int (f : Int))), none, some (.d (.int t))], rfl, by simp [e_are_rows_kept_1, dnOf, conOf, nk2, lk], rfl⟩)
  replace c1 : mLc [9] i_are_rows_kept_1 (mNm 9) (ret true) e_are_rows_kept_1 [a0, a1, a2, some (.con (.lst RL)), some (.con (.dcn K1)), some (.d (.int (s : Int))), some (.d (.int (n : Int))), some (.d (.int (f : Int))), none, none] M = .ok (.con (.lst (row.map fun t => .bool (decide ((t, (f : Int)) ∈ L))))) [a0, a1, a2, some (.con (.lst RL)), some (.con (.dcn K1)), some (.d (.int (s : Int))), some (.d (.int (n : Int))), some (.d (.int (f : Int))), none, none] M := c1
  have z1 : fAll [.list (row.map fun t => PyData.bool (decide ((t, (f : Int)) ∈ L)))] = some (.bool (row.all fun t => decide ((t, (f : Int)) ∈ L))) := by
    have h : ∀ l : List Int, bools (l.map fun t => PyData.bool (decide ((t, (f : Int)) ∈ L))) = some (l.map fun t => decide ((t, (f : Int)) ∈ L)) := fun l => by
      induction l with
      | nil => rfl
      | cons a l ih => show (bools (l.map _)).map (decide ((a, (f : Int)) ∈ L) :: ·) = _; rw [ih]; rfl
    show (bools _).map (fun bs => PyData.bool (bs.all id)) = _
    rw [h, Option.map_some, List.all_map]; rfl
  generalize row.map (fun t => PyData.bool (decide ((t, (f : Int)) ∈ L))) = bs at *
  generalize (row.all fun t => decide ((t, (f : Int)) ∈ L)) = b at *
  constructor
  · rintro rfl
    simp [mTgt, encRw]
    unfold l_are_rows_kept_1
    refine seq_gen ⟨?_, ?_, ?_, ?_⟩
    rotate_left 2
    · (conv => lhs; simp [c1, z1]); try exact rfl
    (conv => lhs; simp [conOf, nk2, hlen, pk, mStoreN, putE, putM])
    try exact rfl
  · rintro rfl
    refine ⟨[a0, a1, a2, some (.con (.lst RL)), some (.con (.dcn K1)), some (.d (.int (s : Int))), some (.d (.int (n : Int))), some (.d (.int (f : Int))), none, none], ?_⟩
    simp [mTgt, encRw]
    unfold l_are_rows_kept_1
    exact seq_rt (by simp [c1, z1])
theorem reach_row {N X Y : Nat} {j : Jt} {w : List Nat} {s : Nat} (wf : WfJ N X Y j) (hs : s < N) : ∃ row, (reachR j w)[s]? = some row ∧ row.length ≤ 8 := by
  refine ⟨foldW j w [(s : Int)], ?_, ?_⟩
  · unfold reachR
    rw [List.getElem?_map, List.getElem?_range (by rw [wf.len]; exact hs)]; rfl
  · have hb := foldW_bnd wf w [(s : Int)] fun i hi => by rw [List.mem_singleton.mp hi]; omega
    have hl := foldW_lt j w [(s : Int)] (by simp)
    exact Nat.le_trans (few_len N _ (hl.imp fun z => Int.ne_of_lt z) hb) wf.n8
theorem forK_go {tg : T → Sm Unit} {b : Sm Fl} {d : D} {ds : List D} {δ δ1 : DL.Env} {M M1 : Mem} (e : mTgt (tg (.d d)) b δ M = .ok .nx δ1 M1) : forF tg b (d :: ds) δ M = forF tg b ds δ1 M1 := by
  conv => lhs; unfold forF
  unfold mTgt at e ⊢
  cases et : tg (.d d) δ M with
  | ok a δ2 M2 =>
    simp only [et] at e ⊢
    unfold bnd
    simp only [e]
  | ex a b c => simp only [et] at e; cases e
  | bad => simp only [et] at e; cases e
theorem forK_out {tg : T → Sm Unit} {b : Sm Fl} {d : D} {ds : List D} {r : T} {δ δ1 : DL.Env} {M M1 : Mem} (e : mTgt (tg (.d d)) b δ M = .ok (.rt r) δ1 M1) : forF tg b (d :: ds) δ M = .ok (.rt r) δ1 M1 := by
  conv => lhs; unfold forF
  unfold mTgt at e ⊢
  cases et : tg (.d d) δ M with
  | ok a δ2 M2 =>
    simp only [et] at e ⊢
    unfold bnd
    simp only [e]
    rfl
  | ex a b c => simp only [et] at e; cases e
  | bad => simp only [et] at e; cases e
theorem kept_loop {rels : List (List (List Int))} {N : Nat} {a0 a1 a2 : Option T} (hrel : ∀ rel ∈ rels, ∀ s < N, ∃ row, rel[s]? = some row ∧ row.length ≤ 8) : ∀ (rs : List (Nat × Nat × Nat)) (L : List (Int × Int)) (o5 o6 o7 : Option T), (∀ r ∈ rs, r.1 < N ∧ r.2.1 < rels.length) → L.length + rs.length ≤ 2000000 →
    (kept rels rs L = true → ∃ p4 p5 p6 p7, forF (mGt 3 (mGc (mNm 5) (mGc (mNm 6) (mGc (mNm 7) mGn)))) l_are_rows_kept_1 (rs.map encRw) [a0, a1, a2, some (.con (.lst (rels.map encRl))), some (.con (.dcn (encKn L))), o5, o6, o7, none, none] M = .ok .nx [a0, a1, a2, some (.con (.lst (rels.map encRl))), p4, p5, p6, p7, none, none] M) ∧
    (kept rels rs L = false → ∃ δ', forF (mGt 3 (mGc (mNm 5) (mGc (mNm 6) (mGc (mNm 7) mGn)))) l_are_rows_kept_1 (rs.map encRw) [a0, a1, a2, some (.con (.lst (rels.map encRl))), some (.con (.dcn (encKn L))), o5, o6, o7, none, none] M = .ok (.rt (.d (.bool false))) δ' M)
  | [], L, o5, o6, o7, _, _ => ⟨fun _ => ⟨_, _, _, _, rfl⟩, fun h => by simp [kept] at h⟩
  | r :: rs, L, o5, o6, o7, hr, hl => by
    obtain ⟨g1, g2⟩ := hr r List.mem_cons_self
    simp only [List.length_cons] at hl
    have e1 : rels[r.2.1]? = some (rels[r.2.1]'g2) := List.getElem?_eq_getElem _
    obtain ⟨row, e2, hrow⟩ := hrel _ (List.getElem_mem g2) r.1 g1
    obtain ⟨t1, t2⟩ := row_kept (M := M) (a0 := a0) (a1 := a1) (a2 := a2) (o5 := o5) (o6 := o6) (o7 := o7) (L := L) e1 e2 (by omega) (by omega)
    have hk : kept rels (r :: rs) L = ((row.all fun t => decide ((t, (r.2.2 : Int)) ∈ L)) && kept rels rs (addK ((r.1 : Int), (r.2.1 : Int)) L)) := by
      obtain ⟨s, n, f⟩ := r
      show ((((rels[n]?.getD [])[s]?.getD []).all _) && _) = _
      rw [e1, Option.getD_some, e2, Option.getD_some]
    rw [hk]
    have ec : (r :: rs).map encRw = encRw r :: rs.map encRw := rfl
    rw [ec]
    cases hb : (row.all fun t => decide ((t, (r.2.2 : Int)) ∈ L)) with
    | true =>
      rw [forK_go (t1 hb), Bool.true_and]
      exact kept_loop hrel rs _ _ _ _ (fun x hx => hr x (List.mem_cons_of_mem _ hx)) (by have := addK_len ((r.1 : Int), (r.2.1 : Int)) L; omega)
    | false =>
      obtain ⟨δ', e⟩ := t2 hb
      exact ⟨fun h => by simp at h, fun _ => ⟨δ', forK_out e⟩⟩
/-- the relation that a block's rows ask -/
def blkRel (j : Jt) : D → List (List Int)
  | .tuple [u, _, q] => reachR j (natsD u ++ natsD q)
  | _ => []
theorem blk_of {j : Jt} {X : Nat} {b : D} (h : isBlk j X b = true) : ∃ u p q : List Nat, b = .tuple [encW u, encW p, encW q] ∧ (∀ x ∈ u, x < X) ∧ (∀ x ∈ q, x < X) ∧ u.length ≤ 2000 ∧ q.length ≤ 2000 := by
  unfold isBlk at h
  split at h
  · rename_i u p q
    simp only [Bool.and_eq_true] at h
    obtain ⟨u, rfl, hu, lu⟩ := isWordM_enc h.1.1
    obtain ⟨p, rfl, hp, lp⟩ := isWordM_enc h.1.2.1
    obtain ⟨q, rfl, hq, lq⟩ := isWordM_enc h.1.2.2
    exact ⟨u, p, q, rfl, hu, hq, lu, lq⟩
  · cases h
theorem rows_kept_eq {N X Y : Nat} {j : Jt} {bs : List D} {rs : List (Nat × Nat × Nat)} (w : WfJ N X Y j) (hb : ∀ b ∈ bs, isBlk j X b = true) (hr : ∀ r ∈ rs, r.1 < N ∧ r.2.1 < bs.length) (lb : bs.length ≤ 1000000) (lr : rs.length ≤ 1000000) :
    g_are_rows_kept [.d (encJ j), .d (.tuple bs), .d (.tuple (rs.map encRw))] M = .ok (.d (.bool (kept (bs.map (blkRel j)) rs []))) [] M := by
  have c1 := mLc_map (vs := [8]) (tg := mNm 8) (te := e_are_rows_kept_2) (F := fun b => encRl (blkRel j b)) (g := i_are_rows_kept_2) (M := M) (M1 := M) (ds := bs) (δ := [some (.d (encJ j)), some (.d (.tuple bs)), some (.d (.tuple (rs.map encRw))), none, none, none, none, none, none, none]) (δ1 := [some (.d (encJ j)), some (.d (.tuple bs)), some (.d (.tuple (rs.map encRw))), none, none, none, none, none, none, none]) (by simp [i_are_rows_kept_2]) (by omega) (fun b hbm => by
    obtain ⟨u, p, q, rfl, hu, hq, lu, lq⟩ := blk_of (hb b hbm)
    have i0 : fIx (.tuple [encW u, encW p, encW q]) (.int 0) = some (.d (encW u)) := rfl
    have i2 : fIx (.tuple [encW u, encW p, encW q]) (.int 2) = some (.d (encW q)) := rfl
    have hrl : blkRel j (.tuple [encW u, encW p, encW q]) = reachR j (u ++ q) := by
      show reachR j (natsD (encW u) ++ natsD (encW q)) = _
      rw [nats_enc, nats_enc]
    rw [hrl]
    have r1 := relation_of_eq (M := M) (w := u ++ q) w (fun x hx => (List.mem_append.mp hx).elim (hu x) (hq x))
    have ad : fAdd (encW u) (encW q) = some (.d (encW (u ++ q))) := by
      show fAdd (.tuple _) (.tuple _) = _
      rw [e_addT (by simp; omega)]
      unfold encW
      rw [List.map_append]
    generalize rs.map encRw = RW at *
    generalize encW (u ++ q) = UQ at *
    generalize encRl (reachR j (u ++ q)) = R at *
    generalize PyData.tuple [encW u, encW p, encW q] = t at *
    exact ⟨[some (.d (encJ j)), some (.d (.tuple bs)), some (.d (.tuple RW)), none, none, none, none, none, some (.d t), none], [some (.d (encJ j)), some (.d (.tuple bs)), some (.d (.tuple RW)), none, none, none, none, none, some (.d t), none], rfl, by simp [e_are_rows_kept_2, i0, i2, ad, r1], rfl⟩)
  replace c1 : mLc [8] i_are_rows_kept_2 (mNm 8) (ret true) e_are_rows_kept_2 [some (.d (encJ j)), some (.d (.tuple bs)), some (.d (.tuple (rs.map encRw))), none, none, none, none, none, none, none] M = .ok (.con (.lst (bs.map fun b => encRl (blkRel j b)))) [some (.d (encJ j)), some (.d (.tuple bs)), some (.d (.tuple (rs.map encRw))), none, none, none, none, none, none, none] M := c1
  have hm : (bs.map fun b => encRl (blkRel j b)) = (bs.map (blkRel j)).map encRl := by rw [List.map_map]; rfl
  rw [hm] at c1
  have hrel : ∀ rel ∈ bs.map (blkRel j), ∀ s < N, ∃ row, rel[s]? = some row ∧ row.length ≤ 8 := fun rel hrel s hs => by
    obtain ⟨b, hbm, rfl⟩ := List.mem_map.mp hrel
    obtain ⟨u, p, q, rfl, -⟩ := blk_of (hb b hbm)
    exact reach_row w hs
  obtain ⟨g1, g2⟩ := kept_loop (M := M) (a0 := some (.d (encJ j))) (a1 := some (.d (.tuple bs))) (a2 := some (.d (.tuple (rs.map encRw)))) hrel rs [] none none none (fun r h => by rw [List.length_map]; exact hr r h) (by simp; omega)
  have hk0 : encKn [] = [] := rfl
  rw [hk0] at g1 g2
  generalize kept (bs.map (blkRel j)) rs [] = b at *
  generalize (bs.map (blkRel j)).map encRl = RL at *
  generalize rs.map encRw = RW at *
  cases b with
  | true =>
    obtain ⟨p4, p5, p6, p7, e⟩ := g1 rfl
    refine body_gen ⟨[some (.d (encJ j)), some (.d (.tuple bs)), some (.d (.tuple RW)), some (.con (.lst RL)), p4, p5, p6, p7, none, none], ?_⟩
    refine seq_gen ⟨?_, ?_, ?_, ?_⟩
    rotate_left 2
    · (conv => lhs; simp [c1]); try exact rfl
    refine (seq_nx (for_ok (δ1 := [some (.d (encJ j)), some (.d (.tuple bs)), some (.d (.tuple RW)), some (.con (.lst RL)), some (.con (.dcn [])), none, none, none, none, none]) (M1 := M) (by simp) e)).trans ?_
    (conv => lhs; simp [])
    try exact rfl
  | false =>
    obtain ⟨δ', e⟩ := g2 rfl
    refine body_gen ⟨δ', ?_⟩
    refine seq_gen ⟨?_, ?_, ?_, ?_⟩
    rotate_left 2
    · (conv => lhs; simp [c1]); try exact rfl
    exact seq_rt (for_ok (δ1 := [some (.d (encJ j)), some (.d (.tuple bs)), some (.d (.tuple RW)), some (.con (.lst RL)), some (.con (.dcn [])), none, none, none, none, none]) (M1 := M) (by simp) e)
/-! shows_certificate -/
theorem eq_nil {bs : List D} (h : PyData.plainAll bs = true) : fEq (.tuple bs) (.tuple []) = some (.bool bs.isEmpty) := by
  have ok : eqOk (.tuple bs) (.tuple []) = true := by
    unfold eqOk
    rw [show PyData.plain (.tuple bs) = true from h, show PyData.plain (.tuple []) = true from rfl, Bool.true_and, Bool.true_and, decide_eq_true_eq]
    exact Nat.le_trans (Nat.min_le_right _ _) (by simp [PyData.depth, PyData.depthAll])
  unfold fEq
  rw [if_pos ok]
  cases bs with
  | nil => simp [PyData.eqv, PyData.eqvAll]
  | cons a l => simp [PyData.eqv, PyData.eqvAll]
def rowN : D → Nat × Nat × Nat
  | .tuple [.int a, .int b, .int c] => (a.toNat, b.toNat, c.toNat)
  | _ => (0, 0, 0)
theorem row_of {N C : Nat} {v : D} (h : isRow N C v = true) : v = encRw (rowN v) ∧ (rowN v).1 < N ∧ (rowN v).2.1 < C := by
  unfold isRow at h
  split at h
  · rename_i a b c
    simp only [Bool.and_eq_true] at h
    obtain ⟨i, rfl, hi⟩ := inIx_true h.1
    obtain ⟨k, rfl, hk⟩ := inIx_true h.2.1
    obtain ⟨l, rfl, hl⟩ := inIx_true h.2.2
    exact ⟨rfl, hi, hk⟩
  · cases h
/-- is it a certificate? -/
def isCert (j : Jt) (N X : Nat) (b r : D) : Bool := match b, r with
  | .tuple bs, .tuple rs => (!bs.isEmpty && bs.all (isBlk j X)) && ((!rs.isEmpty && rs.all (isRow N bs.length)) && (decide ((rowN (rs.getLastD .none)).1 = 0) && kept (bs.map (blkRel j)) (rs.map rowN) []))
  | _, _ => false
theorem last_ix {rs : List D} (h : rs ≠ []) : fIx (.tuple rs) (.int (-1)) = some (.d (rs.getLastD .none)) := by
  obtain ⟨l, a, rfl⟩ : ∃ l a, rs = l ++ [a] := ⟨rs.dropLast, rs.getLast h, (List.dropLast_concat_getLast h).symm⟩
  show (atI (l ++ [a]) (-1)).map T.d = _
  rw [atI_last, List.getLastD_concat]; rfl
theorem cert_eq {N X Y : Nat} {j : Jt} {b r : D} (w : WfJ N X Y j) (hb : ∀ bs, b = .tuple bs → PyData.plainAll bs = true ∧ bs.length ≤ 1000000) (hr : ∀ rs, r = .tuple rs → PyData.plainAll rs = true ∧ rs.length ≤ 1000000) :
    g_shows_certificate [.d (encJ j), .d (.tuple [b, r])] M = .ok (.d (.bool (isCert j N X b r))) [] M := by
  have f4 : ∀ (δ : DL.Env) (M : Mem), mNeg (mD (.int 1)) δ M = .ok (.d (.int (-1))) δ M := fun _ _ => rfl
  have l2 : fLen [.tuple [b, r]] = some (.int 2) := rfl
  have s1 : mIf (mOrT (mNotT (mTest (mIsD "tuple" (mName 1)))) (mTest (mOp2 fNe (mBlt (mPl fLen) (mCons (mName 1) mNil)) (mD (.int 2))))) (mRet (mD (.bool false))) (ret .nx) [some (.d (encJ j)), some (.d (.tuple [b, r])), none, none, none, none] M = .ok .nx [some (.d (encJ j)), some (.d (.tuple [b, r])), none, none, none, none] M := by
    simp [isB, l2]
  have s2 : mAsg (mName 1) (mGt 2 (mGc (mNm 2) (mGc (mNm 3) mGn))) [some (.d (encJ j)), some (.d (.tuple [b, r])), none, none, none, none] M = .ok .nx [some (.d (encJ j)), some (.d (.tuple [b, r])), some (.d b), some (.d r), none, none] M := by
    simp
  generalize PyData.tuple [b, r] = v at *
  by_cases hbt : ∃ bs, b = .tuple bs
  · obtain ⟨bs, rfl⟩ := hbt
    obtain ⟨pb, lb⟩ := hb bs rfl
    have eb := eq_nil pb
    have c1 := mLc_map (vs := [4]) (tg := mNm 4) (te := e_shows_certificate_2) (F := fun d => .bool (isBlk j X d)) (g := i_shows_certificate_2) (M := M) (M1 := M) (ds := bs) (δ := [some (.d (encJ j)), some (.d v), some (.d (.tuple bs)), some (.d r), none, none]) (δ1 := [some (.d (encJ j)), some (.d v), some (.d (.tuple bs)), some (.d r), none, none]) (by simp [i_shows_certificate_2]) (by omega) (fun d hd => by
      have e := is_block_eq (M := M) (v := d) w
      exact ⟨[some (.d (encJ j)), some (.d v), some (.d (.tuple bs)), some (.d r), some (.d d), none], [some (.d (encJ j)), some (.d v), some (.d (.tuple bs)), some (.d r), some (.d d), none], rfl, by simp [e_shows_certificate_2, e], rfl⟩)
    replace c1 : mLc [4] i_shows_certificate_2 (mNm 4) (ret true) e_shows_certificate_2 [some (.d (encJ j)), some (.d v), some (.d (.tuple bs)), some (.d r), none, none] M = .ok (.con (.lst (bs.map fun d => .bool (isBlk j X d)))) [some (.d (encJ j)), some (.d v), some (.d (.tuple bs)), some (.d r), none, none] M := c1
    have z1 := all_map (p := isBlk j X) (xs := bs)
    cases h1 : (!bs.isEmpty && bs.all (isBlk j X)) with
    | false =>
      have res : isCert j N X (.tuple bs) r = false := by
        unfold isCert
        cases r <;> simp only [h1, Bool.false_and]
      rw [res]
      refine body_gen ⟨[some (.d (encJ j)), some (.d v), some (.d (.tuple bs)), some (.d r), none, none], ?_⟩
      refine (seq_nx s1).trans ?_
      refine (seq_nx s2).trans ?_
      generalize bs.map (fun d => PyData.bool (isBlk j X d)) = bl at *
      cases h0 : bs.isEmpty with
      | true =>
        rw [h0] at eb
        exact seq_rt (by simp [isB, eb])
      | false =>
        rw [h0] at eb h1
        have h1 : bs.all (isBlk j X) = false := by simpa using h1
        rw [h1] at z1
        exact seq_rt (by simp [isB, eb, c1, z1])
    | true =>
      obtain ⟨h0, h1'⟩ := Bool.and_eq_true_iff.mp h1
      have h0 : bs.isEmpty = false := by simpa using h0
      rw [h0] at eb
      rw [h1'] at z1
      have s3 : mIf (mOrT (mNotT (mTest (mIsD "tuple" (mName 2)))) (mOrT (mTest (mOp2 fEq (mName 2) (mTup mNil))) (mNotT (mTest (mBlt (mPl fAll) (mCons (mLc [4] i_shows_certificate_2 (mNm 4) (ret true) e_shows_certificate_2) mNil)))))) (mRet (mD (.bool false))) (ret .nx) [some (.d (encJ j)), some (.d v), some (.d (.tuple bs)), some (.d r), none, none] M = .ok .nx [some (.d (encJ j)), some (.d v), some (.d (.tuple bs)), some (.d r), none, none] M := by
        generalize bs.map (fun d => PyData.bool (isBlk j X d)) = bl at *
        simp [isB, eb, c1, z1]
      by_cases hrt : ∃ rs, r = .tuple rs
      · obtain ⟨rs, rfl⟩ := hrt
        obtain ⟨pr, lr⟩ := hr rs rfl
        have er := eq_nil pr
        have lbs : fLen [.tuple bs] = some (.int (bs.length : Nat)) := by simp [fLen]
        have c2 := mLc_map (vs := [5]) (tg := mNm 5) (te := e_shows_certificate_1) (F := fun d => .bool (isRow N bs.length d)) (g := i_shows_certificate_1) (M := M) (M1 := M) (ds := rs) (δ := [some (.d (encJ j)), some (.d v), some (.d (.tuple bs)), some (.d (.tuple rs)), none, none]) (δ1 := [some (.d (encJ j)), some (.d v), some (.d (.tuple bs)), some (.d (.tuple rs)), none, none]) (by simp [i_shows_certificate_1]) (by omega) (fun d hd => by
          have e := is_row_eq (M := M) (v := d) (count := (bs.length : Int)) w
          exact ⟨[some (.d (encJ j)), some (.d v), some (.d (.tuple bs)), some (.d (.tuple rs)), none, some (.d d)], [some (.d (encJ j)), some (.d v), some (.d (.tuple bs)), some (.d (.tuple rs)), none, some (.d d)], rfl, by simp [e_shows_certificate_1, lbs, e], rfl⟩)
        replace c2 : mLc [5] i_shows_certificate_1 (mNm 5) (ret true) e_shows_certificate_1 [some (.d (encJ j)), some (.d v), some (.d (.tuple bs)), some (.d (.tuple rs)), none, none] M = .ok (.con (.lst (rs.map fun d => .bool (isRow N bs.length d)))) [some (.d (encJ j)), some (.d v), some (.d (.tuple bs)), some (.d (.tuple rs)), none, none] M := c2
        have z2 := all_map (p := isRow N bs.length) (xs := rs)
        have hres : isCert j N X (.tuple bs) (.tuple rs) = ((!rs.isEmpty && rs.all (isRow N bs.length)) && (decide ((rowN (rs.getLastD .none)).1 = 0) && kept (bs.map (blkRel j)) (rs.map rowN) [])) := by
          show ((!bs.isEmpty && bs.all (isBlk j X)) && _) = _
          rw [h1, Bool.true_and]
        rw [hres]
        cases h2 : (!rs.isEmpty && rs.all (isRow N bs.length)) with
        | false =>
          refine body_gen ⟨[some (.d (encJ j)), some (.d v), some (.d (.tuple bs)), some (.d (.tuple rs)), none, none], ?_⟩
          refine (seq_nx s1).trans ?_
          refine (seq_nx s2).trans ?_
          refine (seq_nx s3).trans ?_
          generalize rs.map (fun d => PyData.bool (isRow N bs.length d)) = bl at *
          cases h3 : rs.isEmpty with
          | true =>
            rw [h3] at er
            exact seq_rt (by simp [isB, er])
          | false =>
            rw [h3] at er h2
            have h2 : rs.all (isRow N bs.length) = false := by simpa using h2
            rw [h2] at z2
            exact seq_rt (by simp [isB, er, c2, z2])
        | true =>
          obtain ⟨h3, h4⟩ := Bool.and_eq_true_iff.mp h2
          have h3 : rs.isEmpty = false := by simpa using h3
          rw [h3] at er
          rw [h4] at z2
          have hne : rs ≠ [] := fun e => by rw [e] at h3; cases h3
          have hrow := List.all_eq_true.mp h4
          have el := last_ix hne
          have hlm : rs.getLastD .none ∈ rs := by
            obtain ⟨l, a, rfl⟩ : ∃ l a, rs = l ++ [a] := ⟨rs.dropLast, rs.getLast hne, (List.dropLast_concat_getLast hne).symm⟩
            rw [List.getLastD_concat]; simp
          obtain ⟨q1, q2, q3⟩ := row_of (hrow _ hlm)
          have e0 : fIx (rs.getLastD .none) (.int 0) = some (.d (.int ((rowN (rs.getLastD .none)).1 : Int))) := by
            conv => lhs; rw [q1]
            rfl
          have hrs : rs = (rs.map rowN).map encRw := by
            rw [List.map_map]
            conv => lhs; rw [← List.map_id rs]
            exact List.map_congr_left fun d hd => (row_of (hrow d hd)).1
          have ek := rows_kept_eq (M := M) (bs := bs) (rs := rs.map rowN) w (List.all_eq_true.mp h1') (fun x hx => by
            obtain ⟨d, hd, rfl⟩ := List.mem_map.mp hx
            exact (row_of (hrow d hd)).2) lb (by rw [List.length_map]; exact lr)
          rw [← hrs] at ek
          have ed : (((rowN (rs.getLastD .none)).1 : Int) == 0) = decide ((rowN (rs.getLastD .none)).1 = 0) := by
            rw [Bool.eq_iff_iff]; simp only [beq_iff_eq, decide_eq_true_eq]; omega
          generalize (rowN (rs.getLastD .none)).1 = s0 at *
          generalize rs.getLastD .none = lastr at *
          generalize kept (bs.map (blkRel j)) (rs.map rowN) [] = kb at *
          generalize rs.map (fun d => PyData.bool (isRow N bs.length d)) = bl at *
          rw [Bool.true_and]
          refine body_gen ⟨[some (.d (encJ j)), some (.d v), some (.d (.tuple bs)), some (.d (.tuple rs)), none, none], ?_⟩
          refine (seq_nx s1).trans ?_
          refine (seq_nx s2).trans ?_
          refine (seq_nx s3).trans ?_
          refine seq_gen ⟨?_, ?_, ?_, ?_⟩
          rotate_left 2
          · (conv => lhs; simp [isB, er, c2, z2]); try exact rfl
          cases hs : decide (s0 = 0) <;> rw [hs] at ed <;> simp [f4, el, e0, ed, ek]
      · have res : isCert j N X (.tuple bs) r = false := by
          unfold isCert
          cases r with
          | tuple rs => exact absurd ⟨rs, rfl⟩ hrt
          | _ => rfl
        rw [res]
        refine body_gen ⟨[some (.d (encJ j)), some (.d v), some (.d (.tuple bs)), some (.d r), none, none], ?_⟩
        refine (seq_nx s1).trans ?_
        refine (seq_nx s2).trans ?_
        refine (seq_nx s3).trans ?_
        cases r with
        | tuple rs => exact absurd ⟨rs, rfl⟩ hrt
        | _ => exact seq_rt (by simp [isB])
  · have res : isCert j N X b r = false := by
      unfold isCert
      cases b with
      | tuple bs => exact absurd ⟨bs, rfl⟩ hbt
      | _ => rfl
    rw [res]
    refine body_gen ⟨[some (.d (encJ j)), some (.d v), some (.d b), some (.d r), none, none], ?_⟩
    refine (seq_nx s1).trans ?_
    refine (seq_nx s2).trans ?_
    cases b with
    | tuple bs => exact absurd ⟨bs, rfl⟩ hbt
    | _ => exact seq_rt (by simp [isB])
/-! _law_endless -/
def jEndless : Jt := [[[some 1, some 2], [some 0, none], [none, some 0]], [[some 1, some 1], [some 0, some 0], [none, none]], [[some 2, some 2], [none, none], [some 0, some 0]]]
theorem endless_eq : g__law_endless [] M = .ok (.d (encJ jEndless)) [] M := by kernel_rfl
/-! _law_turned -/
/-- the judge with states and letters in another sequence -/
def plantJ (o xs ys : List Nat) : Jt := (List.range 3).map fun s => (List.range 3).map fun x => (List.range 2).map fun y => (entJ jEndless (o.idxOf s) (xs.idxOf x) (ys.idxOf y)).map fun e => o[e]?.getD 0
def OS : List (List Nat) := [[0, 1, 2], [0, 2, 1]]
def XS : List (List Nat) := [[0, 1, 2], [0, 2, 1], [1, 0, 2], [1, 2, 0], [2, 0, 1], [2, 1, 0]]
def YS : List (List Nat) := [[0, 1], [1, 0]]
theorem plant_wf {o xs ys : List Nat} (ho : o ∈ OS) (hx : xs ∈ XS) (hy : ys ∈ YS) : WfJ 3 3 2 (plantJ o xs ys) := by
  have key : OS.all (fun o => XS.all fun xs => YS.all fun ys => wfB 3 3 2 (plantJ o xs ys)) = true := by decide +kernel
  rw [List.all_eq_true] at key
  have := key o ho
  rw [List.all_eq_true] at this
  have := this xs hx
  rw [List.all_eq_true] at this
  exact wf_of (this ys hy)
def encL (l : List Nat) : D := .list (l.map fun x : Nat => PyData.int (x : Int))
theorem turned_eq {o xs ys : List Nat} (ho : o ∈ OS) (hx : xs ∈ XS) (hy : ys ∈ YS) : g__law_turned [.d (encJ jEndless), .d (encL o), .d (encL xs), .d (encL ys)] M = .ok (.d (encJ (plantJ o xs ys))) [] M := by
  simp only [OS, XS, YS, List.mem_cons, List.not_mem_nil, or_false] at ho hx hy
  rcases ho with rfl | rfl <;> rcases hx with rfl | rfl | rfl | rfl | rfl | rfl <;> rcases hy with rfl | rfl <;> kernel_rfl
/-! _law_papers -/
/-- a block of zeros -/
def zBlk (z a b : Nat) (q : List Nat) : D := .tuple [encW (List.replicate a z), encW (List.replicate b z), encW q]
def rowD (a b c : Nat) : D := .tuple [.int (a : Int), .int (b : Int), .int (c : Int)]
def ROWS (a b : Nat) : List D := [rowD a 2 0, rowD b 1 2, rowD a 0 2, rowD b 0 1, rowD 0 0 0]
def BLKS (x y z : Nat) (l0 l1 l2 l3 l4 l5 : Nat) : List D := [zBlk x l0 l1 [], zBlk x l2 l3 [y], zBlk x l4 l5 [z]]
def GOODS (a b : Nat) : List D := [.tuple (ROWS a b), .tuple [rowD b 1 2, rowD b 0 1, rowD a 2 0, rowD a 0 2, rowD 0 0 0], .tuple [rowD b 1 0, rowD a 2 0, rowD b 1 2, rowD a 0 2, rowD b 0 1, rowD a 0 2, rowD 0 0 0], .tuple [rowD a 2 0, rowD b 1 2, rowD a 0 2, rowD b 0 1, rowD 0 0 0, rowD 0 0 0]]
theorem rep_mul {z l : Nat} (hl : l ≤ 100) : fMul (.tuple [.int (z : Int)]) (.int (l : Int)) = some (.d (encW (List.replicate l z))) := by
  rw [e_mulT (by omega) (by omega) (by simp)]
  have hf : ∀ k : Nat, (List.replicate k [PyData.int (z : Int)]).flatten = (List.replicate k z).map (fun x : Nat => PyData.int (x : Int)) := fun k => by
    induction k with
    | zero => rfl
    | succ k ih => rw [List.replicate_succ, List.flatten_cons, ih, List.replicate_succ]; rfl
  rw [Int.toNat_natCast, hf]; rfl
theorem papers_spec {n a b x y z : Nat} {B : Int} (hp : Pot B n M) (hB : B < 800000000) :
    ∃ (l0 l1 l2 l3 l4 l5 : Nat) (M' : Mem), g__law_papers [.ref n, .d (encL [0, a, b]), .d (encL [x, y, z])] M = .ok (.d (.tuple [.tuple (BLKS x y z l0 l1 l2 l3 l4 l5), .list (GOODS a b)])) [] M' ∧ (1 ≤ l0 ∧ l0 ≤ 5) ∧ (1 ≤ l1 ∧ l1 ≤ 5) ∧ (1 ≤ l2 ∧ l2 ≤ 5) ∧ (1 ≤ l3 ∧ l3 ≤ 5) ∧ (1 ≤ l4 ∧ l4 ≤ 5) ∧ (1 ≤ l5 ∧ l5 ≤ 5) ∧ Pot (B + 6) n M' ∧ M'.length = M.length := by
  have s6 : small62 6 = true := rfl
  have ex : encL [x, y, z] = .list [.int (x : Int), .int (y : Int), .int (z : Int)] := rfl
  have eo : encL [0, a, b] = .list [.int 0, .int (a : Int), .int (b : Int)] := rfl
  have hg : i__law_papers_1 [some (.ref n), some (.d (encL [0, a, b])), some (.d (encL [x, y, z])), some (.d (.tuple [.int (x : Int)])), some (.d (.tuple [.int (y : Int)])), some (.d (.tuple [.int (z : Int)])), some (.d (.int 0)), some (.d (.int (a : Int))), some (.d (.int (b : Int))), none, none, none, none, none, none] M = .ok ((List.range 6).map fun k => .int (0 + (k : Nat))) [some (.ref n), some (.d (encL [0, a, b])), some (.d (encL [x, y, z])), some (.d (.tuple [.int (x : Int)])), some (.d (.tuple [.int (y : Int)])), some (.d (.tuple [.int (z : Int)])), some (.d (.int 0)), some (.d (.int (a : Int))), some (.d (.int (b : Int))), none, none, none, none, none, none] M := by simp [i__law_papers_1, s6]
  obtain ⟨ys, M2, e2, h1, h2, h3⟩ := mLc_spec (vs := [14]) (tg := mNm 14) (te := e__law_papers_1) (P := fun y => ∃ l : Nat, y = .int (l : Int) ∧ 1 ≤ l ∧ l ≤ 5) (I := fun ds M' => Pot (B + 6 - ds.length) n M' ∧ M'.length = M.length) hg (by simp) ⟨hp.mono (by simp), rfl⟩ (by
    rintro d ds M2 ⟨q, ql⟩
    simp only [List.length_cons] at q
    obtain ⟨u, M3, e3, u0, u1, q3, l3⟩ := take_spec (m := 5) q (by omega) (by decide) (by decide)
    refine ⟨[some (.ref n), some (.d (encL [0, a, b])), some (.d (encL [x, y, z])), some (.d (.tuple [.int (x : Int)])), some (.d (.tuple [.int (y : Int)])), some (.d (.tuple [.int (z : Int)])), some (.d (.int 0)), some (.d (.int (a : Int))), some (.d (.int (b : Int))), none, none, none, none, none, some (.d d)], M2, .int (1 + u), [some (.ref n), some (.d (encL [0, a, b])), some (.d (encL [x, y, z])), some (.d (.tuple [.int (x : Int)])), some (.d (.tuple [.int (y : Int)])), some (.d (.tuple [.int (z : Int)])), some (.d (.int 0)), some (.d (.int (a : Int))), some (.d (.int (b : Int))), none, none, none, none, none, some (.d d)], M3, rfl, ?_, ⟨(1 + u).toNat, by congr 1; omega, by omega, by omega⟩, ⟨q3.mono (by omega), by omega⟩, rfl⟩
    simp [e__law_papers_1, e3])
  replace e2 : mLc [14] i__law_papers_1 (mNm 14) (ret true) e__law_papers_1 [some (.ref n), some (.d (encL [0, a, b])), some (.d (encL [x, y, z])), some (.d (.tuple [.int (x : Int)])), some (.d (.tuple [.int (y : Int)])), some (.d (.tuple [.int (z : Int)])), some (.d (.int 0)), some (.d (.int (a : Int))), some (.d (.int (b : Int))), none, none, none, none, none, none] M = .ok (.con (.lst ys)) [some (.ref n), some (.d (encL [0, a, b])), some (.d (encL [x, y, z])), some (.d (.tuple [.int (x : Int)])), some (.d (.tuple [.int (y : Int)])), some (.d (.tuple [.int (z : Int)])), some (.d (.int 0)), some (.d (.int (a : Int))), some (.d (.int (b : Int))), none, none, none, none, none, none] M2 := e2
  obtain ⟨ls, rfl, hls⟩ := all_enc (enc := fun l : Nat => PyData.int (l : Int)) (P := fun l => 1 ≤ l ∧ l ≤ 5) h2
  have h1 : ls.length = 6 := by simpa using h1
  match ls, h1, hls, e2 with
  | [l0, l1, l2, l3, l4, l5], _, hls, e2 =>
    have b0 := hls l0 (by simp)
    have b1 := hls l1 (by simp)
    have b2 := hls l2 (by simp)
    have b3 := hls l3 (by simp)
    have b4 := hls l4 (by simp)
    have b5 := hls l5 (by simp)
    refine ⟨l0, l1, l2, l3, l4, l5, M2, ?_, b0, b1, b2, b3, b4, b5, h3.1.mono (by simp), h3.2⟩
    have m0 := rep_mul (z := x) (l := l0) (by omega)
    have m1 := rep_mul (z := x) (l := l1) (by omega)
    have m2 := rep_mul (z := x) (l := l2) (by omega)
    have m3 := rep_mul (z := x) (l := l3) (by omega)
    have m4 := rep_mul (z := x) (l := l4) (by omega)
    have m5 := rep_mul (z := x) (l := l5) (by omega)
    have ix : ∀ (p q r s t u : D), fIx (.list [p, q, r, s, t, u]) (.int 0) = some (.d p) ∧ fIx (.list [p, q, r, s, t, u]) (.int 1) = some (.d q) ∧ fIx (.list [p, q, r, s, t, u]) (.int 2) = some (.d r) ∧ fIx (.list [p, q, r, s, t, u]) (.int 3) = some (.d s) ∧ fIx (.list [p, q, r, s, t, u]) (.int 4) = some (.d t) ∧ fIx (.list [p, q, r, s, t, u]) (.int 5) = some (.d u) := fun _ _ _ _ _ _ => ⟨rfl, rfl, rfl, rfl, rfl, rfl⟩
    have jx : ∀ (p q r s t : D), fIx (.tuple [p, q, r, s, t]) (.int 0) = some (.d p) ∧ fIx (.tuple [p, q, r, s, t]) (.int 1) = some (.d q) ∧ fIx (.tuple [p, q, r, s, t]) (.int 2) = some (.d r) ∧ fIx (.tuple [p, q, r, s, t]) (.int 3) = some (.d s) ∧ fIx (.tuple [p, q, r, s, t]) (.int 4) = some (.d t) := fun _ _ _ _ _ => ⟨rfl, rfl, rfl, rfl, rfl⟩
    have kx : ∀ (p q r : D), fIx (.list [p, q, r]) (.int 0) = some (.d p) ∧ fIx (.list [p, q, r]) (.int 1) = some (.d q) ∧ fIx (.list [p, q, r]) (.int 2) = some (.d r) := fun _ _ _ => ⟨rfl, rfl, rfl⟩
    have cu4 : ∀ (p q r s t : D), cutD [p, q, r, s, t] none (some 4) = [p, q, r, s] := fun _ _ _ _ _ => rfl
    have cd4 : ∀ (p q r s t : D), cutD [p, q, r, s, t] (some 4) none = [t] := fun _ _ _ _ _ => rfl
    have add : ∀ p q : List D, p.length + q.length ≤ 100 → fAdd (.tuple p) (.tuple q) = some (.d (.tuple (p ++ q))) := fun p q h => e_addT (by omega)
    have wy : encW [y] = .tuple [.int (y : Int)] := rfl
    have wz : encW [z] = .tuple [.int (z : Int)] := rfl
    have wn : encW [] = .tuple [] := rfl
    have goal : BLKS x y z l0 l1 l2 l3 l4 l5 = [.tuple [encW (List.replicate l0 x), encW (List.replicate l1 x), .tuple []], .tuple [encW (List.replicate l2 x), encW (List.replicate l3 x), .tuple [.int (y : Int)]]] ++ [.tuple [encW (List.replicate l4 x), encW (List.replicate l5 x), .tuple [.int (z : Int)]]] := rfl
    rw [goal]
    generalize encW (List.replicate l0 x) = W0 at *
    generalize encW (List.replicate l1 x) = W1 at *
    generalize encW (List.replicate l2 x) = W2 at *
    generalize encW (List.replicate l3 x) = W3 at *
    generalize encW (List.replicate l4 x) = W4 at *
    generalize encW (List.replicate l5 x) = W5 at *
    simp only [List.map_cons, List.map_nil] at e2
    rw [ex, eo] at e2 ⊢
    refine body_gen ⟨?_, ?_⟩
    rotate_left 1
    refine seq_gen ⟨?_, ?_, ?_, ?_⟩
    rotate_left 2
    · (conv => lhs; simp [kx]); try exact rfl
    refine seq_gen ⟨?_, ?_, ?_, ?_⟩
    rotate_left 2
    · (conv => lhs; simp []); try exact rfl
    refine seq_gen ⟨?_, ?_, ?_, ?_⟩
    rotate_left 2
    · (conv => lhs; simp [e2]); try exact rfl
    refine seq_gen ⟨?_, ?_, ?_, ?_⟩
    rotate_left 2
    · (conv => lhs; simp [ix, m0, m1, m2, m3]); try exact rfl
    refine seq_gen ⟨?_, ?_, ?_, ?_⟩
    rotate_left 2
    · (conv => lhs; simp [ix, m4, m5, add]); try exact rfl
    refine seq_gen ⟨?_, ?_, ?_, ?_⟩
    rotate_left 2
    · (conv => lhs; simp []); try exact rfl
    refine seq_gen ⟨?_, ?_, ?_, ?_⟩
    rotate_left 2
    · (conv => lhs; simp [jx]); try exact rfl
    refine seq_gen ⟨?_, ?_, ?_, ?_⟩
    rotate_left 2
    · (conv => lhs; simp [jx, cu4, cd4, add]); try exact rfl
    (conv => lhs; simp [jx, add, GOODS, ROWS, rowD])
    try exact rfl
/-! _law_bad_papers -/
def BADS (x y z o0 o1 : Nat) (b0 b1 b2 r0 r1 r2 r3 r4 : D) : List D :=
  [.tuple [.tuple [b0, b1, b2], .tuple [r2, r0, r1, r3, r4]], .tuple [.tuple [b0, b1, b2], .tuple [r0, r1, r2, r3]], .tuple [.tuple [b0, b1, b2], .tuple [r1, r2, r3, r4]], .tuple [.tuple [b0, b1, b2], .tuple [r0, r1, r2, r4]],
   .tuple [.tuple [b0, b1, b2], .tuple [r0, r1, r2, r3, .tuple [.int (o0 : Int), .int 0, .int 3]]], .tuple [.tuple [b0, b1, b2], .tuple [r0, r1, r2, r3, .tuple [.int (o0 : Int), .int 0, .int 1]]], .tuple [.tuple [b0, b1, b2], .tuple [r0, r1, r2, r3, r4, .tuple [.int (o1 : Int), .int 0, .int 2]]],
   .tuple [.tuple [b0, b1, .tuple [.tuple [.int (x : Int)], .tuple [.int (y : Int)], .tuple [.int (z : Int)]]], .tuple [r0, r1, r2, r3, r4]], .tuple [.tuple [.tuple [.tuple [.int (x : Int)], .tuple [], .tuple []], b1, b2], .tuple [r0, r1, r2, r3, r4]],
   .tuple [.tuple [.tuple [.tuple [.int (x : Int)], .tuple [.int (x : Int)], .tuple [.int (y : Int)]], b1, b2], .tuple [r0, r1, r2, r3, r4]], .tuple [.tuple [b0, b2, b1], .tuple [r0, r1, r2, r3, r4]],
   .tuple [.tuple [b0, b1], .tuple [r0, r1, r2, r3, r4]], .tuple [.tuple [r0, r1, r2, r3, r4], .tuple [b0, b1, b2]], .tuple [.list [b0, b1, b2], .tuple [r0, r1, r2, r3, r4]], .tuple [.tuple [b0, b1, b2], .list [r0, r1, r2, r3, r4]]]
theorem bads_eq {x y z o0 o1 o2 : Nat} {b0 b1 b2 r0 r1 r2 r3 r4 : D} : g__law_bad_papers [.d (.tuple [b0, b1, b2]), .d (.tuple [r0, r1, r2, r3, r4]), .d (encL [o0, o1, o2]), .d (encL [x, y, z])] M = .ok (.con (.lst (BADS x y z o0 o1 b0 b1 b2 r0 r1 r2 r3 r4))) [] M := by
  have ex : encL [x, y, z] = .list [.int (x : Int), .int (y : Int), .int (z : Int)] := rfl
  have eo : encL [o0, o1, o2] = .list [.int (o0 : Int), .int (o1 : Int), .int (o2 : Int)] := rfl
  have kx : ∀ (p q r : D), fIx (.list [p, q, r]) (.int 0) = some (.d p) ∧ fIx (.list [p, q, r]) (.int 1) = some (.d q) ∧ fIx (.list [p, q, r]) (.int 2) = some (.d r) := fun _ _ _ => ⟨rfl, rfl, rfl⟩
  have tx : ∀ (p q r : D), fIx (.tuple [p, q, r]) (.int 0) = some (.d p) ∧ fIx (.tuple [p, q, r]) (.int 1) = some (.d q) ∧ fIx (.tuple [p, q, r]) (.int 2) = some (.d r) := fun _ _ _ => ⟨rfl, rfl, rfl⟩
  have f4 : ∀ (δ : DL.Env) (M : Mem), mNeg (mD (.int 1)) δ M = .ok (.d (.int (-1))) δ M := fun _ _ => rfl
  have c5 : ∀ (p q r s t : D), cutD [p, q, r, s, t] (some 2) (some 3) = [r] ∧ cutD [p, q, r, s, t] none (some 2) = [p, q] ∧ cutD [p, q, r, s, t] (some 3) none = [s, t] ∧ cutD [p, q, r, s, t] none (some (-1)) = [p, q, r, s] ∧ cutD [p, q, r, s, t] (some 1) none = [q, r, s, t] ∧ cutD [p, q, r, s, t] none (some 3) = [p, q, r] ∧ cutD [p, q, r, s, t] (some 4) none = [t] ∧ cutD [p, q, r, s, t] none (some 4) = [p, q, r, s] := fun _ _ _ _ _ => ⟨rfl, rfl, rfl, rfl, rfl, rfl, rfl, rfl⟩
  have c3 : ∀ (p q r : D), cutD [p, q, r] (some 1) none = [q, r] ∧ cutD [p, q, r] none (some 1) = [p] ∧ cutD [p, q, r] (some 2) none = [r] ∧ cutD [p, q, r] (some 1) (some 2) = [q] ∧ cutD [p, q, r] none (some 2) = [p, q] := fun _ _ _ => ⟨rfl, rfl, rfl, rfl, rfl⟩
  have add : ∀ p q : List D, p.length + q.length ≤ 100 → fAdd (.tuple p) (.tuple q) = some (.d (.tuple (p ++ q))) := fun p q h => e_addT (by omega)
  have addl : ∀ p q : List D, p.length + q.length ≤ 100 → fAdd (.list p) (.list q) = some (.con (.lst (p ++ q))) := fun p q h => e_addL (by omega)
  have ap : ∀ (p : List D) (d : D), p.length ≤ 100 → fAppend p [d] = some (p ++ [d], .none) := fun p d h => app_ok (by omega)
  rw [ex, eo]
  refine body_gen ⟨?_, ?_⟩
  rotate_left 1
  refine seq_gen ⟨?_, ?_, ?_, ?_⟩
  rotate_left 2
  · (conv => lhs; simp [kx]); try exact rfl
  refine seq_gen ⟨?_, ?_, ?_, ?_⟩
  rotate_left 2
  · (conv => lhs; simp [c5, add, f4]); try exact rfl
  refine seq_gen ⟨?_, ?_, ?_, ?_⟩
  rotate_left 2
  · (conv => lhs; simp [c5, add, ap]); try exact rfl
  refine seq_gen ⟨?_, ?_, ?_, ?_⟩
  rotate_left 2
  · (conv => lhs; simp [c5, add, ap, kx]); try exact rfl
  refine seq_gen ⟨?_, ?_, ?_, ?_⟩
  rotate_left 2
  · (conv => lhs; simp [c5, add, ap, kx]); try exact rfl
  refine seq_gen ⟨?_, ?_, ?_, ?_⟩
  rotate_left 2
  · (conv => lhs; simp [c5, add, ap, kx]); try exact rfl
  refine seq_gen ⟨?_, ?_, ?_, ?_⟩
  rotate_left 2
  · (conv => lhs; simp [tx, kx, ap]); try exact rfl
  refine seq_gen ⟨?_, ?_, ?_, ?_⟩
  rotate_left 2
  · (conv => lhs; simp [c3, add, ap]); try exact rfl
  refine seq_gen ⟨?_, ?_, ?_, ?_⟩
  rotate_left 2
  · (conv => lhs; simp [c3, add, ap]); try exact rfl
  refine seq_gen ⟨?_, ?_, ?_, ?_⟩
  rotate_left 2
  · (conv => lhs; simp [c3, add, ap]); try exact rfl
  (conv => lhs; simp [c3, addl, BADS])
  try exact rfl
/-! _law_many_rows_right -/
theorem addK_twice (p : Int × Int) (L : List (Int × Int)) : addK p (addK p L) = addK p L := by
  unfold addK
  by_cases h : p ∈ L
  · rw [if_pos h, if_pos h]
  · rw [if_neg h, if_pos (by simp)]
theorem kept_rep {rels : List (List (List Int))} (h : (rels[0]?.getD [])[0]?.getD [] = []) (t : List (Nat × Nat × Nat)) : ∀ (m : Nat) (L : List (Int × Int)), kept rels (List.replicate (m + 1) (0, 0, 0) ++ t) L = kept rels t (addK (0, 0) L)
  | 0, L => by
    show ((((rels[0]?.getD [])[0]?.getD []).all _) && kept rels t (addK (0, 0) L)) = _
    rw [h]; rfl
  | m + 1, L => by
    have e : List.replicate (m + 1 + 1) ((0, 0, 0) : Nat × Nat × Nat) ++ t = (0, 0, 0) :: (List.replicate (m + 1) (0, 0, 0) ++ t) := rfl
    rw [e]
    show ((((rels[0]?.getD [])[0]?.getD []).all _) && kept rels (List.replicate (m + 1) (0, 0, 0) ++ t) (addK (0, 0) L)) = _
    rw [h, kept_rep h t m, addK_twice]; rfl
def jOne : Jt := [[[none], [some 0]]]
theorem one_wf : WfJ 1 2 1 jOne := wf_of (by decide)
def BL2 : List D := [.tuple [.tuple [.int 0], .tuple [.int 0], .tuple []], .tuple [.tuple [.int 1], .tuple [.int 1], .tuple []]]
def row0 : D := .tuple [.int 0, .int 0, .int 0]
theorem bl2_all : BL2.all (isBlk jOne 2) = true := by decide +kernel
theorem bl2_rel : BL2.map (blkRel jOne) = [[[]], [[0]]] := by decide +kernel
theorem rows_all {m : Nat} {t : List D} (ht : t.all (isRow 1 2) = true) : (List.replicate m row0 ++ t).all (isRow 1 2) = true := by
  rw [List.all_append, ht, Bool.and_true, List.all_eq_true]
  intro x hx
  rw [(List.mem_replicate.mp hx).2]; decide
theorem cert_many {m : Nat} {t : List D} (ht : t.all (isRow 1 2) = true) : isCert jOne 1 2 (.tuple BL2) (.tuple (List.replicate (m + 1) row0 ++ t)) = (decide ((rowN ((List.replicate (m + 1) row0 ++ t).getLastD .none)).1 = 0) && kept [[[]], [[0]]] (t.map rowN) [(0, 0)]) := by
  have h1 : (List.replicate (m + 1) row0 ++ t).isEmpty = false := rfl
  have h2 := rows_all (m := m + 1) ht
  show ((!BL2.isEmpty && BL2.all (isBlk jOne 2)) && ((!(List.replicate (m + 1) row0 ++ t).isEmpty && (List.replicate (m + 1) row0 ++ t).all (isRow 1 2)) && (decide ((rowN ((List.replicate (m + 1) row0 ++ t).getLastD .none)).1 = 0) && kept (BL2.map (blkRel jOne)) ((List.replicate (m + 1) row0 ++ t).map rowN) []))) = _
  rw [bl2_all, bl2_rel, h1, h2, List.map_append, List.map_replicate]
  have hr : rowN row0 = (0, 0, 0) := rfl
  rw [hr, kept_rep rfl]
  rfl
theorem plain_rows {m : Nat} {t : List D} (ht : PyData.plainAll t = true) : PyData.plainAll (List.replicate m row0 ++ t) = true := by
  induction m with
  | zero => exact ht
  | succ m ih =>
    show PyData.plainAll (row0 :: (List.replicate m row0 ++ t)) = true
    rw [PyData.plainAll, ih]; rfl
theorem last_rep {m : Nat} : (List.replicate (m + 1) row0).getLastD .none = row0 := by
  rw [List.replicate_succ', List.getLastD_concat]
theorem many_spec {n : Nat} {B : Int} (hp : Pot B n M) (hB : B < 800000000) : ∃ M', g__law_many_rows_right [.ref n] M = .ok (.d (.bool true)) [] M' ∧ Pot (B + 1) n M' ∧ M'.length = M.length := by
  obtain ⟨v, M1, e1, v0, v1, q1, l1⟩ := take_spec (m := 400) hp (by omega) (by decide) (by decide)
  obtain ⟨m, hm, hm2⟩ : ∃ m : Nat, 400 + v = ((m + 1 : Nat) : Int) ∧ m + 1 ≤ 800 := ⟨(399 + v).toNat, by omega, by omega⟩
  refine ⟨M1, ?_, q1, l1⟩
  have mz : fMul (.tuple [row0]) (.int ((m + 1 : Nat) : Int)) = some (.d (.tuple (List.replicate (m + 1) row0))) := by
    rw [e_mulT (by omega) (by omega) (by simp)]
    have hf : ∀ k : Nat, (List.replicate k [row0]).flatten = List.replicate k row0 := fun k => by
      induction k with
      | zero => rfl
      | succ k ih => rw [List.replicate_succ, List.flatten_cons, ih, List.replicate_succ]; rfl
    rw [Int.toNat_natCast, hf]
  have ad : ∀ p q : List D, p.length + q.length ≤ 10000 → fAdd (.tuple p) (.tuple q) = some (.d (.tuple (p ++ q))) := fun p q h => e_addT (by omega)
  have lr : (List.replicate (m + 1) row0).length = m + 1 := List.length_replicate
  have ad1 : fAdd (.tuple (List.replicate (m + 1) row0)) (.tuple [.tuple [.int 0, .int 1, .int 0]]) = some (.d (.tuple (List.replicate (m + 1) row0 ++ [.tuple [.int 0, .int 1, .int 0]]))) := ad _ _ (by rw [lr]; simp; omega)
  have ad2 : fAdd (.tuple (List.replicate (m + 1) row0)) (.tuple [.tuple [.int 0, .int 1, .int 1]]) = some (.d (.tuple (List.replicate (m + 1) row0 ++ [.tuple [.int 0, .int 1, .int 1]]))) := ad _ _ (by rw [lr]; simp; omega)
  have ad3 : fAdd (.tuple (List.replicate (m + 1) row0 ++ [.tuple [.int 0, .int 1, .int 1]])) (.tuple (List.replicate (m + 1) row0)) = some (.d (.tuple (List.replicate (m + 1) row0 ++ [.tuple [.int 0, .int 1, .int 1]] ++ List.replicate (m + 1) row0))) := ad _ _ (by rw [List.length_append, lr]; simp; omega)
  have hbl : ∀ bs, PyData.tuple BL2 = .tuple bs → PyData.plainAll bs = true ∧ bs.length ≤ 1000000 := fun bs h => by cases h; exact ⟨by decide +kernel, by decide⟩
  have k1 := cert_eq (M := M1) (b := .tuple BL2) (r := .tuple (List.replicate (m + 1) row0 ++ [.tuple [.int 0, .int 1, .int 0]])) one_wf hbl (fun rs h => by cases h; exact ⟨plain_rows (by decide +kernel), by rw [List.length_append, lr]; simp; omega⟩)
  have k2 := cert_eq (M := M1) (b := .tuple BL2) (r := .tuple (List.replicate (m + 1) row0)) one_wf hbl (fun rs h => by cases h; exact ⟨by have := plain_rows (m := m + 1) (t := []) rfl; rwa [List.append_nil] at this, by rw [lr]; omega⟩)
  have k3 := cert_eq (M := M1) (b := .tuple BL2) (r := .tuple (List.replicate (m + 1) row0 ++ [.tuple [.int 0, .int 1, .int 1]] ++ List.replicate (m + 1) row0)) one_wf hbl (fun rs h => by
    cases h
    refine ⟨?_, by rw [List.length_append, List.length_append, lr]; simp; omega⟩
    rw [List.append_assoc]
    refine plain_rows ?_
    have := plain_rows (m := m + 1) (t := []) rfl
    rw [List.append_nil] at this
    simp [PyData.plainAll, PyData.plain, this])
  have v1 : isCert jOne 1 2 (.tuple BL2) (.tuple (List.replicate (m + 1) row0 ++ [.tuple [.int 0, .int 1, .int 0]])) = true := by
    rw [cert_many (by decide), List.getLastD_concat]; decide
  have v2 : isCert jOne 1 2 (.tuple BL2) (.tuple (List.replicate (m + 1) row0)) = true := by
    have := cert_many (m := m) (t := []) rfl
    rw [List.append_nil] at this
    rw [this, last_rep]; decide
  have v3 : isCert jOne 1 2 (.tuple BL2) (.tuple (List.replicate (m + 1) row0 ++ [.tuple [.int 0, .int 1, .int 1]] ++ List.replicate (m + 1) row0)) = false := by
    rw [List.append_assoc, cert_many (by
      rw [List.all_append]
      have := rows_all (m := m + 1) (t := []) rfl
      rw [List.append_nil] at this
      rw [this]; decide)]
    have : kept [[[]], [[0]]] ((([.tuple [.int 0, .int 1, .int 1]] : List D) ++ List.replicate (m + 1) row0).map rowN) [(0, 0)] = false := by
      show (([0].all fun t => decide (((t : Int), (1 : Int)) ∈ [((0 : Int), (0 : Int))])) && _) = false
      rw [show ([0].all fun t => decide (((t : Int), (1 : Int)) ∈ [((0 : Int), (0 : Int))])) = false from by decide]; rfl
    rw [this, Bool.and_false]
  rw [v1] at k1
  rw [v2] at k2
  rw [v3] at k3
  have eJ : encJ jOne = .tuple [.tuple [.tuple [.none], .tuple [.int 0]]] := rfl
  have eB : BL2 = [.tuple [.tuple [.int 0], .tuple [.int 0], .tuple []], .tuple [.tuple [.int 1], .tuple [.int 1], .tuple []]] := rfl
  have er : row0 = .tuple [.int 0, .int 0, .int 0] := rfl
  rw [er] at mz
  generalize List.replicate (m + 1) row0 ++ [.tuple [.int 0, .int 1, .int 1]] ++ List.replicate (m + 1) row0 = R3 at *
  generalize List.replicate (m + 1) row0 ++ [.tuple [.int 0, .int 1, .int 1]] = R2 at *
  generalize List.replicate (m + 1) row0 ++ [.tuple [.int 0, .int 1, .int 0]] = R1 at *
  rw [← er] at mz
  generalize hR0 : List.replicate (m + 1) row0 = R0 at *
  rw [er] at mz
  rw [eJ, eB] at k1 k2 k3
  have tb : fEq (.list [.bool true, .bool true]) (.list [.bool true, .bool true]) = some (.bool true) := by
    simp [fEq, eqOk, PyData.plain, PyData.plainAll, PyData.depth, PyData.depthAll, PyData.eqv, PyData.eqvAll]
  generalize ((m + 1 : Nat) : Int) = Z at *
  refine body_gen ⟨?_, ?_⟩
  rotate_left 1
  refine seq_gen ⟨?_, ?_, ?_, ?_⟩
  rotate_left 2
  · (conv => lhs; simp [e1, hm]); try exact rfl
  refine seq_gen ⟨?_, ?_, ?_, ?_⟩
  rotate_left 2
  · (conv => lhs; simp [mz]); try exact rfl
  refine seq_gen ⟨?_, ?_, ?_, ?_⟩
  rotate_left 2
  · (conv => lhs; simp [ad1, k1, k2]); try exact rfl
  (conv => lhs; simp [tb, ad2, ad3, k3])
  try exact rfl
/-! _law_pot -/
theorem foldl_app (b : Array Nat) : ∀ (n : Nat) (a : Array Nat), ((List.replicate n b).foldl (· ++ ·) a).toList = a.toList ++ (List.replicate n b.toList).flatten
  | 0, a => by simp
  | n + 1, a => by rw [List.replicate_succ, List.foldl_cons, foldl_app b n, List.replicate_succ, List.flatten_cons, Array.toList_append, List.append_assoc]
theorem zeros_cps : (("1" : Str) ++ Txt.mul "0" 300).cps.toList = 49 :: List.replicate 300 48 := by
  have e1 : Txt.mul "0" 300 = ⟨(List.replicate 300 ("0" : Str).cps).foldl (· ++ ·) #[]⟩ := rfl
  rw [e1]
  show (("1" : Str).cps ++ (List.replicate 300 ("0" : Str).cps).foldl (· ++ ·) #[]).toList = _
  rw [Array.toList_append, foldl_app]
  decide +kernel
theorem big_text : fInt [.str ("1" ++ Txt.mul "0" 300)] = some (.int (10 ^ 300)) := by
  have h0 : (("1" : Str) ++ Txt.mul "0" 300).cps.toList = 49 :: List.replicate 300 48 := zeros_cps
  have h2 : (("1" : Str) ++ Txt.mul "0" 300).length ≤ 640 := by
    show (("1" : Str) ++ Txt.mul "0" 300).cps.size ≤ 640
    rw [← Array.length_toList, h0]; decide +kernel
  have h : PySem.intText? (("1" : Str) ++ Txt.mul "0" 300) = some (10 ^ 300) := by
    rw [intText_digits (by rw [h0]; intro c hc; rcases List.mem_cons.mp hc with e | e; omega; have := (List.mem_replicate.mp e).2; omega) (by rw [h0]; simp) (Nat.le_trans h2 (by decide)), h0]
    decide +kernel
  unfold fInt
  simp only
  rw [if_pos h2, h]; rfl
theorem zeros_len : ("1" : Str).length + (Txt.mul "0" 300).length = 301 := by
  have h : (("1" : Str) ++ Txt.mul "0" 300).cps.toList.length = 301 := by rw [zeros_cps]; decide +kernel
  rw [Array.length_toList] at h
  have e : (("1" : Str) ++ Txt.mul "0" 300).cps.size = ("1" : Str).cps.size + (Txt.mul "0" 300).cps.size := Array.size_append
  rw [e] at h
  exact h
theorem pot_spec {ns : List Int} {k : Int} (h0 : 0 ≤ k) (h1 : k ≤ 100) : ∃ own mixed : Int, g__law_pot [.scr ns, .d (.int k)] M = .ok (.con (.lst [.int own, .int mixed, .int 0])) [] M ∧ 0 ≤ own ∧ 0 ≤ mixed ∧ mixed < 2 ^ 61 := by
  obtain ⟨cell, hc⟩ : ∃ cell : Int, (mIf (mTest (mOp2 fLt (mName 1) (mBlt mScrLen (mCons (mName 0) mNil)))) (mScrIx (mName 0) (mName 1)) (mOpT fAdd (mOpT fMul (mD (.int 5)) (mName 1)) (mD (.int 2)))) [some (.scr ns), some (.d (.int k)), none, none] M = .ok (.d (.int cell)) [some (.scr ns), some (.d (.int k)), none, none] M := by
    by_cases hk : k < ns.length
    · refine ⟨ns[k.toNat]'(by omega), ?_⟩
      have e : atI ns k = some (ns[k.toNat]'(by omega)) := by
        simp [atI, ixN, h0, hk]
      simp [hk, e]
    · refine ⟨5 * k + 2, ?_⟩
      have e : fMul (.int 5) (.int k) = some (.d (.int (5 * k))) := e_mul (.inl (by decide))
      simp [hk, e]
  generalize hab : (if cell < 0 then -cell else cell) = ab
  have a0 : 0 ≤ ab := by subst hab; split <;> omega
  have ea : fAbs [.int cell] = some (.int ab) := by rw [e_abs, hab]
  have ez : fMul (.str "0") (.int 300) = some (.d (.str (Txt.mul "0" 300))) := by
    unfold fMul
    simp only
    rw [if_pos (by decide)]
  have es : fAdd (.str "1") (.str (Txt.mul "0" 300)) = some (.d (.str ("1" ++ Txt.mul "0" 300))) := by
    unfold fAdd
    simp only
    rw [if_pos (by rw [zeros_len]; decide)]
  have em : fMod (.int ab) (.int (10 ^ 300)) = some (.int (ab % 10 ^ 300)) := e_mod (by decide +kernel)
  have ep : fPow (.int 10) (.int 18) = some (.int 1000000000000000000) := by
    rw [e_pow (by decide) (by decide) (Nat.lt_of_lt_of_le (show _ < 2 ^ 4 by decide) (Nat.pow_le_pow_right (by decide) (by decide)))]; rfl
  generalize hb : (if decide (1000000000000000000 ≤ ab) = true then (1 : Int) else 0) = bit
  have b0 : 0 ≤ bit ∧ bit ≤ 1 := by subst hb; split <;> omega
  have eb : fInt [.bool (decide (1000000000000000000 ≤ ab))] = some (.int bit) := by rw [e_intB, hb]
  have eo : fMul (.int (ab % 10 ^ 300)) (.int bit) = some (.d (.int (ab % 10 ^ 300 * bit))) := e_mul (.inr (by omega))
  have e7 : fMul (.int 7919) (.int k) = some (.d (.int (7919 * k))) := e_mul (.inl (by decide))
  have e8 : fMul (.int (7919 * k)) (.int k) = some (.d (.int (7919 * k * k))) := e_mul (.inr (by omega))
  have e9 : fMul (.int (cell % 2305843009213693951 + 7919 * k * k + 17)) (.int 48271) = some (.d (.int ((cell % 2305843009213693951 + 7919 * k * k + 17) * 48271))) := e_mul (.inr (by decide))
  refine ⟨ab % 10 ^ 300 * bit, (cell % 2305843009213693951 + 7919 * k * k + 17) * 48271 % 2305843009213693951, ?_, Int.mul_nonneg (Int.emod_nonneg _ (by decide +kernel)) b0.1, Int.emod_nonneg _ (by decide), ?_⟩
  · unfold g__law_pot m__law_pot
    rw [e_body, e_seq, e_bnd, e_set, e_bnd]
    simp only [List.map_cons, List.map_nil, List.replicate, List.cons_append, List.nil_append, hc]
    simp [ea, ez, es, big_text, em, ep, eb, eo, e7, e8, e9, e_mod, -e_intB]
  · exact Int.lt_of_lt_of_le (Int.emod_lt_of_pos _ (by decide)) (by decide)
/-! _law_mixed -/
theorem pick_perm {α : Type} : ∀ (l : List α) (i : Nat) (h : i < l.length), (l[i] :: l.eraseIdx i).Perm l
  | [], _, h => by simp at h
  | a :: l, 0, _ => List.Perm.refl _
  | a :: l, i + 1, h => by
    have h' : i < l.length := by simpa using h
    exact (List.Perm.swap a l[i] (l.eraseIdx i)).trans ((pick_perm l i h').cons a)
theorem erase_map {α β : Type} (f : α → β) : ∀ (l : List α) (i : Nat), (l.map f).eraseIdx i = (l.eraseIdx i).map f
  | [], _ => rfl
  | a :: l, 0 => rfl
  | a :: l, i + 1 => by simp [erase_map f l i]
theorem ne_nil {xs : List Int} : fNe (.list (xs.map PyData.int)) (.list []) = some (.bool (!xs.isEmpty)) := by
  have hp : ∀ l : List Int, PyData.plainAll (l.map PyData.int) = true := fun l => by
    induction l with
    | nil => rfl
    | cons a l ih => simp [PyData.plainAll, PyData.plain, ih]
  unfold fNe eqOk
  cases xs with
  | nil => simp [PyData.plain, PyData.plainAll, PyData.depth, PyData.depthAll, PyData.eqv, PyData.eqvAll]
  | cons a l => simp [PyData.plain, PyData.plainAll, PyData.depth, PyData.depthAll, PyData.eqv, PyData.eqvAll, hp]
theorem mixed_spec {B : Int} {n : Nat} {xs : List Int} (hp : Pot B n M) (hB : B < 900000000) (h1 : xs.length < 100000) : ∃ ys : List Int, ∃ M', g__law_mixed [.ref n, .d (.list (xs.map PyData.int))] M = .ok (.con (.lst (ys.map PyData.int))) [] M' ∧ ys.Perm xs ∧ Pot (B + xs.length) n M' ∧ M'.length = M.length := by
  obtain ⟨δ', M', ew, ys, hf, rfl, hpm, hpp, hll⟩ := whileF_spec (c := c__law_mixed_1) (b := l__law_mixed_1)
    (I := fun k δ M2 => ∃ left found : List Int, left.length = k ∧ δ = [some (.ref n), some (.d (.list (xs.map PyData.int))), some (.con (.lst (left.map PyData.int))), some (.con (.lst (found.map PyData.int)))] ∧ (found ++ left).Perm xs ∧ Pot (B + (xs.length : Int) - k) n M2 ∧ M2.length = M.length)
    (F := fun δ M2 => ∃ found : List Int, True ∧ δ = [some (.ref n), some (.d (.list (xs.map PyData.int))), some (.con (.lst [])), some (.con (.lst (found.map PyData.int)))] ∧ found.Perm xs ∧ Pot (B + (xs.length : Int)) n M2 ∧ M2.length = M.length)
    (by
      rintro k δ M2 ⟨left, found, hk, rfl, hpm, hpt, hl⟩
      have hlen : left.length ≤ xs.length := by have := hpm.length_eq; simp at this; omega
      cases left with
      | nil =>
        refine .inl ⟨_, M2, ?_, found, trivial, rfl, by simpa using hpm, by simpa [← hk] using hpt, hl⟩
        have e := ne_nil (xs := [])
        simp only [List.map_nil] at e
        simp [c__law_mixed_1, e]
      | cons a l =>
        obtain ⟨v, M3, e3, v0, v1, p3, l3⟩ := take_spec (m := ((a :: l).length : Nat)) hpt (by simp at hk hlen ⊢; omega) (by simp <;> omega) (by simp at hlen ⊢; omega)
        have hv : v.toNat < (a :: l).length := by omega
        have hb : ((a :: l).length : Int) ≤ 100000 := by simp at hlen ⊢; omega
        refine .inr ⟨k - 1, [some (.ref n), some (.d (.list (xs.map PyData.int))), some (.con (.lst ((a :: l).map PyData.int))), some (.con (.lst (found.map PyData.int)))], M2, [some (.ref n), some (.d (.list (xs.map PyData.int))), some (.con (.lst (((a :: l).eraseIdx v.toNat).map PyData.int))), some (.con (.lst ((found ++ [(a :: l)[v.toNat]]).map PyData.int)))], M3, by simp at hk; omega, ?_, ?_, (a :: l).eraseIdx v.toNat, found ++ [(a :: l)[v.toNat]], by rw [List.length_eraseIdx_of_lt hv]; omega, rfl, ?_, p3.mono (by simp at hk ⊢; omega), by omega⟩
        · have e := ne_nil (xs := a :: l)
          simp only [List.map_cons] at e
          simp [c__law_mixed_1, e]
        · have es : small62 v = true := small62_iff.mpr ⟨by omega, by omega⟩
          have ei : seqIndex? v (a :: l).length = some v.toNat := by
            rw [seqIndex_of v0 (by omega)]
          have hfl : found.length < 16000000 := by
            have := hpm.length_eq
            simp at this
            omega
          have hfp : fPopAt ((a :: l).map PyData.int) [.int v] = some (((a :: l).eraseIdx v.toNat).map PyData.int, .int ((a :: l)[v.toNat])) := by
            unfold fPopAt
            simp only [List.length_map, es, if_true, ei, Option.bind_some]
            rw [List.getElem?_map, List.getElem?_eq_getElem hv, erase_map]
            rfl
          have hfa : fAppend (found.map PyData.int) [.int ((a :: l)[v.toNat])] = some (found.map PyData.int ++ [.int ((a :: l)[v.toNat])], .none) := by
            unfold fAppend
            simp [hfl]
          simp only [List.map_cons, List.length_cons] at hfp e3 hfa
          push_cast at e3
          simp [l__law_mixed_1, e3, hfp, hfa]
        · rw [List.append_assoc]
          exact (List.Perm.append_left found (pick_perm _ _ hv)).trans hpm) 1000000 xs.length [some (.ref n), some (.d (.list (xs.map PyData.int))), some (.con (.lst (xs.map PyData.int))), some (.con (.lst []))] M ⟨xs, [], rfl, rfl, by simp, by simpa using hp, rfl⟩ (by omega)
  refine ⟨ys, M', ?_, hpm, hpp, hll⟩
  simp [g__law_mixed, m__law_mixed, ew]
end
instance : Rest := ⟨[]⟩
theorem word_isM {n m : Nat} {o : List Nat} (h : ∀ y ∈ o, y < n) (hl : o.length ≤ m) : isWordM m n (encW o) = true := by
  simp only [isWordM, encW, Bool.and_eq_true, decide_eq_true_eq, List.all_eq_true, List.length_map]
  refine ⟨hl, fun d hd => ?_⟩
  obtain ⟨y, hy, rfl⟩ := List.mem_map.mp hd
  exact inIx_nat (h y hy)
/-! the relations, in a form that can be computed -/
def sortK (ns : List Int) : List Int := [0, 1, 2].filter fun i => decide (i ∈ ns)
theorem sortK_eq {ns : List Int} (h : ∀ x ∈ ns, 0 ≤ x ∧ x < 3) : sortSet ns = sortK ns := by
  refine (sortSet_of (ns := ns) (ns' := sortK ns) ?_ fun k => ?_).symm
  · exact List.Pairwise.filter _ (by decide)
  · unfold sortK
    rw [List.mem_filter]
    constructor
    · exact fun h => h.2
    · intro hk
      refine ⟨?_, hk⟩
      have := h k (of_decide_eq_true hk)
      simp only [List.mem_cons, List.not_mem_nil, or_false]
      omega
def stepK (j : Jt) (x : Nat) (row : List Int) : List Int := sortK (row.flatMap fun h => entsOf (j[h.toNat]?.getD []) x)
def reachK (j : Jt) (w : List Nat) : List (List Int) := (List.range j.length).map fun s : Nat => w.foldl (fun row x => stepK j x row) [(s : Int)]
theorem step_eq {X Y : Nat} {j : Jt} (w : WfJ 3 X Y j) {x : Nat} {row : List Int} (hb : ∀ i ∈ row, 0 ≤ i ∧ i < ((3 : Nat) : Int)) : stepR j x row = stepK j x row := by
  unfold stepR
  exact sortK_eq fun i hi => by
    have := foldW_bnd w [x] row hb i (show i ∈ stepR j x row by unfold stepR; exact mem_sortSet.mpr hi)
    omega
theorem fold_eq {X Y : Nat} {j : Jt} (w : WfJ 3 X Y j) : ∀ (wd : List Nat) (row : List Int), (∀ i ∈ row, 0 ≤ i ∧ i < ((3 : Nat) : Int)) → foldW j wd row = wd.foldl (fun row x => stepK j x row) row
  | [], _, _ => rfl
  | x :: wd, row, hb => by
    have e := fold_eq w wd (stepR j x row) (fun i hi => foldW_bnd w [x] row hb i hi)
    show foldW j wd (stepR j x row) = _
    rw [e, step_eq w hb]; rfl
theorem reach_fun {X Y : Nat} {j : Jt} (w : WfJ 3 X Y j) : reachR j = reachK j := by
  funext wd
  unfold reachR reachK
  refine List.map_congr_left fun s hs => fold_eq w wd _ fun i hi => ?_
  have := List.mem_range.mp hs
  rw [w.len] at this
  rw [List.mem_singleton.mp hi]; omega
def isBlkR (R : List Nat → List (List Int)) (X : Nat) : D → Bool
  | .tuple [u, p, q] => isWordM 2000 X u && (isWordM 2000 X p && isWordM 2000 X q) && (!(natsD p).isEmpty && decide (R (natsD u) = R (natsD u ++ natsD p)))
  | _ => false
def blkRelR (R : List Nat → List (List Int)) : D → List (List Int)
  | .tuple [u, _, q] => R (natsD u ++ natsD q)
  | _ => []
def isCertR (R : List Nat → List (List Int)) (N X : Nat) (b r : D) : Bool := match b, r with
  | .tuple bs, .tuple rs => (!bs.isEmpty && bs.all (isBlkR R X)) && ((!rs.isEmpty && rs.all (isRow N bs.length)) && (decide ((rowN (rs.getLastD .none)).1 = 0) && kept (bs.map (blkRelR R)) (rs.map rowN) []))
  | _, _ => false
theorem blkR_eq {j : Jt} {X : Nat} : isBlk j X = isBlkR (reachR j) X := by
  funext d
  unfold isBlk isBlkR
  rfl
theorem relR_eq {j : Jt} : blkRel j = blkRelR (reachR j) := by
  funext d
  unfold blkRel blkRelR
  rfl
theorem certR_eq {j : Jt} {N X : Nat} {b r : D} : isCert j N X b r = isCertR (reachR j) N X b r := by
  unfold isCert isCertR
  rw [blkR_eq, relR_eq]
  try rfl
theorem zkey : OS.all (fun o => XS.all fun xs => YS.all fun ys => (List.range 10).all fun a => decide (reachK (plantJ o xs ys) (List.replicate (a + 1) (xs[0]?.getD 0)) = reachK (plantJ o xs ys) [xs[0]?.getD 0])) = true := by decide +kernel
theorem all3 {P : List Nat → List Nat → List Nat → Bool} (h : OS.all (fun o => XS.all fun xs => YS.all fun ys => P o xs ys) = true) {o xs ys : List Nat} (ho : o ∈ OS) (hx : xs ∈ XS) (hy : ys ∈ YS) : P o xs ys = true := by
  rw [List.all_eq_true] at h
  have := h o ho
  rw [List.all_eq_true] at this
  have := this xs hx
  rw [List.all_eq_true] at this
  exact this ys hy
theorem zblk_eq {o ys : List Nat} {x y z a b : Nat} {q : List Nat} (ho : o ∈ OS) (hx : [x, y, z] ∈ XS) (hy : ys ∈ YS) (a1 : 1 ≤ a) (a5 : a ≤ 5) (b1 : 1 ≤ b) (b5 : b ≤ 5) (hq : ∀ i ∈ q, i < 3) (hl : q.length ≤ 10) (hx3 : x < 3) :
    isBlk (plantJ o [x, y, z] ys) 3 (zBlk x a b q) = true ∧ blkRel (plantJ o [x, y, z] ys) (zBlk x a b q) = reachR (plantJ o [x, y, z] ys) (x :: q) := by
  have k := all3 zkey ho hx hy
  rw [List.all_eq_true] at k
  have w := plant_wf ho hx hy
  have hr : ∀ c, 1 ≤ c → c ≤ 10 → reachR (plantJ o [x, y, z] ys) (List.replicate c x) = reachR (plantJ o [x, y, z] ys) [x] := fun c h1 h2 => by
    have := k (c - 1) (List.mem_range.mpr (by omega))
    rw [decide_eq_true_eq, Nat.sub_add_cancel h1, ← reach_fun w] at this
    exact this
  generalize plantJ o [x, y, z] ys = j at *
  have hz : ∀ c, c ≤ 10 → isWordM 2000 3 (encW (List.replicate c x)) = true := fun c h => word_isM (fun i hi => by rw [(List.mem_replicate.mp hi).2]; exact hx3) (by rw [List.length_replicate]; omega)
  have hq3 : isWordM 2000 3 (encW q) = true := word_isM (n := 3) hq (by omega)
  constructor
  · show (isWordM 2000 3 _ && (isWordM 2000 3 _ && isWordM 2000 3 _) && (!(natsD _).isEmpty && decide (reachR j (natsD _) = reachR j (natsD _ ++ natsD _)))) = true
    rw [hz a (by omega), hz b (by omega), hq3, nats_enc, nats_enc, List.replicate_append_replicate, hr a a1 (by omega), hr (a + b) (by omega) (by omega)]
    cases b with
    | zero => omega
    | succ b => simp [List.replicate_succ]
  · show reachR j (natsD _ ++ natsD _) = _
    rw [nats_enc, nats_enc, ← reachR_app w, hr a a1 (by omega), reachR_app w]; rfl
theorem cert_congr {j : Jt} {N X : Nat} {bs bs' : List D} (h1 : bs.map (isBlk j X) = bs'.map (isBlk j X)) (h2 : bs.map (blkRel j) = bs'.map (blkRel j)) (r : D) : isCert j N X (.tuple bs) r = isCert j N X (.tuple bs') r := by
  have hl : bs.length = bs'.length := by have := congrArg List.length h1; simpa using this
  have he : bs.isEmpty = bs'.isEmpty := by cases bs <;> cases bs' <;> simp_all
  have ha : bs.all (isBlk j X) = bs'.all (isBlk j X) := by
    have e : ∀ l : List D, l.all (isBlk j X) = (l.map (isBlk j X)).all id := fun l => by rw [List.all_map]; rfl
    rw [e, e, h1]
  cases r with
  | tuple rs =>
    show ((!bs.isEmpty && bs.all (isBlk j X)) && ((!rs.isEmpty && rs.all (isRow N bs.length)) && (_ && kept (bs.map (blkRel j)) (rs.map rowN) []))) = ((!bs'.isEmpty && bs'.all (isBlk j X)) && ((!rs.isEmpty && rs.all (isRow N bs'.length)) && (_ && kept (bs'.map (blkRel j)) (rs.map rowN) [])))
    rw [he, ha, hl, h2]
  | _ => rfl
def certV (j : Jt) : D → Bool
  | .tuple [b, r] => isCert j 3 3 b r
  | _ => true
theorem certV_tup {j : Jt} {b r : D} : certV j (.tuple [b, r]) = isCert j 3 3 b r := rfl
def certW (j : Jt) : D → Bool
  | .tuple [b, r] => isCertR (reachK j) 3 3 b r
  | _ => true
theorem certW_eq {X Y : Nat} {j : Jt} (w : WfJ 3 X Y j) {v : D} : certV j v = certW j v := by
  unfold certV certW
  split
  · rw [certR_eq, reach_fun w]
  · rfl
def BADZ (x y z o0 o1 : Nat) (b0 b1 b2 : D) (a b : Nat) : List D := BADS x y z o0 o1 b0 b1 b2 (rowD a 2 0) (rowD b 1 2) (rowD a 0 2) (rowD b 0 1) (rowD 0 0 0)
theorem fkey : OS.all (fun o => XS.all fun xs => YS.all fun ys =>
    (GOODS (o[1]?.getD 0) (o[2]?.getD 0)).all (fun r => isCertR (reachK (plantJ o xs ys)) 3 3 (.tuple (BLKS (xs[0]?.getD 0) (xs[1]?.getD 0) (xs[2]?.getD 0) 1 1 1 1 1 1)) r) &&
    (BADZ (xs[0]?.getD 0) (xs[1]?.getD 0) (xs[2]?.getD 0) 0 (o[1]?.getD 0) (zBlk (xs[0]?.getD 0) 1 1 []) (zBlk (xs[0]?.getD 0) 1 1 [xs[1]?.getD 0]) (zBlk (xs[0]?.getD 0) 1 1 [xs[2]?.getD 0]) (o[1]?.getD 0) (o[2]?.getD 0)).all (fun v => !certW (plantJ o xs ys) v)) = true := by decide +kernel
theorem both_ok {ys : List Nat} {x y z a b l0 l1 l2 l3 l4 l5 : Nat} (ho : [0, a, b] ∈ OS) (hx : [x, y, z] ∈ XS) (hy : ys ∈ YS) (b0 : 1 ≤ l0 ∧ l0 ≤ 5) (b1 : 1 ≤ l1 ∧ l1 ≤ 5) (b2 : 1 ≤ l2 ∧ l2 ≤ 5) (b3 : 1 ≤ l3 ∧ l3 ≤ 5) (b4 : 1 ≤ l4 ∧ l4 ≤ 5) (b5 : 1 ≤ l5 ∧ l5 ≤ 5) :
    (∀ r ∈ GOODS a b, isCert (plantJ [0, a, b] [x, y, z] ys) 3 3 (.tuple (BLKS x y z l0 l1 l2 l3 l4 l5)) r = true) ∧
    (∀ v ∈ BADZ x y z 0 a (zBlk x l0 l1 []) (zBlk x l2 l3 [y]) (zBlk x l4 l5 [z]) a b, certV (plantJ [0, a, b] [x, y, z] ys) v = false) := by
  have k := all3 fkey ho hx hy
  simp only [Bool.and_eq_true] at k
  obtain ⟨k1, k2⟩ := k
  have hlt : x < 3 ∧ y < 3 ∧ z < 3 := by
    simp only [XS, List.mem_cons, List.not_mem_nil, or_false, List.cons.injEq, and_true] at hx
    omega
  obtain ⟨p0, q0⟩ := zblk_eq (q := []) ho hx hy b0.1 b0.2 b1.1 b1.2 (fun _ h => nomatch h) (by simp) hlt.1
  obtain ⟨p1, q1⟩ := zblk_eq (q := [y]) ho hx hy b2.1 b2.2 b3.1 b3.2 (fun i h => by rw [List.mem_singleton.mp h]; exact hlt.2.1) (by simp) hlt.1
  obtain ⟨p2, q2⟩ := zblk_eq (q := [z]) ho hx hy b4.1 b4.2 b5.1 b5.2 (fun i h => by rw [List.mem_singleton.mp h]; exact hlt.2.2) (by simp) hlt.1
  obtain ⟨u0, v0⟩ := zblk_eq (a := 1) (b := 1) (q := []) ho hx hy (by decide) (by decide) (by decide) (by decide) (fun _ h => nomatch h) (by simp) hlt.1
  obtain ⟨u1, v1⟩ := zblk_eq (a := 1) (b := 1) (q := [y]) ho hx hy (by decide) (by decide) (by decide) (by decide) (fun i h => by rw [List.mem_singleton.mp h]; exact hlt.2.1) (by simp) hlt.1
  obtain ⟨u2, v2⟩ := zblk_eq (a := 1) (b := 1) (q := [z]) ho hx hy (by decide) (by decide) (by decide) (by decide) (fun i h => by rw [List.mem_singleton.mp h]; exact hlt.2.2) (by simp) hlt.1
  have w := plant_wf ho hx hy
  have k1 : (GOODS a b).all (fun r => isCertR (reachK (plantJ [0, a, b] [x, y, z] ys)) 3 3 (.tuple [zBlk x 1 1 [], zBlk x 1 1 [y], zBlk x 1 1 [z]]) r) = true := k1
  have k2 : (BADZ x y z 0 a (zBlk x 1 1 []) (zBlk x 1 1 [y]) (zBlk x 1 1 [z]) a b).all (fun v => !certW (plantJ [0, a, b] [x, y, z] ys) v) = true := k2
  have k1 : ∀ r ∈ GOODS a b, isCert (plantJ [0, a, b] [x, y, z] ys) 3 3 (.tuple [zBlk x 1 1 [], zBlk x 1 1 [y], zBlk x 1 1 [z]]) r = true := fun r hr => by
    rw [certR_eq, reach_fun w]
    exact List.all_eq_true.mp k1 r hr
  have k2 : (BADZ x y z 0 a (zBlk x 1 1 []) (zBlk x 1 1 [y]) (zBlk x 1 1 [z]) a b).all (fun v => !certV (plantJ [0, a, b] [x, y, z] ys) v) = true := by
    rw [List.all_eq_true] at k2 ⊢
    intro v hv
    rw [certW_eq w]; exact k2 v hv
  have hB : BLKS x y z l0 l1 l2 l3 l4 l5 = [zBlk x l0 l1 [], zBlk x l2 l3 [y], zBlk x l4 l5 [z]] := rfl
  rw [hB]
  clear w
  generalize plantJ [0, a, b] [x, y, z] ys = j at *
  generalize zBlk x l0 l1 [] = A0 at *
  generalize zBlk x l2 l3 [y] = A1 at *
  generalize zBlk x l4 l5 [z] = A2 at *
  generalize zBlk x 1 1 [] = Z0 at *
  generalize zBlk x 1 1 [y] = Z1 at *
  generalize zBlk x 1 1 [z] = Z2 at *
  have c : ∀ r, isCert j 3 3 (.tuple [A0, A1, A2]) r = isCert j 3 3 (.tuple [Z0, Z1, Z2]) r := cert_congr (by simp [p0, p1, p2, u0, u1, u2]) (by simp [q0, q1, q2, v0, v1, v2])
  have c1 : ∀ X r, isCert j 3 3 (.tuple [A0, A1, X]) r = isCert j 3 3 (.tuple [Z0, Z1, X]) r := fun X => cert_congr (by simp [p0, p1, u0, u1]) (by simp [q0, q1, v0, v1])
  have c2 : ∀ X r, isCert j 3 3 (.tuple [X, A1, A2]) r = isCert j 3 3 (.tuple [X, Z1, Z2]) r := fun X => cert_congr (by simp [p1, p2, u1, u2]) (by simp [q1, q2, v1, v2])
  have c3 : ∀ r, isCert j 3 3 (.tuple [A0, A2, A1]) r = isCert j 3 3 (.tuple [Z0, Z2, Z1]) r := cert_congr (by simp [p0, p1, p2, u0, u1, u2]) (by simp [q0, q1, q2, v0, v1, v2])
  have c4 : ∀ r, isCert j 3 3 (.tuple [A0, A1]) r = isCert j 3 3 (.tuple [Z0, Z1]) r := cert_congr (by simp [p0, p1, u0, u1]) (by simp [q0, q1, v0, v1])
  refine ⟨fun r hr => by rw [c]; exact k1 r hr, ?_⟩
  have hrow : isBlk j 3 (rowD a 2 0) = false := rfl
  have c5 : ∀ B : D, isCert j 3 3 (.tuple [rowD a 2 0, rowD b 1 2, rowD a 0 2, rowD b 0 1, rowD 0 0 0]) B = false := fun B => by
    unfold isCert
    cases B <;> simp [hrow]
  simp only [BADZ, BADS, List.all_cons, List.all_nil, certV_tup, Bool.and_true, Bool.and_eq_true, Bool.not_eq_true'] at k2
  intro v hv
  simp only [BADZ, BADS, List.mem_cons, List.not_mem_nil, or_false] at hv
  obtain ⟨e1, e2, e3, e4, e5, e6, e7, e8, e9, e10, e11, e12, e13, e14, e15⟩ := k2
  rcases hv with rfl | rfl | rfl | rfl | rfl | rfl | rfl | rfl | rfl | rfl | rfl | rfl | rfl | rfl | rfl
  · rw [certV_tup, c]; exact e1
  · rw [certV_tup, c]; exact e2
  · rw [certV_tup, c]; exact e3
  · rw [certV_tup, c]; exact e4
  · rw [certV_tup, c]; exact e5
  · rw [certV_tup, c]; exact e6
  · rw [certV_tup, c]; exact e7
  · rw [certV_tup, c1]; exact e8
  · rw [certV_tup, c2]; exact e9
  · rw [certV_tup, c2]; exact e10
  · rw [certV_tup, c3]; exact e11
  · rw [certV_tup, c4]; exact e12
  · rw [certV_tup]; exact c5 _
  · rw [certV_tup]; exact e14
  · rw [certV_tup]; exact e15
/-- what may be asked -/
def okB (d : D) : Prop := ∀ bs, d = .tuple bs → PyData.plainAll bs = true ∧ bs.length ≤ 1000000
theorem okT {bs : List D} (h : PyData.plainAll bs = true) (hl : bs.length ≤ 1000000) : okB (.tuple bs) := fun bs' e => by cases e; exact ⟨h, hl⟩
theorem okL {bs : List D} : okB (.list bs) := fun _ e => by cases e
theorem z_plain {x a b : Nat} {q : List Nat} : (zBlk x a b q).plain = true := by
  show PyData.plainAll [encW _, encW _, encW _] = true
  have h : ∀ l : List Nat, (encW l).plain = true := fun l => plain_nats l
  simp [PyData.plainAll, h]
theorem r_plain {a b c : Nat} : (rowD a b c).plain = true := rfl
theorem bad_shape {x y z a b : Nat} {b0 b1 b2 : D} (h0 : b0.plain = true) (h1 : b1.plain = true) (h2 : b2.plain = true) : ∀ v ∈ BADZ x y z 0 a b0 b1 b2 a b, ∃ b r, v = .tuple [b, r] ∧ okB b ∧ okB r := by
  intro v hv
  simp only [BADZ, BADS, List.mem_cons, List.not_mem_nil, or_false] at hv
  rcases hv with rfl | rfl | rfl | rfl | rfl | rfl | rfl | rfl | rfl | rfl | rfl | rfl | rfl | rfl | rfl <;>
    exact ⟨_, _, rfl, by first | exact okL | exact okT (by simp [PyData.plainAll, PyData.plain, h0, h1, h2, r_plain]) (by simp), by first | exact okL | exact okT (by simp [PyData.plainAll, PyData.plain, h0, h1, h2, r_plain]) (by simp)⟩
theorem good_ok {a b : Nat} : ∀ r ∈ GOODS a b, okB r := by
  intro r hr
  simp only [GOODS, ROWS, List.mem_cons, List.not_mem_nil, or_false] at hr
  rcases hr with rfl | rfl | rfl | rfl <;> exact okT (by simp [PyData.plainAll, r_plain]) (by simp)
theorem perm2 {u v : Int} (huv : u ≠ v) {ys : List Int} (h : ys.Perm [u, v]) : ys = [u, v] ∨ ys = [v, u] := by
  have hl := h.length_eq
  match ys, hl with
  | [a, b], _ =>
    have ha := h.mem_iff.mp (show a ∈ [a, b] by simp)
    have hb := h.mem_iff.mp (show b ∈ [a, b] by simp)
    have hn : [a, b].Nodup := h.nodup_iff.mpr (by simp [huv])
    simp only [List.mem_cons, List.not_mem_nil, or_false] at ha hb
    rcases ha with rfl | rfl <;> rcases hb with rfl | rfl <;> simp_all
theorem perm3 {ys : List Int} (h : ys.Perm [0, 1, 2]) : ∃ xs ∈ XS, ys.map PyData.int = xs.map fun x : Nat => PyData.int (x : Int) := by
  have hl := h.length_eq
  match ys, hl with
  | [a, b, c], _ =>
    have ha := h.mem_iff.mp (show a ∈ [a, b, c] by simp)
    have hb := h.mem_iff.mp (show b ∈ [a, b, c] by simp)
    have hc := h.mem_iff.mp (show c ∈ [a, b, c] by simp)
    have hn : [a, b, c].Nodup := h.nodup_iff.mpr (by decide)
    simp only [List.mem_cons, List.not_mem_nil, or_false] at ha hb hc
    rcases ha with rfl | rfl | rfl <;> rcases hb with rfl | rfl | rfl <;> rcases hc with rfl | rfl | rfl <;> first
      | (exact absurd hn (by decide))
      | (exact ⟨[0, 1, 2], by decide, rfl⟩)
      | (exact ⟨[0, 2, 1], by decide, rfl⟩)
      | (exact ⟨[1, 0, 2], by decide, rfl⟩)
      | (exact ⟨[1, 2, 0], by decide, rfl⟩)
      | (exact ⟨[2, 0, 1], by decide, rfl⟩)
      | (exact ⟨[2, 1, 0], by decide, rfl⟩)
theorem shape3 {xs : List Nat} (h : xs ∈ XS) : ∃ x y z, xs = [x, y, z] := by
  simp only [XS, List.mem_cons, List.not_mem_nil, or_false] at h
  rcases h with rfl | rfl | rfl | rfl | rfl | rfl <;> exact ⟨_, _, _, rfl⟩
theorem law_turn {n : Nat} {o0 o2 o3 o4 o5 o6 o7 o8 : Option T} {B : Int} (hp : Pot B n M) (hB : B < 700000000) : ∃ o3' o4' o5' o6' o7' o8' M', l_law_1 [o0, some (.ref n), o2, o3, o4, o5, o6, o7, o8, none, none] M = .ok .nx [o0, some (.ref n), o2, o3', o4', o5', o6', o7', o8', none, none] M' ∧ Pot (B + 20) n M' := by
  obtain ⟨p1, M1, e1, h1, q1, l1⟩ := mixed_spec (xs := [1, 2]) hp (by omega) (by decide)
  obtain ⟨p2, M2, e2, h2, q2, l2⟩ := mixed_spec (xs := [0, 1, 2]) q1 (by simp; omega) (by decide)
  obtain ⟨p3, M3, e3, h3, q3, l3⟩ := mixed_spec (xs := [0, 1]) q2 (by simp; omega) (by decide)
  obtain ⟨a, b, ho, f1⟩ : ∃ a b : Nat, [0, a, b] ∈ OS ∧ p1.map PyData.int = [PyData.int (a : Int), .int (b : Int)] := by
    rcases perm2 (by decide) h1 with rfl | rfl
    · exact ⟨1, 2, by decide, rfl⟩
    · exact ⟨2, 1, by decide, rfl⟩
  obtain ⟨xs, hx, f2⟩ := perm3 h2
  obtain ⟨x, y, z, rfl⟩ := shape3 hx
  obtain ⟨ys, hy, f3⟩ : ∃ ys ∈ YS, p3.map PyData.int = ys.map fun x : Nat => PyData.int (x : Int) := by
    rcases perm2 (by decide) h3 with rfl | rfl
    · exact ⟨[0, 1], by decide, rfl⟩
    · exact ⟨[1, 0], by decide, rfl⟩
  rw [f1] at e1
  rw [f2] at e2
  rw [f3] at e3
  obtain ⟨k0, k1, k2, k3, k4, k5, M4, e4, b0, b1, b2, b3, b4, b5, q4, l4⟩ := papers_spec (a := a) (b := b) (x := x) (y := y) (z := z) q3 (by simp; omega)
  have e5 := bads_eq (M := M4) (x := x) (y := y) (z := z) (o0 := 0) (o1 := a) (o2 := b) (b0 := zBlk x k0 k1 []) (b1 := zBlk x k2 k3 [y]) (b2 := zBlk x k4 k5 [z]) (r0 := rowD a 2 0) (r1 := rowD b 1 2) (r2 := rowD a 0 2) (r3 := rowD b 0 1) (r4 := rowD 0 0 0)
  obtain ⟨good, bad⟩ := both_ok ho hx hy b0 b1 b2 b3 b4 b5
  have w := plant_wf ho hx hy
  have ej := endless_eq (M := M3)
  have et := turned_eq (M := M3) ho hx hy
  have hbl : okB (.tuple (BLKS x y z k0 k1 k2 k3 k4 k5)) := okT (by simp [BLKS, PyData.plainAll, z_plain]) (by simp [BLKS])
  have bsh := bad_shape (x := x) (y := y) (z := z) (a := a) (b := b) (z_plain (x := x) (a := k0) (b := k1) (q := [])) (z_plain (x := x) (a := k2) (b := k3) (q := [y])) (z_plain (x := x) (a := k4) (b := k5) (q := [z]))
  have hB : BLKS x y z k0 k1 k2 k3 k4 k5 = [zBlk x k0 k1 [], zBlk x k2 k3 [y], zBlk x k4 k5 [z]] := rfl
  have hGl : (GOODS a b).length = 4 := rfl
  have hG0 : fIx (.list (GOODS a b)) (.int 0) = some (.d (.tuple [rowD a 2 0, rowD b 1 2, rowD a 0 2, rowD b 0 1, rowD 0 0 0])) := rfl
  have hgo := good_ok (a := a) (b := b)
  have hZl : (BADZ x y z 0 a (zBlk x k0 k1 []) (zBlk x k2 k3 [y]) (zBlk x k4 k5 [z]) a b).length = 15 := rfl
  have hZ : BADS x y z 0 a (zBlk x k0 k1 []) (zBlk x k2 k3 [y]) (zBlk x k4 k5 [z]) (rowD a 2 0) (rowD b 1 2) (rowD a 0 2) (rowD b 0 1) (rowD 0 0 0) = BADZ x y z 0 a (zBlk x k0 k1 []) (zBlk x k2 k3 [y]) (zBlk x k4 k5 [z]) a b := rfl
  rw [hZ] at e5
  rw [hB] at hbl good e4
  generalize BADZ x y z 0 a (zBlk x k0 k1 []) (zBlk x k2 k3 [y]) (zBlk x k4 k5 [z]) a b = bz at *
  generalize [zBlk x k0 k1 [], zBlk x k2 k3 [y], zBlk x k4 k5 [z]] = bk at *
  generalize GOODS a b = gd at *
  generalize [rowD a 2 0, rowD b 1 2, rowD a 0 2, rowD b 0 1, rowD 0 0 0] = rw0 at *
  have eo : encL [0, a, b] = .list [.int 0, .int (a : Int), .int (b : Int)] := rfl
  have f0 : fAdd (.list [.int 0]) (.list [.int (a : Int), .int (b : Int)]) = some (.con (.lst [.int 0, .int (a : Int), .int (b : Int)])) := e_addL (by simp)
  rw [eo] at e4 e5 et
  have ex : encL [x, y, z] = .list ([x, y, z].map fun x : Nat => PyData.int (x : Int)) := rfl
  have ey : encL ys = .list (ys.map fun x : Nat => PyData.int (x : Int)) := rfl
  rw [ex] at e4 e5 et
  rw [ey] at et
  generalize plantJ [0, a, b] [x, y, z] ys = j at *
  generalize [x, y, z].map (fun x : Nat => PyData.int (x : Int)) = X1 at *
  generalize ys.map (fun x : Nat => PyData.int (x : Int)) = Y1 at *
  have c1 := mLc_map (vs := [9]) (tg := mNm 9) (te := e_law_2) (F := fun _ => .bool true) (g := i_law_2) (M := M4) (M1 := M4) (ds := gd) (δ := [o0, some (.ref n), o2, some (.d (.list [.int 0, .int (a : Int), .int (b : Int)])), some (.d (.list X1)), some (.d (.list Y1)), some (.d (encJ j)), some (.d (.tuple bk)), some (.d (.list gd)), none, none]) (δ1 := [o0, some (.ref n), o2, some (.d (.list [.int 0, .int (a : Int), .int (b : Int)])), some (.d (.list X1)), some (.d (.list Y1)), some (.d (encJ j)), some (.d (.tuple bk)), some (.d (.list gd)), none, none]) (by simp [i_law_2]) (by omega) (fun r hr => by
    have e := cert_eq (M := M4) (b := .tuple bk) (r := r) w hbl (hgo r hr)
    rw [good r hr] at e
    exact ⟨[o0, some (.ref n), o2, some (.d (.list [.int 0, .int (a : Int), .int (b : Int)])), some (.d (.list X1)), some (.d (.list Y1)), some (.d (encJ j)), some (.d (.tuple bk)), some (.d (.list gd)), some (.d r), none], [o0, some (.ref n), o2, some (.d (.list [.int 0, .int (a : Int), .int (b : Int)])), some (.d (.list X1)), some (.d (.list Y1)), some (.d (encJ j)), some (.d (.tuple bk)), some (.d (.list gd)), some (.d r), none], rfl, by simp [e_law_2, e], rfl⟩)
  replace c1 : mLc [9] i_law_2 (mNm 9) (ret true) e_law_2 [o0, some (.ref n), o2, some (.d (.list [.int 0, .int (a : Int), .int (b : Int)])), some (.d (.list X1)), some (.d (.list Y1)), some (.d (encJ j)), some (.d (.tuple bk)), some (.d (.list gd)), none, none] M4 = .ok (.con (.lst (gd.map fun _ => .bool true))) [o0, some (.ref n), o2, some (.d (.list [.int 0, .int (a : Int), .int (b : Int)])), some (.d (.list X1)), some (.d (.list Y1)), some (.d (encJ j)), some (.d (.tuple bk)), some (.d (.list gd)), none, none] M4 := c1
  have c2 := mLc_map (vs := [10]) (tg := mNm 10) (te := e_law_1) (F := fun _ => .bool true) (g := i_law_1) (M := M4) (M1 := M4) (ds := bz) (δ := [o0, some (.ref n), o2, some (.d (.list [.int 0, .int (a : Int), .int (b : Int)])), some (.d (.list X1)), some (.d (.list Y1)), some (.d (encJ j)), some (.d (.tuple bk)), some (.d (.list gd)), none, none]) (δ1 := [o0, some (.ref n), o2, some (.d (.list [.int 0, .int (a : Int), .int (b : Int)])), some (.d (.list X1)), some (.d (.list Y1)), some (.d (encJ j)), some (.d (.tuple bk)), some (.d (.list gd)), none, none]) (by simp [i_law_1, hG0, e5]) (by omega) (fun v hv => by
    obtain ⟨bb, rr, rfl, ob, orr⟩ := bsh v hv
    have e := cert_eq (M := M4) (b := bb) (r := rr) w ob orr
    have hf := bad _ hv
    rw [certV_tup] at hf
    rw [hf] at e
    generalize PyData.tuple [bb, rr] = vv at *
    exact ⟨[o0, some (.ref n), o2, some (.d (.list [.int 0, .int (a : Int), .int (b : Int)])), some (.d (.list X1)), some (.d (.list Y1)), some (.d (encJ j)), some (.d (.tuple bk)), some (.d (.list gd)), none, some (.d vv)], [o0, some (.ref n), o2, some (.d (.list [.int 0, .int (a : Int), .int (b : Int)])), some (.d (.list X1)), some (.d (.list Y1)), some (.d (encJ j)), some (.d (.tuple bk)), some (.d (.list gd)), none, some (.d vv)], rfl, by simp [e_law_1, e], rfl⟩)
  replace c2 : mLc [10] i_law_1 (mNm 10) (ret true) e_law_1 [o0, some (.ref n), o2, some (.d (.list [.int 0, .int (a : Int), .int (b : Int)])), some (.d (.list X1)), some (.d (.list Y1)), some (.d (encJ j)), some (.d (.tuple bk)), some (.d (.list gd)), none, none] M4 = .ok (.con (.lst (bz.map fun _ => .bool true))) [o0, some (.ref n), o2, some (.d (.list [.int 0, .int (a : Int), .int (b : Int)])), some (.d (.list X1)), some (.d (.list Y1)), some (.d (encJ j)), some (.d (.tuple bk)), some (.d (.list gd)), none, none] M4 := c2
  have zt : ∀ ds : List D, fAll [.list (ds.map fun _ => PyData.bool true)] = some (.bool true) := fun ds => bools_true fun y hy => by
    obtain ⟨_, _, rfl⟩ := List.mem_map.mp hy; rfl
  have z1 := zt gd
  have z2 := zt bz
  have fin' : ∃ o3' o4' o5' o6' o7' o8', l_law_1 [o0, some (.ref n), o2, o3, o4, o5, o6, o7, o8, none, none] M = .ok .nx [o0, some (.ref n), o2, o3', o4', o5', o6', o7', o8', none, none] M4 := by
    refine ⟨some (.d (.list [.int 0, .int (a : Int), .int (b : Int)])), some (.d (.list X1)), some (.d (.list Y1)), some (.d (encJ j)), some (.d (.tuple bk)), some (.d (.list gd)), ?_⟩
    unfold l_law_1
    simp only [List.map_cons, List.map_nil] at e1 e2 e3
    refine seq_gen ⟨?_, ?_, ?_, ?_⟩
    rotate_left 2
    · (conv => lhs; simp [e1, e2, e3, f0]); try exact rfl
    refine seq_gen ⟨?_, ?_, ?_, ?_⟩
    rotate_left 2
    · (conv => lhs; simp [ej, et]); try exact rfl
    refine seq_gen ⟨?_, ?_, ?_, ?_⟩
    rotate_left 2
    · (conv => lhs; simp [e4]); try exact rfl
    refine seq_gen ⟨?_, ?_, ?_, ?_⟩
    rotate_left 2
    · (conv => lhs; simp [c1, z1]); try exact rfl
    (conv => lhs; simp [c2, z2])
    try exact rfl
  obtain ⟨o3', o4', o5', o6', o7', o8', e⟩ := fin'
  exact ⟨o3', o4', o5', o6', o7', o8', M4, e, q4.mono (by simp; omega)⟩
theorem law_true (ns : List Int) (h : ns.length ≤ 63) : ∃ δ M, g_law [.scr ns] (nms.map C.tab) = .ok (.d (.bool true)) δ M := by
  obtain ⟨own, mixed, e1, a0, a1, a2⟩ := pot_spec (M := nms.map C.tab) (ns := ns) (k := 0) (by decide) (by decide)
  have hp : Pot 1000 (nms.map C.tab).length (nms.map C.tab ++ [.lst [.int own, .int mixed, .int 0]]) := ⟨own, mixed, 0, by simp, a0, a1, a2, by decide, by simp, TB.new (M := nms.map C.tab) ⟨[], by simp [TABS]⟩⟩
  obtain ⟨M2, e2, q2, l2⟩ := many_spec hp (by decide)
  obtain ⟨δ', M', e6, o2, o3, o4, o5, o6, o7, o8, rfl, q6, -⟩ := forF_spec (tg := mNm 2) (b := l_law_1)
    (I := fun ds δ M' => ∃ o2 o3 o4 o5 o6 o7 o8, δ = [some (.scr ns), some (.ref (nms.map C.tab).length), o2, o3, o4, o5, o6, o7, o8, none, none] ∧ Pot (2000 - 20 * ds.length) (nms.map C.tab).length M' ∧ ds.length ≤ 4)
    (by
      rintro d ds δ M' ⟨o2, o3, o4, o5, o6, o7, o8, rfl, q, hl⟩
      simp only [List.length_cons] at q hl
      obtain ⟨o3', o4', o5', o6', o7', o8', M6, e, q'⟩ := law_turn (o0 := some (.scr ns)) (o2 := some (.d d)) (o3 := o3) (o4 := o4) (o5 := o5) (o6 := o6) (o7 := o7) (o8 := o8) q (by omega)
      exact ⟨_, M6, e, some (.d d), o3', o4', o5', o6', o7', o8', rfl, q'.mono (by omega), by omega⟩)
    ((List.range 4).map fun k => .int (0 + (k : Nat))) [some (.scr ns), some (.ref (nms.map C.tab).length), none, none, none, none, none, none, none, none, none] M2 ⟨none, none, none, none, none, none, none, rfl, q2.mono (by simp), by simp⟩
  have s4 : small62 4 = true := rfl
  refine ⟨[], M', ?_⟩
  generalize (nms.map C.tab) = M0 at *
  refine body_gen ⟨?_, ?_⟩
  rotate_left 1
  · refine seq_gen ⟨?_, ?_, ?_, ?_⟩
    rotate_left 2
    · (conv => lhs; simp [e1]); try exact rfl
    refine seq_gen ⟨?_, ?_, ?_, ?_⟩
    rotate_left 2
    · (conv => lhs; simp [e2]); try exact rfl
    refine (seq_nx (for_ok (δ1 := [some (.scr ns), some (.ref M0.length), none, none, none, none, none, none, none, none, none]) (M1 := M2) (by simp [s4]) e6)).trans ?_
    (conv => lhs; simp [])
    try exact rfl
end DL

end
section
namespace DL
open PySem PySem.Spec L2
/-! ### the text -/
def top (i : Nat) : Stmt := PySem.Challenge.pw_leastahead_k56_certificates_by_hand.main.body.getD i (.Pass ⟨0, 0, 0, 0⟩)
def excs : List Str := []
structure Fx (K : KF) (mg : Str → Option Value) : Prop where
  zero : True
  n_abs : mg "abs" = none
  n_all : mg "all" = none
  n_bool : mg "bool" = none
  n_enumerate : mg "enumerate" = none
  n_int : mg "int" = none
  n_isinstance : mg "isinstance" = none
  n_len : mg "len" = none
  n_list : mg "list" = none
  n_range : mg "range" = none
  n_set : mg "set" = none
  n_sorted : mg "sorted" = none
  n_tuple : mg "tuple" = none
  k_BLOCK_PARTS : ∃ t, mg "BLOCK_PARTS" = some (.int 3 t)
  k_CERTIFICATE_PARTS : ∃ t, mg "CERTIFICATE_PARTS" = some (.int 2 t)
  k_MOST_LETTERS : ∃ t, mg "MOST_LETTERS" = some (.int 2000 t)
  k_ROW_PARTS : ∃ t, mg "ROW_PARTS" = some (.int 3 t)
  k_START : ∃ t, mg "START" = some (.int 0 t)
variable {P : Program} {w : World} {K : KF} {mg : Str → Option Value} {base : Heap} {f : Addr} {fd : FuncData}
abbrev s__law_bad_papers : Stmt := top 25
theorem sc__law_bad_papers : FnScope ["_law_blocks", "_law_rows", "_law_order", "_law_xs", "_law_zero", "_law_one", "_law_found"] ["_law_blocks", "_law_rows", "_law_order", "_law_xs"] (defScope s__law_bad_papers) := ⟨rfl, rfl, rfl, by decide +kernel, rfl, by decide +kernel, by decide +kernel⟩
theorem ok__law_bad_papers (F : Fun K "_law_bad_papers" "_law_bad_papers" s__law_bad_papers f fd) (T : Fx K mg) : FnG P w K mg base 1 f fd ["_law_blocks", "_law_rows", "_law_order", "_law_xs"] (spG K 4 (mBody 3 m__law_bad_papers)) :=
  fnG (k := 0) F sc__law_bad_papers fun cdv A outer s H E hr hg => (qss_cons (qs_par2 (i := 4) (j := 5) rfl sc__law_bad_papers.nd rfl rfl (by decide) rfl rfl (qa_cons (qe_own (qe_tup (qa_cons (qe_frz (qe_ix (qe_name 3 (pv 3)) qe_int)) qa_nil))) (qa_cons (qe_own (qe_tup (qa_cons (qe_frz (qe_ix (qe_name 3 (pv 3)) qe_int)) qa_nil))) qa_nil)) (by rfl)) (qss_cons (qs_set (i := 6) sc__law_bad_papers.nd rfl (Or.inl rfl) (qe_lst (qa_cons (qe_frz (qe_tup (qa_cons (qe_frz (qe_name 0 (pv 0))) (qa_cons (qe_frz (qe_add (qe_add (qe_slice (qe_name 1 (pv 1)) (qo_some qe_int) (qo_some qe_int)) (qe_slice (qe_name 1 (pv 1)) qo_none (qo_some qe_int))) (qe_slice (qe_name 1 (pv 1)) (qo_some qe_int) qo_none))) qa_nil)))) (qa_cons (qe_frz (qe_tup (qa_cons (qe_frz (qe_name 0 (pv 0))) (qa_cons (qe_frz (qe_slice (qe_name 1 (pv 1)) qo_none (qo_some (qe_neg qe_int)))) qa_nil)))) (qa_cons (qe_frz (qe_tup (qa_cons (qe_frz (qe_name 0 (pv 0))) (qa_cons (qe_frz (qe_slice (qe_name 1 (pv 1)) (qo_some qe_int) qo_none)) qa_nil)))) qa_nil))))) (qss_cons (qs_expr (qe_meth PySem.F.slot_list_append PySem.F.type_list_append mt_append m_append (qe_name 6 (pv 6)) (qa_cons (qe_frz (qe_tup (qa_cons (qe_frz (qe_name 0 (pv 0))) (qa_cons (qe_frz (qe_add (qe_slice (qe_name 1 (pv 1)) qo_none (qo_some qe_int)) (qe_slice (qe_name 1 (pv 1)) (qo_some qe_int) qo_none))) qa_nil)))) qa_nil))) (qss_cons (qs_expr (qe_meth PySem.F.slot_list_append PySem.F.type_list_append mt_append m_append (qe_name 6 (pv 6)) (qa_cons (qe_frz (qe_tup (qa_cons (qe_frz (qe_name 0 (pv 0))) (qa_cons (qe_frz (qe_add (qe_slice (qe_name 1 (pv 1)) qo_none (qo_some qe_int)) (qe_tup (qa_cons (qe_frz (qe_tup (qa_cons (qe_frz (qe_ix (qe_name 2 (pv 2)) qe_int)) (qa_cons qe_int (qa_cons qe_int qa_nil))))) qa_nil)))) qa_nil)))) qa_nil))) (qss_cons (qs_expr (qe_meth PySem.F.slot_list_append PySem.F.type_list_append mt_append m_append (qe_name 6 (pv 6)) (qa_cons (qe_frz (qe_tup (qa_cons (qe_frz (qe_name 0 (pv 0))) (qa_cons (qe_frz (qe_add (qe_slice (qe_name 1 (pv 1)) qo_none (qo_some qe_int)) (qe_tup (qa_cons (qe_frz (qe_tup (qa_cons (qe_frz (qe_ix (qe_name 2 (pv 2)) qe_int)) (qa_cons qe_int (qa_cons qe_int qa_nil))))) qa_nil)))) qa_nil)))) qa_nil))) (qss_cons (qs_expr (qe_meth PySem.F.slot_list_append PySem.F.type_list_append mt_append m_append (qe_name 6 (pv 6)) (qa_cons (qe_frz (qe_tup (qa_cons (qe_frz (qe_name 0 (pv 0))) (qa_cons (qe_frz (qe_add (qe_name 1 (pv 1)) (qe_tup (qa_cons (qe_frz (qe_tup (qa_cons (qe_frz (qe_ix (qe_name 2 (pv 2)) qe_int)) (qa_cons qe_int (qa_cons qe_int qa_nil))))) qa_nil)))) qa_nil)))) qa_nil))) (qss_cons (qs_expr (qe_meth PySem.F.slot_list_append PySem.F.type_list_append mt_append m_append (qe_name 6 (pv 6)) (qa_cons (qe_frz (qe_tup (qa_cons (qe_frz (qe_tup (qa_cons (qe_frz (qe_ix (qe_name 0 (pv 0)) qe_int)) (qa_cons (qe_frz (qe_ix (qe_name 0 (pv 0)) qe_int)) (qa_cons (qe_frz (qe_tup (qa_cons (qe_frz (qe_name 4 (pv 4))) (qa_cons (qe_frz (qe_name 5 (pv 5))) (qa_cons (qe_frz (qe_tup (qa_cons (qe_frz (qe_ix (qe_name 3 (pv 3)) qe_int)) qa_nil))) qa_nil))))) qa_nil))))) (qa_cons (qe_frz (qe_name 1 (pv 1))) qa_nil)))) qa_nil))) (qss_cons (qs_expr (qe_meth PySem.F.slot_list_append PySem.F.type_list_append mt_append m_append (qe_name 6 (pv 6)) (qa_cons (qe_frz (qe_tup (qa_cons (qe_frz (qe_add (qe_tup (qa_cons (qe_frz (qe_tup (qa_cons (qe_frz (qe_name 4 (pv 4))) (qa_cons (qe_frz (qe_tup qa_nil)) (qa_cons (qe_frz (qe_tup qa_nil)) qa_nil))))) qa_nil)) (qe_slice (qe_name 0 (pv 0)) (qo_some qe_int) qo_none))) (qa_cons (qe_frz (qe_name 1 (pv 1))) qa_nil)))) qa_nil))) (qss_cons (qs_expr (qe_meth PySem.F.slot_list_append PySem.F.type_list_append mt_append m_append (qe_name 6 (pv 6)) (qa_cons (qe_frz (qe_tup (qa_cons (qe_frz (qe_add (qe_tup (qa_cons (qe_frz (qe_tup (qa_cons (qe_frz (qe_name 4 (pv 4))) (qa_cons (qe_frz (qe_name 4 (pv 4))) (qa_cons (qe_frz (qe_name 5 (pv 5))) qa_nil))))) qa_nil)) (qe_slice (qe_name 0 (pv 0)) (qo_some qe_int) qo_none))) (qa_cons (qe_frz (qe_name 1 (pv 1))) qa_nil)))) qa_nil))) (qss_cons (qs_expr (qe_meth PySem.F.slot_list_append PySem.F.type_list_append mt_append m_append (qe_name 6 (pv 6)) (qa_cons (qe_frz (qe_tup (qa_cons (qe_frz (qe_add (qe_add (qe_slice (qe_name 0 (pv 0)) qo_none (qo_some qe_int)) (qe_slice (qe_name 0 (pv 0)) (qo_some qe_int) qo_none)) (qe_slice (qe_name 0 (pv 0)) (qo_some qe_int) (qo_some qe_int)))) (qa_cons (qe_frz (qe_name 1 (pv 1))) qa_nil)))) qa_nil))) (qss_one (qs_ret (qe_add (qe_name 6 (pv 6)) (qe_lst (qa_cons (qe_frz (qe_tup (qa_cons (qe_frz (qe_slice (qe_name 0 (pv 0)) qo_none (qo_some qe_int))) (qa_cons (qe_frz (qe_name 1 (pv 1))) qa_nil)))) (qa_cons (qe_frz (qe_tup (qa_cons (qe_frz (qe_name 1 (pv 1))) (qa_cons (qe_frz (qe_name 0 (pv 0))) qa_nil)))) (qa_cons (qe_frz (qe_tup (qa_cons (qe_frz (qe_ty call_list_of b_list mBT_noex rfl T.n_list boot_ty_list (qa_cons (qe_name 0 (pv 0)) qa_nil))) (qa_cons (qe_frz (qe_name 1 (pv 1))) qa_nil)))) (qa_cons (qe_frz (qe_tup (qa_cons (qe_frz (qe_name 0 (pv 0))) (qa_cons (qe_frz (qe_ty call_list_of b_list mBT_noex rfl T.n_list boot_ty_list (qa_cons (qe_name 1 (pv 1)) qa_nil))) qa_nil)))) qa_nil))))))))))))))))))
abbrev s_composed : Stmt := top 5
theorem sc_composed : FnScope ["one", "other", "found", "middles", "targets", "middle", "target"] ["one", "other"] (defScope s_composed) := ⟨rfl, rfl, rfl, by decide +kernel, rfl, by decide +kernel, by decide +kernel⟩
theorem ok_composed (F : Fun K "composed" "composed" s_composed f fd) (T : Fx K mg) : FnG P w K mg base 1 f fd ["one", "other"] (spG K 2 (mBody 5 m_composed)) :=
  fnG (k := 0) F sc_composed fun cdv A outer s H E hr hg => (qss_cons (qs_set (i := 2) sc_composed.nd rfl (Or.inl rfl) (qe_lst qa_nil)) (qss_cons (qs_for (passes_of rfl) rfl (qi_seq (qe_name 0 (pv 0))) (qg_name (i := 3) sc_composed.nd rfl (Or.inl rfl)) (qss_cons (qs_set (i := 4) sc_composed.nd rfl (Or.inl rfl) qe_dct0) (qss_cons (qs_for (passes_of rfl) rfl (qi_seq (qe_name 3 (pv 3))) (qg_name (i := 5) sc_composed.nd rfl (Or.inl rfl)) (qss_one (qs_expr (qe_methK PySem.F.slot_dict_update PySem.F.type_dict_update mtd_update m_update (qe_name 4 (pv 4)) (qa_cons (qe_frz (qe_dc (own := [("target", 6)]) rfl sc_composed.nd (qi_seq (qe_ix (qe_name 1 (pv 1)) (qe_name 5 (pv 5)))) (blkOk_by (N := ["one", "other", "found", "middles", "targets", "middle", "target"]) (sc := defScope s_composed) (by decide +kernel)) (fun _ _ _ _ _ => (qgw_name sc_composed.nd rfl (by decide) (by first | exact Or.inl rfl | exact Or.inr rfl) (by first | exact Or.inr rfl | exact Or.inl rfl))) (fun _ _ _ _ _ => qts_nil) (fun _ _ _ _ _ => (qe_name 6 (pv 6))) (fun _ _ _ _ _ => qe_bool))) qa_nil))))) (qss_one (qs_expr (qe_meth PySem.F.slot_list_append PySem.F.type_list_append mt_append m_append (qe_name 2 (pv 2)) (qa_cons (qe_frz (qe_ty call_tuple_of b_tuple mBT_noex rfl T.n_tuple boot_ty_tuple (qa_cons (qe_blt (cr_sortedA rfl) b_sortedA mBT_noex rfl T.n_sorted boot_fn_sorted (qa_cons (qe_name 4 (pv 4)) qa_nil)) qa_nil))) qa_nil))))))) (qss_one (qs_ret (qe_ty call_tuple_of b_tuple mBT_noex rfl T.n_tuple boot_ty_tuple (qa_cons (qe_name 2 (pv 2)) qa_nil))))))
abbrev s_letter_relation : Stmt := top 6
theorem sc_letter_relation : FnScope ["judge", "letter", "rows", "entry"] ["judge", "letter"] (defScope s_letter_relation) := ⟨rfl, rfl, rfl, by decide +kernel, rfl, by decide +kernel, by decide +kernel⟩
theorem ok_letter_relation (F : Fun K "letter_relation" "letter_relation" s_letter_relation f fd) (T : Fx K mg) : FnG P w K mg base 1 f fd ["judge", "letter"] (spG K 2 (mBody 2 m_letter_relation)) :=
  fnG (k := 0) F sc_letter_relation fun cdv A outer s H E hr hg => (qss_one (qs_ret (qe_ty call_tuple_of b_tuple mBT_noex rfl T.n_tuple boot_ty_tuple (qa_cons (qe_lc (own := [("rows", 2)]) rfl sc_letter_relation.nd (qi_seq (qe_name 0 (pv 0))) (blkOk_by (N := ["judge", "letter", "rows", "entry"]) (sc := defScope s_letter_relation) (by decide +kernel)) (fun _ _ _ _ _ => (qgw_name sc_letter_relation.nd rfl (by decide) (by first | exact Or.inl rfl | exact Or.inr rfl) (by first | exact Or.inr rfl | exact Or.inl rfl))) (fun _ _ _ _ _ => qts_nil) (fun _ _ _ _ _ => (qe_ty call_tuple_of b_tuple mBT_noex rfl T.n_tuple boot_ty_tuple (qa_cons (qe_sortSet rfl rfl T.n_sorted rfl T.n_set (qe_lc (own := [("entry", 3)]) rfl sc_letter_relation.nd (qi_seq (qe_ix (qe_name 2 (pv 2)) (qe_name 1 (pv 1)))) (blkOk_by (N := ["judge", "letter", "rows", "entry"]) (by kernel_rfl)) (fun _ _ _ _ _ => (qgw_name sc_letter_relation.nd rfl (by decide) (by first | exact Or.inl rfl | exact Or.inr rfl) (by first | exact Or.inr rfl | exact Or.inl rfl))) (fun _ _ _ _ _ => (qts_one (qt_notNX (qe_name 3 (pv 3))))) (fun _ _ _ _ _ => (qe_name 3 (pv 3))))) qa_nil)))) qa_nil))))
abbrev s_relation_of : Stmt := top 7
theorem sc_relation_of : FnScope ["judge", "inputs", "found", "letter", "state"] ["judge", "inputs"] (defScope s_relation_of) := ⟨rfl, rfl, rfl, by decide +kernel, rfl, by decide +kernel, by decide +kernel⟩
theorem ok_relation_of (F : Fun K "relation_of" "relation_of" s_relation_of f fd) (T : Fx K mg) (c_composed : Cal P w K mg base 1 "composed" 2 g_composed) (c_letter_relation : Cal P w K mg base 1 "letter_relation" 2 g_letter_relation) : FnG P w K mg base 2 f fd ["judge", "inputs"] (spG K 2 (mBody 3 m_relation_of)) :=
  fnG (k := 1) F sc_relation_of fun cdv A outer s H E hr hg => (qss_cons (qs_set (i := 2) sc_relation_of.nd rfl (Or.inl rfl) (qe_ty call_tuple_of b_tuple mBT_noex rfl T.n_tuple boot_ty_tuple (qa_cons (qe_lc (own := [("state", 4)]) rfl sc_relation_of.nd (qi_range1 rfl T.n_range (qa_cons (qe_blt call_len b_len mPl_noex rfl T.n_len boot_fn_len (qa_cons (qe_name 0 (pv 0)) qa_nil)) qa_nil)) (blkOk_by (N := ["judge", "inputs", "found", "letter", "state"]) (sc := defScope s_relation_of) (by decide +kernel)) (fun _ _ _ _ _ => (qgw_name sc_relation_of.nd rfl (by decide) (by first | exact Or.inl rfl | exact Or.inr rfl) (by first | exact Or.inr rfl | exact Or.inl rfl))) (fun _ _ _ _ _ => qts_nil) (fun _ _ _ _ _ => (qe_tup (qa_cons (qe_frz (qe_name 4 (pv 4))) qa_nil)))) qa_nil))) (qss_cons (qs_for (passes_of rfl) rfl (qi_seq (qe_name 1 (pv 1))) (qg_name (i := 3) sc_relation_of.nd rfl (Or.inl rfl)) (qss_one (qs_set (i := 2) sc_relation_of.nd rfl (Or.inl rfl) (qe_call (c_composed.mono (by decide)) hr hg (takes_of rfl rfl rfl rfl) rfl (qa_cons (qe_frz (qe_name 2 (pv 2))) (qa_cons (qe_frz (qe_call (c_letter_relation.mono (by decide)) hr hg (takes_of rfl rfl rfl rfl) rfl (qa_cons (qe_frz (qe_name 0 (pv 0))) (qa_cons (qe_frz (qe_name 3 (pv 3))) qa_nil)) (len_cons (len_cons len_nil)))) qa_nil)) (len_cons (len_cons len_nil)))))) (qss_one (qs_ret (qe_name 2 (pv 2))))))
abbrev s_are_rows_kept : Stmt := top 16
theorem sc_are_rows_kept : FnScope ["judge", "blocks", "rows", "relations", "known", "state", "number", "following", "block", "target"] ["judge", "blocks", "rows"] (defScope s_are_rows_kept) := ⟨rfl, rfl, rfl, by decide +kernel, rfl, by decide +kernel, by decide +kernel⟩
theorem ok_are_rows_kept (F : Fun K "are_rows_kept" "are_rows_kept" s_are_rows_kept f fd) (T : Fx K mg) (c_relation_of : Cal P w K mg base 2 "relation_of" 2 g_relation_of) : FnG P w K mg base 3 f fd ["judge", "blocks", "rows"] (spG K 3 (mBody 7 m_are_rows_kept)) :=
  fnG (k := 2) F sc_are_rows_kept fun cdv A outer s H E hr hg => (qss_cons (qs_par2G (i := 3) (j := 4) rfl sc_are_rows_kept.nd rfl rfl (by decide) (Or.inl rfl) (Or.inr rfl) (qa_cons (qe_own (qe_lc (own := [("block", 8)]) rfl sc_are_rows_kept.nd (qi_seq (qe_name 1 (pv 1))) (blkOk_by (N := ["judge", "blocks", "rows", "relations", "known", "state", "number", "following", "block", "target"]) (sc := defScope s_are_rows_kept) (by decide +kernel)) (fun _ _ _ _ _ => (qgw_name sc_are_rows_kept.nd rfl (by decide) (by first | exact Or.inl rfl | exact Or.inr rfl) (by first | exact Or.inr rfl | exact Or.inl rfl))) (fun _ _ _ _ _ => qts_nil) (fun _ _ _ _ _ => (qe_call (c_relation_of.mono (by decide)) hr hg takes0 rfl (qa_cons (qe_frz (qe_name 0 (pv 0))) (qa_cons (qe_frz (qe_add (qe_ix (qe_name 8 (pv 8)) qe_int) (qe_ix (qe_name 8 (pv 8)) qe_int))) qa_nil)) (len_cons (len_cons len_nil)))))) (qa_cons (qe_own qe_dn0) qa_nil)) (by rfl)) (qss_cons (qs_for (passes_of rfl) rfl (qi_seq (qe_name 2 (pv 2))) (qg_tup rfl (qgs_cons (qg_name (i := 5) sc_are_rows_kept.nd rfl (Or.inl rfl)) (qgs_cons (qg_name (i := 6) sc_are_rows_kept.nd rfl (Or.inl rfl)) (qgs_cons (qg_name (i := 7) sc_are_rows_kept.nd rfl (Or.inr rfl)) qgs_nil)))) (qss_cons (qs_if (qt_not (qt_val (qe_blt (cr_all rfl) b_all mPl_noex rfl T.n_all boot_fn_all (qa_cons (qe_lc (own := [("target", 9)]) rfl sc_are_rows_kept.nd (qi_seq (qe_ix (qe_ix (qe_name 3 (pv 3)) (qe_name 6 (pv 6))) (qe_name 5 (pv 5)))) (blkOk_by (N := ["judge", "blocks", "rows", "relations", "known", "state", "number", "following", "block", "target"]) (sc := defScope s_are_rows_kept) (by decide +kernel)) (fun _ _ _ _ _ => (qgw_name sc_are_rows_kept.nd rfl (by decide) (by first | exact Or.inl rfl | exact Or.inr rfl) (by first | exact Or.inr rfl | exact Or.inl rfl))) (fun _ _ _ _ _ => qts_nil) (fun _ _ _ _ _ => (qe_inN hr (qe_tup (qa_cons (qe_frz (qe_name 9 (pv 9))) (qa_cons (qe_frz (qe_name 7 (pv 7))) qa_nil))) (qe_name 4 (pv 4))))) qa_nil)))) (qss_one (qs_ret qe_bool)) qss_nil) (qss_one (qs_asg qe_bool (qg_storeN hr (qe_name 4 (pv 4)) (qe_tup (qa_cons (qe_frz (qe_name 5 (pv 5))) (qa_cons (qe_frz (qe_name 6 (pv 6))) qa_nil)))))))) (qss_one (qs_ret qe_bool))))
abbrev s_is_integer : Stmt := top 1
theorem sc_is_integer : FnScope ["value", "least", "most"] ["value", "least", "most"] (defScope s_is_integer) := ⟨rfl, rfl, rfl, by decide +kernel, rfl, by decide +kernel, by decide +kernel⟩
theorem ok_is_integer (F : Fun K "is_integer" "is_integer" s_is_integer f fd) (T : Fx K mg) : FnG P w K mg base 1 f fd ["value", "least", "most"] (spG K 3 (mBody 0 m_is_integer)) :=
  fnG (k := 0) F sc_is_integer fun cdv A outer s H E hr hg => (qss_one (qs_ret (qe_and (qe_isD rfl T.n_isinstance (qe_name 0 (pv 0)) (pe_bltn (v := .ty "int") rfl T.n_int boot_ty_int rfl) kb_int) (qe_and (qe_not (qe_isD rfl T.n_isinstance (qe_name 0 (pv 0)) (pe_bltn (v := .ty "bool") rfl T.n_bool boot_ty_bool rfl) kb_bool)) (pe_one (qe_chain cd_le cd_le (qe_name 1 (pv 1)) (qe_name 0 (pv 0)) (qe_name 2 (pv 2))))))))
abbrev s_is_row : Stmt := top 15
theorem sc_is_row : FnScope ["judge", "count", "value"] ["judge", "count", "value"] (defScope s_is_row) := ⟨rfl, rfl, rfl, by decide +kernel, rfl, by decide +kernel, by decide +kernel⟩
theorem ok_is_row (F : Fun K "is_row" "is_row" s_is_row f fd) (T : Fx K mg) (c_is_integer : Cal P w K mg base 1 "is_integer" 3 g_is_integer) : FnG P w K mg base 2 f fd ["judge", "count", "value"] (spG K 3 (mBody 0 m_is_row)) :=
  fnG (k := 1) F sc_is_row fun cdv A outer s H E hr hg => (qss_cons (qs_if (qt_w (qw_or (qt_not (qt_val (qe_isD rfl T.n_isinstance (qe_name 2 (pv 2)) (pe_bltn (v := .ty "tuple") rfl T.n_tuple boot_ty_tuple rfl) kb_tuple))) (qw_or (qt_c (cd_ne hr) (qe_blt call_len b_len mPl_noex rfl T.n_len boot_fn_len (qa_cons (qe_name 2 (pv 2)) qa_nil)) (qe_glob (pe_glob (v := .int 3) rfl T.k_ROW_PARTS.choose_spec ⟨_, rfl⟩) fun _ => rfl) (nomark _)) (qw_or1 (qt_not (qt_val (qe_call (c_is_integer.mono (by decide)) hr hg (takes_of rfl rfl rfl rfl) rfl (qa_cons (qe_frz (qe_ix (qe_name 2 (pv 2)) qe_int)) (qa_cons qe_int (qa_cons (qe_frz (qe_sub (qe_blt call_len b_len mPl_noex rfl T.n_len boot_fn_len (qa_cons (qe_name 0 (pv 0)) qa_nil)) qe_int)) qa_nil))) (len_cons (len_cons (len_cons len_nil)))))))))) (qss_one (qs_ret qe_bool)) qss_nil) (qss_one (qs_ret (qe_and (qe_call (c_is_integer.mono (by decide)) hr hg (takes_of rfl rfl rfl rfl) rfl (qa_cons (qe_frz (qe_ix (qe_name 2 (pv 2)) qe_int)) (qa_cons qe_int (qa_cons (qe_frz (qe_sub (qe_name 1 (pv 1)) qe_int)) qa_nil))) (len_cons (len_cons (len_cons len_nil)))) (pe_one (qe_call (c_is_integer.mono (by decide)) hr hg (takes_of rfl rfl rfl rfl) rfl (qa_cons (qe_frz (qe_ix (qe_name 2 (pv 2)) qe_int)) (qa_cons qe_int (qa_cons (qe_frz (qe_sub (qe_name 1 (pv 1)) qe_int)) qa_nil))) (len_cons (len_cons (len_cons len_nil)))))))))
abbrev s_is_word : Stmt := top 3
theorem sc_is_word : FnScope ["value", "letters", "most", "letter"] ["value", "letters", "most"] (defScope s_is_word) := ⟨rfl, rfl, rfl, by decide +kernel, rfl, by decide +kernel, by decide +kernel⟩
theorem ok_is_word (F : Fun K "is_word" "is_word" s_is_word f fd) (T : Fx K mg) (c_is_integer : Cal P w K mg base 1 "is_integer" 3 g_is_integer) : FnG P w K mg base 2 f fd ["value", "letters", "most"] (spG K 3 (mBody 1 m_is_word)) :=
  fnG (k := 1) F sc_is_word fun cdv A outer s H E hr hg => (qss_cons (qs_if (qt_w (qw_or (qt_not (qt_val (qe_isD rfl T.n_isinstance (qe_name 0 (pv 0)) (pe_bltn (v := .ty "tuple") rfl T.n_tuple boot_ty_tuple rfl) kb_tuple))) (qw_or1 (qt_c cd_gt (qe_blt call_len b_len mPl_noex rfl T.n_len boot_fn_len (qa_cons (qe_name 0 (pv 0)) qa_nil)) (qe_name 2 (pv 2)) (nomark _))))) (qss_one (qs_ret qe_bool)) qss_nil) (qss_one (qs_ret (qe_blt (cr_all rfl) b_all mPl_noex rfl T.n_all boot_fn_all (qa_cons (qe_lc (own := [("letter", 3)]) rfl sc_is_word.nd (qi_seq (qe_name 0 (pv 0))) (blkOk_by (N := ["value", "letters", "most", "letter"]) (sc := defScope s_is_word) (by decide +kernel)) (fun _ _ _ _ _ => (qgw_name sc_is_word.nd rfl (by decide) (by first | exact Or.inl rfl | exact Or.inr rfl) (by first | exact Or.inr rfl | exact Or.inl rfl))) (fun _ _ _ _ _ => qts_nil) (fun _ _ _ _ _ => (qe_call (c_is_integer.mono (by decide)) hr hg takes0 rfl (qa_cons (qe_frz (qe_name 3 (pv 3))) (qa_cons qe_int (qa_cons (qe_frz (qe_sub (qe_name 1 (pv 1)) qe_int)) qa_nil))) (len_cons (len_cons (len_cons len_nil)))))) qa_nil)))))
abbrev s_input_count : Stmt := top 2
theorem sc_input_count : FnScope ["judge"] ["judge"] (defScope s_input_count) := ⟨rfl, rfl, rfl, by decide +kernel, rfl, by decide +kernel, by decide +kernel⟩
theorem ok_input_count (F : Fun K "input_count" "input_count" s_input_count f fd) (T : Fx K mg) : FnG P w K mg base 1 f fd ["judge"] (spG K 1 (mBody 0 m_input_count)) :=
  fnG (k := 0) F sc_input_count fun cdv A outer s H E hr hg => (qss_one (qs_ret (qe_blt call_len b_len mPl_noex rfl T.n_len boot_fn_len (qa_cons (qe_ix (qe_name 0 (pv 0)) qe_int) qa_nil))))
abbrev s_is_block : Stmt := top 14
theorem sc_is_block : FnScope ["judge", "value", "word"] ["judge", "value"] (defScope s_is_block) := ⟨rfl, rfl, rfl, by decide +kernel, rfl, by decide +kernel, by decide +kernel⟩
theorem ok_is_block (F : Fun K "is_block" "is_block" s_is_block f fd) (T : Fx K mg) (c_relation_of : Cal P w K mg base 2 "relation_of" 2 g_relation_of) (c_is_word : Cal P w K mg base 2 "is_word" 3 g_is_word) (c_input_count : Cal P w K mg base 1 "input_count" 1 g_input_count) : FnG P w K mg base 3 f fd ["judge", "value"] (spG K 2 (mBody 1 m_is_block)) :=
  fnG (k := 2) F sc_is_block fun cdv A outer s H E hr hg => (qss_cons (qs_if (qt_w (qw_or (qt_not (qt_val (qe_isD rfl T.n_isinstance (qe_name 1 (pv 1)) (pe_bltn (v := .ty "tuple") rfl T.n_tuple boot_ty_tuple rfl) kb_tuple))) (qw_or1 (qt_c (cd_ne hr) (qe_blt call_len b_len mPl_noex rfl T.n_len boot_fn_len (qa_cons (qe_name 1 (pv 1)) qa_nil)) (qe_glob (pe_glob (v := .int 3) rfl T.k_BLOCK_PARTS.choose_spec ⟨_, rfl⟩) fun _ => rfl) (nomark _))))) (qss_one (qs_ret qe_bool)) qss_nil) (qss_cons (qs_if (qt_w (qw_or (qt_not (qt_val (qe_blt (cr_all rfl) b_all mPl_noex rfl T.n_all boot_fn_all (qa_cons (qe_lc (own := [("word", 2)]) rfl sc_is_block.nd (qi_seq (qe_name 1 (pv 1))) (blkOk_by (N := ["judge", "value", "word"]) (sc := defScope s_is_block) (by decide +kernel)) (fun _ _ _ _ _ => (qgw_name sc_is_block.nd rfl (by decide) (by first | exact Or.inl rfl | exact Or.inr rfl) (by first | exact Or.inr rfl | exact Or.inl rfl))) (fun _ _ _ _ _ => qts_nil) (fun _ _ _ _ _ => (qe_call (c_is_word.mono (by decide)) hr hg takes0 rfl (qa_cons (qe_frz (qe_name 2 (pv 2))) (qa_cons (qe_frz (qe_call (c_input_count.mono (by decide)) hr hg takes0 rfl (qa_cons (qe_frz (qe_name 0 (pv 0))) qa_nil) (len_cons len_nil))) (qa_cons (qe_frz (qe_glob (pe_glob (v := .int 2000) rfl T.k_MOST_LETTERS.choose_spec ⟨_, rfl⟩) fun _ => rfl)) qa_nil))) (len_cons (len_cons (len_cons len_nil)))))) qa_nil)))) (qw_or1 (qt_c (cd_eq hr) (qe_ix (qe_name 1 (pv 1)) qe_int) (qe_tup qa_nil) (nomark _))))) (qss_one (qs_ret qe_bool)) qss_nil) (qss_one (qs_ret (qe_c (cd_eq hr) (qe_call (c_relation_of.mono (by decide)) hr hg (takes_of rfl rfl rfl rfl) rfl (qa_cons (qe_frz (qe_name 0 (pv 0))) (qa_cons (qe_frz (qe_ix (qe_name 1 (pv 1)) qe_int)) qa_nil)) (len_cons (len_cons len_nil))) (qe_call (c_relation_of.mono (by decide)) hr hg (takes_of rfl rfl rfl rfl) rfl (qa_cons (qe_frz (qe_name 0 (pv 0))) (qa_cons (qe_frz (qe_add (qe_ix (qe_name 1 (pv 1)) qe_int) (qe_ix (qe_name 1 (pv 1)) qe_int))) qa_nil)) (len_cons (len_cons len_nil))) (nomark _))))))
abbrev s_shows_certificate : Stmt := top 17
theorem sc_shows_certificate : FnScope ["judge", "value", "blocks", "rows", "block", "row"] ["judge", "value"] (defScope s_shows_certificate) := ⟨rfl, rfl, rfl, by decide +kernel, rfl, by decide +kernel, by decide +kernel⟩
theorem ok_shows_certificate (F : Fun K "shows_certificate" "shows_certificate" s_shows_certificate f fd) (T : Fx K mg) (c_are_rows_kept : Cal P w K mg base 3 "are_rows_kept" 3 g_are_rows_kept) (c_is_row : Cal P w K mg base 2 "is_row" 3 g_is_row) (c_is_block : Cal P w K mg base 3 "is_block" 2 g_is_block) : FnG P w K mg base 4 f fd ["judge", "value"] (spG K 2 (mBody 4 m_shows_certificate)) :=
  fnG (k := 3) F sc_shows_certificate fun cdv A outer s H E hr hg => (qss_cons (qs_if (qt_w (qw_or (qt_not (qt_val (qe_isD rfl T.n_isinstance (qe_name 1 (pv 1)) (pe_bltn (v := .ty "tuple") rfl T.n_tuple boot_ty_tuple rfl) kb_tuple))) (qw_or1 (qt_c (cd_ne hr) (qe_blt call_len b_len mPl_noex rfl T.n_len boot_fn_len (qa_cons (qe_name 1 (pv 1)) qa_nil)) (qe_glob (pe_glob (v := .int 2) rfl T.k_CERTIFICATE_PARTS.choose_spec ⟨_, rfl⟩) fun _ => rfl) (nomark _))))) (qss_one (qs_ret qe_bool)) qss_nil) (qss_cons (qs_asg (qe_name 1 (pv 1)) (qg_tup rfl (qgs_cons (qg_name (i := 2) sc_shows_certificate.nd rfl (Or.inr rfl)) (qgs_cons (qg_name (i := 3) sc_shows_certificate.nd rfl (Or.inl rfl)) qgs_nil)))) (qss_cons (qs_if (qt_w (qw_or (qt_not (qt_val (qe_isD rfl T.n_isinstance (qe_name 2 (pv 2)) (pe_bltn (v := .ty "tuple") rfl T.n_tuple boot_ty_tuple rfl) kb_tuple))) (qw_or (qt_c (cd_eq hr) (qe_name 2 (pv 2)) (qe_tup qa_nil) (nomark _)) (qw_or1 (qt_not (qt_val (qe_blt (cr_all rfl) b_all mPl_noex rfl T.n_all boot_fn_all (qa_cons (qe_lc (own := [("block", 4)]) rfl sc_shows_certificate.nd (qi_seq (qe_name 2 (pv 2))) (blkOk_by (N := ["judge", "value", "blocks", "rows", "block", "row"]) (sc := defScope s_shows_certificate) (by decide +kernel)) (fun _ _ _ _ _ => (qgw_name sc_shows_certificate.nd rfl (by decide) (by first | exact Or.inl rfl | exact Or.inr rfl) (by first | exact Or.inr rfl | exact Or.inl rfl))) (fun _ _ _ _ _ => qts_nil) (fun _ _ _ _ _ => (qe_call (c_is_block.mono (by decide)) hr hg takes0 rfl (qa_cons (qe_frz (qe_name 0 (pv 0))) (qa_cons (qe_frz (qe_name 4 (pv 4))) qa_nil)) (len_cons (len_cons len_nil))))) qa_nil)))))))) (qss_one (qs_ret qe_bool)) qss_nil) (qss_cons (qs_if (qt_w (qw_or (qt_not (qt_val (qe_isD rfl T.n_isinstance (qe_name 3 (pv 3)) (pe_bltn (v := .ty "tuple") rfl T.n_tuple boot_ty_tuple rfl) kb_tuple))) (qw_or (qt_c (cd_eq hr) (qe_name 3 (pv 3)) (qe_tup qa_nil) (nomark _)) (qw_or1 (qt_not (qt_val (qe_blt (cr_all rfl) b_all mPl_noex rfl T.n_all boot_fn_all (qa_cons (qe_lc (own := [("row", 5)]) rfl sc_shows_certificate.nd (qi_seq (qe_name 3 (pv 3))) (blkOk_by (N := ["judge", "value", "blocks", "rows", "block", "row"]) (sc := defScope s_shows_certificate) (by decide +kernel)) (fun _ _ _ _ _ => (qgw_name sc_shows_certificate.nd rfl (by decide) (by first | exact Or.inl rfl | exact Or.inr rfl) (by first | exact Or.inr rfl | exact Or.inl rfl))) (fun _ _ _ _ _ => qts_nil) (fun _ _ _ _ _ => (qe_call (c_is_row.mono (by decide)) hr hg takes0 rfl (qa_cons (qe_frz (qe_name 0 (pv 0))) (qa_cons (qe_frz (qe_blt call_len b_len mPl_noex rfl T.n_len boot_fn_len (qa_cons (qe_name 2 (pv 2)) qa_nil))) (qa_cons (qe_frz (qe_name 5 (pv 5))) qa_nil))) (len_cons (len_cons (len_cons len_nil)))))) qa_nil)))))))) (qss_one (qs_ret qe_bool)) qss_nil) (qss_one (qs_ret (qe_and (qe_c (cd_eq hr) (qe_ix (qe_ix (qe_name 3 (pv 3)) (qe_neg qe_int)) qe_int) (qe_glob (pe_glob (v := .int 0) rfl T.k_START.choose_spec ⟨_, rfl⟩) fun _ => rfl) (nomark _)) (pe_one (qe_call (c_are_rows_kept.mono (by decide)) hr hg (takes_of rfl rfl rfl rfl) rfl (qa_cons (qe_frz (qe_name 0 (pv 0))) (qa_cons (qe_frz (qe_name 2 (pv 2))) (qa_cons (qe_frz (qe_name 3 (pv 3))) qa_nil))) (len_cons (len_cons (len_cons len_nil))))))))))))
abbrev s__law_take : Stmt := top 20
theorem sc__law_take : FnScope ["_law_pot_here", "_law_many", "_law_digit", "_law_turn", "_law_prime", "_law_mixed_here"] ["_law_pot_here", "_law_many"] (defScope s__law_take) := ⟨rfl, rfl, rfl, by decide +kernel, rfl, by decide +kernel, by decide +kernel⟩
theorem ok__law_take (F : Fun K "_law_take" "_law_take" s__law_take f fd) (T : Fx K mg) : FnG P w K mg base 1 f fd ["_law_pot_here", "_law_many"] (spG K 2 (mBody 4 m__law_take)) :=
  fnG (k := 0) F sc__law_take fun cdv A outer s H E hr hg => (qss_cons (qs_if (qt_c cd_gt (qe_ix (qe_name 0 (pv 0)) qe_int) qe_int (nomark _)) (qss_cons (qs_set (i := 2) sc__law_take.nd rfl (Or.inl rfl) (qe_mod (qe_ix (qe_name 0 (pv 0)) qe_int) (qe_name 1 (pv 1)))) (qss_cons (qs_asg (qe_div (qe_ix (qe_name 0 (pv 0)) qe_int) (qe_name 1 (pv 1))) (qg_store (qe_name 0 (pv 0)) qe_int)) (qss_one (qs_ret (qe_name 2 (pv 2)))))) qss_nil) (qss_cons (qs_asg (qe_add (qe_ix (qe_name 0 (pv 0)) qe_int) qe_int) (qg_store (qe_name 0 (pv 0)) qe_int)) (qss_cons (qs_set (i := 3) sc__law_take.nd rfl (Or.inl rfl) (qe_ix (qe_name 0 (pv 0)) qe_int)) (qss_cons (qs_set (i := 4) sc__law_take.nd rfl (Or.inl rfl) (qe_ix (qe_lst (qa_cons qe_int (qa_cons qe_int (qa_cons qe_int (qa_cons qe_int (qa_cons qe_int (qa_cons qe_int qa_nil))))))) (qe_mod (qe_name 3 (pv 3)) qe_int))) (qss_cons (qs_set (i := 5) sc__law_take.nd rfl (Or.inl rfl) (qe_mod (qe_pow (qe_add (qe_add (qe_ix (qe_name 0 (pv 0)) qe_int) (qe_mult (qe_mult qe_int (qe_name 3 (pv 3))) (qe_name 3 (pv 3)))) (qe_mult qe_int (qe_name 3 (pv 3)))) qe_int) (qe_name 4 (pv 4)))) (qss_one (qs_ret (qe_mod (qe_div (qe_mod (qe_mult (qe_name 5 (pv 5)) (qe_add (qe_mod (qe_name 5 (pv 5)) qe_int) (qe_mult qe_int (qe_name 3 (pv 3))))) qe_int) qe_int) (qe_name 1 (pv 1))))))))))
abbrev s__law_papers : Stmt := top 24
theorem sc__law_papers : FnScope ["_law_pot_here", "_law_order", "_law_xs", "_law_zero", "_law_one", "_law_two", "_law_free", "_law_says", "_law_other", "_law_lengths", "_law_blocks", "_law_rows", "_law_mixed_here", "_law_needless", "_law_turn"] ["_law_pot_here", "_law_order", "_law_xs"] (defScope s__law_papers) := ⟨rfl, rfl, rfl, by decide +kernel, rfl, by decide +kernel, by decide +kernel⟩
theorem ok__law_papers (F : Fun K "_law_papers" "_law_papers" s__law_papers f fd) (T : Fx K mg) (c__law_take : Cal P w K mg base 1 "_law_take" 2 g__law_take) : FnG P w K mg base 2 f fd ["_law_pot_here", "_law_order", "_law_xs"] (spG K 3 (mBody 12 m__law_papers)) :=
  fnG (k := 1) F sc__law_papers fun cdv A outer s H E hr hg => (qss_cons (qs_par3 (i := 3) (j := 4) (l := 5) rfl sc__law_papers.nd rfl rfl rfl (by decide) (by decide) (by decide) rfl rfl rfl (qa_cons (qe_own (qe_tup (qa_cons (qe_frz (qe_ix (qe_name 2 (pv 2)) qe_int)) qa_nil))) (qa_cons (qe_own (qe_tup (qa_cons (qe_frz (qe_ix (qe_name 2 (pv 2)) qe_int)) qa_nil))) (qa_cons (qe_own (qe_tup (qa_cons (qe_frz (qe_ix (qe_name 2 (pv 2)) qe_int)) qa_nil))) qa_nil))) (by rfl)) (qss_cons (qs_asg (qe_name 1 (pv 1)) (qg_tupA rfl (qgs_cons (qg_name (i := 6) sc__law_papers.nd rfl (Or.inl rfl)) (qgs_cons (qg_name (i := 7) sc__law_papers.nd rfl (Or.inl rfl)) (qgs_cons (qg_name (i := 8) sc__law_papers.nd rfl (Or.inl rfl)) qgs_nil))))) (qss_cons (qs_setLc (i := 9) (own := [("_law_turn", 14)]) rfl sc__law_papers.nd rfl rfl (sw_true rfl rfl rfl (by decide +kernel)) (qi_range1 rfl T.n_range (qa_cons qe_int qa_nil)) (blkOk_by (N := ["_law_pot_here", "_law_order", "_law_xs", "_law_zero", "_law_one", "_law_two", "_law_free", "_law_says", "_law_other", "_law_lengths", "_law_blocks", "_law_rows", "_law_mixed_here", "_law_needless", "_law_turn"]) (sc := defScope s__law_papers) (by decide +kernel)) (fun _ _ _ _ _ => (qgw_name sc__law_papers.nd rfl (by decide) (by first | exact Or.inl rfl | exact Or.inr rfl) (by first | exact Or.inr rfl | exact Or.inl rfl))) (fun _ _ _ _ _ => qts_nil) (fun _ _ _ _ _ => (qe_add qe_int (qe_call (c__law_take.mono (by decide)) hr hg takes0 rfl (qa_cons (qe_frz (qe_name 0 (pv 0))) (qa_cons qe_int qa_nil)) (len_cons (len_cons len_nil)))))) (qss_cons (qs_set (i := 10) sc__law_papers.nd rfl (Or.inl rfl) (qe_tup (qa_cons (qe_frz (qe_tup (qa_cons (qe_frz (qe_mult (qe_name 3 (pv 3)) (qe_ix (qe_name 9 (pv 9)) qe_int))) (qa_cons (qe_frz (qe_mult (qe_name 3 (pv 3)) (qe_ix (qe_name 9 (pv 9)) qe_int))) (qa_cons (qe_frz (qe_tup qa_nil)) qa_nil))))) (qa_cons (qe_frz (qe_tup (qa_cons (qe_frz (qe_mult (qe_name 3 (pv 3)) (qe_ix (qe_name 9 (pv 9)) qe_int))) (qa_cons (qe_frz (qe_mult (qe_name 3 (pv 3)) (qe_ix (qe_name 9 (pv 9)) qe_int))) (qa_cons (qe_frz (qe_name 4 (pv 4))) qa_nil))))) qa_nil)))) (qss_cons (qs_set (i := 10) sc__law_papers.nd rfl (Or.inl rfl) (qe_add (qe_name 10 (pv 10)) (qe_tup (qa_cons (qe_frz (qe_tup (qa_cons (qe_frz (qe_mult (qe_name 3 (pv 3)) (qe_ix (qe_name 9 (pv 9)) qe_int))) (qa_cons (qe_frz (qe_mult (qe_name 3 (pv 3)) (qe_ix (qe_name 9 (pv 9)) qe_int))) (qa_cons (qe_frz (qe_name 5 (pv 5))) qa_nil))))) qa_nil)))) (qss_cons (qs_set (i := 11) sc__law_papers.nd rfl (Or.inl rfl) (qe_tup (qa_cons (qe_frz (qe_tup (qa_cons (qe_frz (qe_name 7 (pv 7))) (qa_cons qe_int (qa_cons qe_int qa_nil))))) (qa_cons (qe_frz (qe_tup (qa_cons (qe_frz (qe_name 8 (pv 8))) (qa_cons qe_int (qa_cons qe_int qa_nil))))) (qa_cons (qe_frz (qe_tup (qa_cons (qe_frz (qe_name 7 (pv 7))) (qa_cons qe_int (qa_cons qe_int qa_nil))))) (qa_cons (qe_frz (qe_tup (qa_cons (qe_frz (qe_name 8 (pv 8))) (qa_cons qe_int (qa_cons qe_int qa_nil))))) (qa_cons (qe_frz (qe_tup (qa_cons (qe_frz (qe_name 6 (pv 6))) (qa_cons qe_int (qa_cons qe_int qa_nil))))) qa_nil))))))) (qss_cons (qs_set (i := 12) sc__law_papers.nd rfl (Or.inl rfl) (qe_tup (qa_cons (qe_frz (qe_ix (qe_name 11 (pv 11)) qe_int)) (qa_cons (qe_frz (qe_ix (qe_name 11 (pv 11)) qe_int)) (qa_cons (qe_frz (qe_ix (qe_name 11 (pv 11)) qe_int)) (qa_cons (qe_frz (qe_ix (qe_name 11 (pv 11)) qe_int)) (qa_cons (qe_frz (qe_ix (qe_name 11 (pv 11)) qe_int)) qa_nil))))))) (qss_cons (qs_set (i := 13) sc__law_papers.nd rfl (Or.inl rfl) (qe_add (qe_add (qe_add (qe_tup (qa_cons (qe_frz (qe_tup (qa_cons (qe_frz (qe_name 8 (pv 8))) (qa_cons qe_int (qa_cons qe_int qa_nil))))) qa_nil)) (qe_slice (qe_name 11 (pv 11)) qo_none (qo_some qe_int))) (qe_tup (qa_cons (qe_frz (qe_ix (qe_name 11 (pv 11)) qe_int)) qa_nil))) (qe_slice (qe_name 11 (pv 11)) (qo_some qe_int) qo_none))) (qss_one (qs_ret (qe_tup (qa_cons (qe_frz (qe_name 10 (pv 10))) (qa_cons (qe_frz (qe_lst (qa_cons (qe_frz (qe_name 11 (pv 11))) (qa_cons (qe_frz (qe_name 12 (pv 12))) (qa_cons (qe_frz (qe_name 13 (pv 13))) (qa_cons (qe_frz (qe_add (qe_name 11 (pv 11)) (qe_tup (qa_cons (qe_frz (qe_tup (qa_cons (qe_frz (qe_name 6 (pv 6))) (qa_cons qe_int (qa_cons qe_int qa_nil))))) qa_nil)))) qa_nil)))))) qa_nil)))))))))))))
abbrev s__law_turned : Stmt := top 23
theorem sc__law_turned : FnScope ["_law_judge", "_law_order", "_law_xs", "_law_ys", "_law_found", "_law_state", "_law_rows", "_law_x", "_law_row", "_law_y", "_law_entry"] ["_law_judge", "_law_order", "_law_xs", "_law_ys"] (defScope s__law_turned) := ⟨rfl, rfl, rfl, by decide +kernel, rfl, by decide +kernel, by decide +kernel⟩
theorem ok__law_turned (F : Fun K "_law_turned" "_law_turned" s__law_turned f fd) (T : Fx K mg) : FnG P w K mg base 1 f fd ["_law_judge", "_law_order", "_law_xs", "_law_ys"] (spG K 4 (mBody 7 m__law_turned)) :=
  fnG (k := 0) F sc__law_turned fun cdv A outer s H E hr hg => (qss_cons (qs_setLcD (i := 4) (own := [("_law_state", 5)]) rfl sc__law_turned.nd rfl rfl (sw_true rfl rfl rfl (by decide +kernel)) (qi_seq (qe_name 1 (pv 1))) (blkOk_by (N := ["_law_judge", "_law_order", "_law_xs", "_law_ys", "_law_found", "_law_state", "_law_rows", "_law_x", "_law_row", "_law_y", "_law_entry"]) (sc := defScope s__law_turned) (by decide +kernel)) (fun _ _ _ _ _ => (qgw_name sc__law_turned.nd rfl (by decide) (by first | exact Or.inl rfl | exact Or.inr rfl) (by first | exact Or.inr rfl | exact Or.inl rfl))) (fun _ _ _ _ _ => (qe_lcD (own := [("_law_x", 7)]) rfl sc__law_turned.nd (qi_seq (qe_name 2 (pv 2))) (blkOk_by (N := ["_law_judge", "_law_order", "_law_xs", "_law_ys", "_law_found", "_law_state", "_law_rows", "_law_x", "_law_row", "_law_y", "_law_entry"]) (by kernel_rfl)) (fun _ _ _ _ _ => (qgw_name sc__law_turned.nd rfl (by decide) (by first | exact Or.inl rfl | exact Or.inr rfl) (by first | exact Or.inr rfl | exact Or.inl rfl))) (fun _ _ _ _ _ => (qe_lc (own := [("_law_y", 9)]) rfl sc__law_turned.nd (qi_seq (qe_name 3 (pv 3))) (blkOk_by (N := ["_law_judge", "_law_order", "_law_xs", "_law_ys", "_law_found", "_law_state", "_law_rows", "_law_x", "_law_row", "_law_y", "_law_entry"]) (by kernel_rfl)) (fun _ _ _ _ _ => (qgw_name sc__law_turned.nd rfl (by decide) (by first | exact Or.inl rfl | exact Or.inr rfl) (by first | exact Or.inr rfl | exact Or.inl rfl))) (fun _ _ _ _ _ => qts_nil) (fun _ _ _ _ _ => qe_none)))))) (qss_cons (qs_for (passes_of rfl) rfl (qi_enum rfl T.n_enumerate (qa_cons (qe_frz (qe_name 0 (pv 0))) qa_nil)) (qg_tup rfl (qgs_cons (qg_name (i := 5) sc__law_turned.nd rfl (Or.inl rfl)) (qgs_cons (qg_name (i := 6) sc__law_turned.nd rfl (Or.inl rfl)) qgs_nil))) (qss_one (qs_for (passes_of rfl) rfl (qi_enum rfl T.n_enumerate (qa_cons (qe_frz (qe_name 6 (pv 6))) qa_nil)) (qg_tup rfl (qgs_cons (qg_name (i := 7) sc__law_turned.nd rfl (Or.inl rfl)) (qgs_cons (qg_name (i := 8) sc__law_turned.nd rfl (Or.inl rfl)) qgs_nil))) (qss_one (qs_for (passes_of rfl) rfl (qi_enum rfl T.n_enumerate (qa_cons (qe_frz (qe_name 8 (pv 8))) qa_nil)) (qg_tup rfl (qgs_cons (qg_name (i := 9) sc__law_turned.nd rfl (Or.inl rfl)) (qgs_cons (qg_name (i := 10) sc__law_turned.nd rfl (Or.inl rfl)) qgs_nil))) (qss_one (qs_asg (qe_if (qt_isNX (qe_name 10 (pv 10))) qe_none (qe_ix (qe_name 1 (pv 1)) (qe_name 10 (pv 10)))) (qg_store3 (pv 4) (qp_ix (pv 1) (pv 5)) (qp_ix (pv 2) (pv 7)) (qp_ix (pv 3) (pv 9)))))))))) (qss_one (qs_ret (qe_ty call_tuple_of b_tuple mBT_noex rfl T.n_tuple boot_ty_tuple (qa_cons (qe_lc (own := [("_law_rows", 6)]) rfl sc__law_turned.nd (qi_seq (qe_name 4 (pv 4))) (blkOk_by (N := ["_law_judge", "_law_order", "_law_xs", "_law_ys", "_law_found", "_law_state", "_law_rows", "_law_x", "_law_row", "_law_y", "_law_entry"]) (sc := defScope s__law_turned) (by decide +kernel)) (fun _ _ _ _ _ => (qgw_name sc__law_turned.nd rfl (by decide) (by first | exact Or.inl rfl | exact Or.inr rfl) (by first | exact Or.inr rfl | exact Or.inl rfl))) (fun _ _ _ _ _ => qts_nil) (fun _ _ _ _ _ => (qe_ty call_tuple_of b_tuple mBT_noex rfl T.n_tuple boot_ty_tuple (qa_cons (qe_lc (own := [("_law_row", 8)]) rfl sc__law_turned.nd (qi_seq (qe_name 6 (pv 6))) (blkOk_by (N := ["_law_judge", "_law_order", "_law_xs", "_law_ys", "_law_found", "_law_state", "_law_rows", "_law_x", "_law_row", "_law_y", "_law_entry"]) (by kernel_rfl)) (fun _ _ _ _ _ => (qgw_name sc__law_turned.nd rfl (by decide) (by first | exact Or.inl rfl | exact Or.inr rfl) (by first | exact Or.inr rfl | exact Or.inl rfl))) (fun _ _ _ _ _ => qts_nil) (fun _ _ _ _ _ => (qe_ty call_tuple_of b_tuple mBT_noex rfl T.n_tuple boot_ty_tuple (qa_cons (qe_name 8 (pv 8)) qa_nil)))) qa_nil)))) qa_nil))))))
abbrev s__law_endless : Stmt := top 22
theorem sc__law_endless : FnScope ["_law_start"] [] (defScope s__law_endless) := ⟨rfl, rfl, rfl, by decide +kernel, rfl, by decide +kernel, by decide +kernel⟩
theorem ok__law_endless (F : Fun K "_law_endless" "_law_endless" s__law_endless f fd) (T : Fx K mg) : FnG P w K mg base 1 f fd [] (spG K 0 (mBody 1 m__law_endless)) :=
  fnG (k := 0) F sc__law_endless fun cdv A outer s H E hr hg => (qss_cons (qs_set (i := 0) sc__law_endless.nd rfl (Or.inl rfl) (qe_tup (qa_cons (qe_frz (qe_tup (qa_cons qe_int (qa_cons qe_int qa_nil)))) (qa_cons (qe_frz (qe_tup (qa_cons qe_int (qa_cons qe_none qa_nil)))) (qa_cons (qe_frz (qe_tup (qa_cons qe_none (qa_cons qe_int qa_nil)))) qa_nil))))) (qss_one (qs_ret (qe_tup (qa_cons (qe_frz (qe_name 0 (pv 0))) (qa_cons (qe_frz (qe_tup (qa_cons (qe_frz (qe_tup (qa_cons qe_int (qa_cons qe_int qa_nil)))) (qa_cons (qe_frz (qe_tup (qa_cons qe_int (qa_cons qe_int qa_nil)))) (qa_cons (qe_frz (qe_tup (qa_cons qe_none (qa_cons qe_none qa_nil)))) qa_nil))))) (qa_cons (qe_frz (qe_tup (qa_cons (qe_frz (qe_tup (qa_cons qe_int (qa_cons qe_int qa_nil)))) (qa_cons (qe_frz (qe_tup (qa_cons qe_none (qa_cons qe_none qa_nil)))) (qa_cons (qe_frz (qe_tup (qa_cons qe_int (qa_cons qe_int qa_nil)))) qa_nil))))) qa_nil)))))))
abbrev s__law_mixed : Stmt := top 21
theorem sc__law_mixed : FnScope ["_law_pot_here", "_law_some", "_law_left", "_law_found"] ["_law_pot_here", "_law_some"] (defScope s__law_mixed) := ⟨rfl, rfl, rfl, by decide +kernel, rfl, by decide +kernel, by decide +kernel⟩
theorem ok__law_mixed (F : Fun K "_law_mixed" "_law_mixed" s__law_mixed f fd) (T : Fx K mg) (c__law_take : Cal P w K mg base 1 "_law_take" 2 g__law_take) : FnG P w K mg base 2 f fd ["_law_pot_here", "_law_some"] (spG K 2 (mBody 2 m__law_mixed)) :=
  fnG (k := 1) F sc__law_mixed fun cdv A outer s H E hr hg => (qss_cons (qs_par2 (i := 2) (j := 3) rfl sc__law_mixed.nd rfl rfl (by decide) rfl rfl (qa_cons (qe_own (qe_ty call_list_of b_list mBT_noex rfl T.n_list boot_ty_list (qa_cons (qe_name 1 (pv 1)) qa_nil))) (qa_cons (qe_own (qe_lst qa_nil)) qa_nil)) (by rfl)) (qss_cons (qs_while 1000000 (passes_of rfl) (qt_c (cd_ne hr) (qe_name 2 (pv 2)) (qe_lst qa_nil) (nomark _)) (qss_one (qs_expr (qe_meth PySem.F.slot_list_append PySem.F.type_list_append mt_append m_append (qe_name 3 (pv 3)) (qa_cons (qe_frz (qe_meth PySem.F.slot_list_pop PySem.F.type_list_pop mt_popAt m_popAt (qe_name 2 (pv 2)) (qa_cons (qe_frz (qe_call (c__law_take.mono (by decide)) hr hg (takes_of rfl rfl rfl rfl) rfl (qa_cons (qe_frz (qe_name 0 (pv 0))) (qa_cons (qe_frz (qe_blt call_len b_len mPl_noex rfl T.n_len boot_fn_len (qa_cons (qe_name 2 (pv 2)) qa_nil))) qa_nil)) (len_cons (len_cons len_nil)))) qa_nil))) qa_nil))))) (qss_one (qs_ret (qe_name 3 (pv 3))))))
abbrev s__law_many_rows_right : Stmt := top 26
theorem sc__law_many_rows_right : FnScope ["_law_pot_here", "_law_plant", "_law_many", "_law_blocks", "_law_rows", "_law_told"] ["_law_pot_here"] (defScope s__law_many_rows_right) := ⟨rfl, rfl, rfl, by decide +kernel, rfl, by decide +kernel, by decide +kernel⟩
theorem ok__law_many_rows_right (F : Fun K "_law_many_rows_right" "_law_many_rows_right" s__law_many_rows_right f fd) (T : Fx K mg) (c_shows_certificate : Cal P w K mg base 4 "shows_certificate" 2 g_shows_certificate) (c__law_take : Cal P w K mg base 1 "_law_take" 2 g__law_take) : FnG P w K mg base 5 f fd ["_law_pot_here"] (spG K 1 (mBody 5 m__law_many_rows_right)) :=
  fnG (k := 4) F sc__law_many_rows_right fun cdv A outer s H E hr hg => (qss_cons (qs_par2 (i := 1) (j := 2) rfl sc__law_many_rows_right.nd rfl rfl (by decide) rfl rfl (qa_cons (qe_own (qe_tup (qa_cons (qe_frz (qe_tup (qa_cons (qe_frz (qe_tup (qa_cons qe_none qa_nil))) (qa_cons (qe_frz (qe_tup (qa_cons qe_int qa_nil))) qa_nil)))) qa_nil))) (qa_cons (qe_own (qe_add qe_int (qe_call (c__law_take.mono (by decide)) hr hg (takes_of rfl rfl rfl rfl) rfl (qa_cons (qe_frz (qe_name 0 (pv 0))) (qa_cons qe_int qa_nil)) (len_cons (len_cons len_nil))))) qa_nil)) (by rfl)) (qss_cons (qs_par2 (i := 3) (j := 4) rfl sc__law_many_rows_right.nd rfl rfl (by decide) rfl rfl (qa_cons (qe_own (qe_tup (qa_cons (qe_frz (qe_tup (qa_cons (qe_frz (qe_tup (qa_cons qe_int qa_nil))) (qa_cons (qe_frz (qe_tup (qa_cons qe_int qa_nil))) (qa_cons (qe_frz (qe_tup qa_nil)) qa_nil))))) (qa_cons (qe_frz (qe_tup (qa_cons (qe_frz (qe_tup (qa_cons qe_int qa_nil))) (qa_cons (qe_frz (qe_tup (qa_cons qe_int qa_nil))) (qa_cons (qe_frz (qe_tup qa_nil)) qa_nil))))) qa_nil)))) (qa_cons (qe_own (qe_mult (qe_tup (qa_cons (qe_frz (qe_tup (qa_cons qe_int (qa_cons qe_int (qa_cons qe_int qa_nil))))) qa_nil)) (qe_name 2 (pv 2)))) qa_nil)) (by rfl)) (qss_cons (qs_set (i := 5) sc__law_many_rows_right.nd rfl (Or.inl rfl) (qe_lst (qa_cons (qe_frz (qe_call (c_shows_certificate.mono (by decide)) hr hg (takes_of rfl rfl rfl rfl) rfl (qa_cons (qe_frz (qe_name 1 (pv 1))) (qa_cons (qe_frz (qe_tup (qa_cons (qe_frz (qe_name 3 (pv 3))) (qa_cons (qe_frz (qe_add (qe_name 4 (pv 4)) (qe_tup (qa_cons (qe_frz (qe_tup (qa_cons qe_int (qa_cons qe_int (qa_cons qe_int qa_nil))))) qa_nil)))) qa_nil)))) qa_nil)) (len_cons (len_cons len_nil)))) (qa_cons (qe_frz (qe_call (c_shows_certificate.mono (by decide)) hr hg (takes_of rfl rfl rfl rfl) rfl (qa_cons (qe_frz (qe_name 1 (pv 1))) (qa_cons (qe_frz (qe_tup (qa_cons (qe_frz (qe_name 3 (pv 3))) (qa_cons (qe_frz (qe_name 4 (pv 4))) qa_nil)))) qa_nil)) (len_cons (len_cons len_nil)))) qa_nil)))) (qss_one (qs_ret (qe_and (qe_c (cd_eq hr) (qe_name 5 (pv 5)) (qe_lst (qa_cons qe_bool (qa_cons qe_bool qa_nil))) (nomark _)) (pe_one (qe_c cd_isBl (qe_call (c_shows_certificate.mono (by decide)) hr hg (takes_of rfl rfl rfl rfl) rfl (qa_cons (qe_frz (qe_name 1 (pv 1))) (qa_cons (qe_frz (qe_tup (qa_cons (qe_frz (qe_name 3 (pv 3))) (qa_cons (qe_frz (qe_add (qe_add (qe_name 4 (pv 4)) (qe_tup (qa_cons (qe_frz (qe_tup (qa_cons qe_int (qa_cons qe_int (qa_cons qe_int qa_nil))))) qa_nil))) (qe_name 4 (pv 4)))) qa_nil)))) qa_nil)) (len_cons (len_cons len_nil))) qe_bool (nomark _)))))))))
abbrev s__law_pot : Stmt := top 19
theorem sc__law_pot : FnScope ["_law_script", "_law_k", "_law_cell", "_law_own"] ["_law_script", "_law_k"] (defScope s__law_pot) := ⟨rfl, rfl, rfl, by decide +kernel, rfl, by decide +kernel, by decide +kernel⟩
theorem ok__law_pot (F : Fun K "_law_pot" "_law_pot" s__law_pot f fd) (T : Fx K mg) : FnG P w K mg base 1 f fd ["_law_script", "_law_k"] (spG K 2 (mBody 2 m__law_pot)) :=
  fnG (k := 0) F sc__law_pot fun cdv A outer s H E hr hg => (qss_cons (qs_set (i := 2) sc__law_pot.nd rfl (Or.inl rfl) (qe_if (qt_c cd_lt (qe_name 1 (pv 1)) (qe_blt call_len b_scrLen mScrLen_noex rfl T.n_len boot_fn_len (qa_cons (qe_name 0 (pv 0)) qa_nil)) (nomark _)) (qe_scrIx (qe_name 0 (pv 0)) (qe_name 1 (pv 1))) (qe_add (qe_mult qe_int (qe_name 1 (pv 1))) qe_int))) (qss_cons (qs_set (i := 3) sc__law_pot.nd rfl (Or.inl rfl) (qe_mult (qe_mod (qe_blt call_abs b_abs mPl_noex rfl T.n_abs boot_fn_abs (qa_cons (qe_name 2 (pv 2)) qa_nil)) (qe_ty (call_int1.or call_int_str) b_int mPl_noex rfl T.n_int boot_ty_int (qa_cons (qe_add qe_str (qe_mult qe_str qe_int)) qa_nil))) (qe_ty (call_int1.or call_int_str) b_int mPl_noex rfl T.n_int boot_ty_int (qa_cons (qe_c cd_ge (qe_blt call_abs b_abs mPl_noex rfl T.n_abs boot_fn_abs (qa_cons (qe_name 2 (pv 2)) qa_nil)) (qe_pow qe_int qe_int) (nomark _)) qa_nil)))) (qss_one (qs_ret (qe_lst (qa_cons (qe_frz (qe_name 3 (pv 3))) (qa_cons (qe_frz (qe_mod (qe_mult (qe_add (qe_add (qe_mod (qe_name 2 (pv 2)) qe_int) (qe_mult (qe_mult qe_int (qe_name 1 (pv 1))) (qe_name 1 (pv 1)))) qe_int) qe_int) qe_int)) (qa_cons qe_int qa_nil))))))))
abbrev s_law : Stmt := top 27
theorem sc_law : FnScope ["_law_script", "_law_pot_here", "_law_turn", "_law_order", "_law_xs", "_law_ys", "_law_plant", "_law_blocks", "_law_good", "_law_rows", "_law_bad"] ["_law_script"] (defScope s_law) := ⟨rfl, rfl, rfl, by decide +kernel, rfl, by decide +kernel, by decide +kernel⟩
theorem ok_law (F : Fun K "law" "law" s_law f fd) (T : Fx K mg) (c__law_bad_papers : Cal P w K mg base 1 "_law_bad_papers" 4 g__law_bad_papers) (c_shows_certificate : Cal P w K mg base 4 "shows_certificate" 2 g_shows_certificate) (c__law_papers : Cal P w K mg base 2 "_law_papers" 3 g__law_papers) (c__law_turned : Cal P w K mg base 1 "_law_turned" 4 g__law_turned) (c__law_endless : Cal P w K mg base 1 "_law_endless" 0 g__law_endless) (c__law_mixed : Cal P w K mg base 2 "_law_mixed" 2 g__law_mixed) (c__law_many_rows_right : Cal P w K mg base 5 "_law_many_rows_right" 1 g__law_many_rows_right) (c__law_pot : Cal P w K mg base 1 "_law_pot" 2 g__law_pot) : FnG P w K mg base 6 f fd ["_law_script"] (spG K 1 (mBody 10 m_law)) :=
  fnG (k := 5) F sc_law fun cdv A outer s H E hr hg => (qss_cons (qs_setC (i := 1) sc_law.nd rfl (Or.inl rfl) (qe_call (c__law_pot.mono (by decide)) hr hg (takes_of rfl rfl rfl rfl) rfl (qa_cons (qe_frz (qe_name 0 (pv 0))) (qa_cons qe_int qa_nil)) (len_cons (len_cons len_nil)))) (qss_cons (qs_if (qt_not (qt_val (qe_call (c__law_many_rows_right.mono (by decide)) hr hg (takes_of rfl rfl rfl rfl) rfl (qa_cons (qe_frz (qe_name 1 (pv 1))) qa_nil) (len_cons len_nil)))) (qss_one (qs_ret qe_bool)) qss_nil) (qss_cons (qs_for (passes_of rfl) rfl (qi_range1 rfl T.n_range (qa_cons qe_int qa_nil)) (qg_name (i := 2) sc_law.nd rfl (Or.inl rfl)) (qss_cons (qs_par3 (i := 3) (j := 4) (l := 5) rfl sc_law.nd rfl rfl rfl (by decide) (by decide) (by decide) rfl rfl rfl (qa_cons (qe_own (qe_add (qe_lst (qa_cons qe_int qa_nil)) (qe_call (c__law_mixed.mono (by decide)) hr hg (takes_of rfl rfl rfl rfl) rfl (qa_cons (qe_frz (qe_name 1 (pv 1))) (qa_cons (qe_frz (qe_lst (qa_cons qe_int (qa_cons qe_int qa_nil)))) qa_nil)) (len_cons (len_cons len_nil))))) (qa_cons (qe_own (qe_call (c__law_mixed.mono (by decide)) hr hg (takes_of rfl rfl rfl rfl) rfl (qa_cons (qe_frz (qe_name 1 (pv 1))) (qa_cons (qe_frz (qe_lst (qa_cons qe_int (qa_cons qe_int (qa_cons qe_int qa_nil))))) qa_nil)) (len_cons (len_cons len_nil)))) (qa_cons (qe_own (qe_call (c__law_mixed.mono (by decide)) hr hg (takes_of rfl rfl rfl rfl) rfl (qa_cons (qe_frz (qe_name 1 (pv 1))) (qa_cons (qe_frz (qe_lst (qa_cons qe_int (qa_cons qe_int qa_nil)))) qa_nil)) (len_cons (len_cons len_nil)))) qa_nil))) (by rfl)) (qss_cons (qs_set (i := 6) sc_law.nd rfl (Or.inr rfl) (qe_call (c__law_turned.mono (by decide)) hr hg (takes_of rfl rfl rfl rfl) rfl (qa_cons (qe_frz (qe_call0 (c__law_endless.mono (by decide)) hr hg (takes_of rfl rfl rfl rfl) rfl)) (qa_cons (qe_frz (qe_name 3 (pv 3))) (qa_cons (qe_frz (qe_name 4 (pv 4))) (qa_cons (qe_frz (qe_name 5 (pv 5))) qa_nil)))) (len_cons (len_cons (len_cons (len_cons len_nil)))))) (qss_cons (qs_asg (qe_call (c__law_papers.mono (by decide)) hr hg (takes_of rfl rfl rfl rfl) rfl (qa_cons (qe_frz (qe_name 1 (pv 1))) (qa_cons (qe_frz (qe_name 3 (pv 3))) (qa_cons (qe_frz (qe_name 4 (pv 4))) qa_nil))) (len_cons (len_cons (len_cons len_nil)))) (qg_tup rfl (qgs_cons (qg_name (i := 7) sc_law.nd rfl (Or.inr rfl)) (qgs_cons (qg_name (i := 8) sc_law.nd rfl (Or.inl rfl)) qgs_nil)))) (qss_cons (qs_if (qt_not (qt_val (qe_blt (cr_all rfl) b_all mPl_noex rfl T.n_all boot_fn_all (qa_cons (qe_lc (own := [("_law_rows", 9)]) rfl sc_law.nd (qi_seq (qe_name 8 (pv 8))) (blkOk_by (N := ["_law_script", "_law_pot_here", "_law_turn", "_law_order", "_law_xs", "_law_ys", "_law_plant", "_law_blocks", "_law_good", "_law_rows", "_law_bad"]) (sc := defScope s_law) (by decide +kernel)) (fun _ _ _ _ _ => (qgw_name sc_law.nd rfl (by decide) (by first | exact Or.inl rfl | exact Or.inr rfl) (by first | exact Or.inr rfl | exact Or.inl rfl))) (fun _ _ _ _ _ => qts_nil) (fun _ _ _ _ _ => (qe_c cd_isBl (qe_call (c_shows_certificate.mono (by decide)) hr hg takes0 rfl (qa_cons (qe_frz (qe_name 6 (pv 6))) (qa_cons (qe_frz (qe_tup (qa_cons (qe_frz (qe_name 7 (pv 7))) (qa_cons (qe_frz (qe_name 9 (pv 9))) qa_nil)))) qa_nil)) (len_cons (len_cons len_nil))) qe_bool (nomark _)))) qa_nil)))) (qss_one (qs_ret qe_bool)) qss_nil) (qss_one (qs_if (qt_not (qt_val (qe_blt (cr_all rfl) b_all mPl_noex rfl T.n_all boot_fn_all (qa_cons (qe_lc (own := [("_law_bad", 10)]) rfl sc_law.nd (qi_seq (qe_call (c__law_bad_papers.mono (by decide)) hr hg (takes_of rfl rfl rfl rfl) rfl (qa_cons (qe_frz (qe_name 7 (pv 7))) (qa_cons (qe_frz (qe_ix (qe_name 8 (pv 8)) qe_int)) (qa_cons (qe_frz (qe_name 3 (pv 3))) (qa_cons (qe_frz (qe_name 4 (pv 4))) qa_nil)))) (len_cons (len_cons (len_cons (len_cons len_nil)))))) (blkOk_by (N := ["_law_script", "_law_pot_here", "_law_turn", "_law_order", "_law_xs", "_law_ys", "_law_plant", "_law_blocks", "_law_good", "_law_rows", "_law_bad"]) (sc := defScope s_law) (by decide +kernel)) (fun _ _ _ _ _ => (qgw_name sc_law.nd rfl (by decide) (by first | exact Or.inl rfl | exact Or.inr rfl) (by first | exact Or.inr rfl | exact Or.inl rfl))) (fun _ _ _ _ _ => qts_nil) (fun _ _ _ _ _ => (qe_c cd_isBl (qe_call (c_shows_certificate.mono (by decide)) hr hg takes0 rfl (qa_cons (qe_frz (qe_name 6 (pv 6))) (qa_cons (qe_frz (qe_name 10 (pv 10))) qa_nil)) (len_cons (len_cons len_nil))) qe_bool (nomark _)))) qa_nil)))) (qss_one (qs_ret qe_bool)) qss_nil))))))) (qss_one (qs_ret qe_bool)))))
/-! ### the end -/
structure Std (K : KF) (mg : Str → Option Value) (x : Str) (st : Stmt) : Prop where
  ex : ∃ (f : Addr) (fd : FuncData), Fun K x x st f fd ∧ mg x = some (.ref f)
structure StdM (K : KF) (C m q : Str) (st : Stmt) : Prop where
  ex : ∃ (f : Addr) (fd : FuncData), Fun K m q st f fd ∧ Meth K (cOf K C) m f
structure StdC (K : KF) (mg : Str → Option Value) (C q : Str) (st : Stmt) : Prop where
  g : mg C = some (.ref (cOf K C))
  ex : ∃ (f : Addr) (fd : FuncData), Fun K "__init__" q st f fd ∧ Mk K (cOf K C) f
structure All (K : KF) (mg : Str → Option Value) : Prop where
  T : Fx K mg
  d__law_bad_papers : Std K mg "_law_bad_papers" s__law_bad_papers
  d_composed : Std K mg "composed" s_composed
  d_letter_relation : Std K mg "letter_relation" s_letter_relation
  d_relation_of : Std K mg "relation_of" s_relation_of
  d_are_rows_kept : Std K mg "are_rows_kept" s_are_rows_kept
  d_is_integer : Std K mg "is_integer" s_is_integer
  d_is_row : Std K mg "is_row" s_is_row
  d_is_word : Std K mg "is_word" s_is_word
  d_input_count : Std K mg "input_count" s_input_count
  d_is_block : Std K mg "is_block" s_is_block
  d_shows_certificate : Std K mg "shows_certificate" s_shows_certificate
  d__law_take : Std K mg "_law_take" s__law_take
  d__law_papers : Std K mg "_law_papers" s__law_papers
  d__law_turned : Std K mg "_law_turned" s__law_turned
  d__law_endless : Std K mg "_law_endless" s__law_endless
  d__law_mixed : Std K mg "_law_mixed" s__law_mixed
  d__law_many_rows_right : Std K mg "_law_many_rows_right" s__law_many_rows_right
  d__law_pot : Std K mg "_law_pot" s__law_pot
  d_law : Std K mg "law" s_law
theorem ini_eq {a b : Prop} (h : a) : a := h
theorem cal__law_bad_papers (D : All K mg) : Cal P w K mg base 1 "_law_bad_papers" 4 g__law_bad_papers := by
  obtain ⟨f, fd, F, hm⟩ := D.d__law_bad_papers.ex
  exact ⟨f, fd, ["_law_blocks", "_law_rows", "_law_order", "_law_xs"], rfl, ok__law_bad_papers F D.T, hm, F.kp, F.binds fun _ _ _ _ _ _ us hl => match us, hl with | [_, _, _, _], _ => rfl⟩
theorem cal_composed (D : All K mg) : Cal P w K mg base 1 "composed" 2 g_composed := by
  obtain ⟨f, fd, F, hm⟩ := D.d_composed.ex
  exact ⟨f, fd, ["one", "other"], rfl, ok_composed F D.T, hm, F.kp, F.binds fun _ _ _ _ _ _ us hl => match us, hl with | [_, _], _ => rfl⟩
theorem cal_letter_relation (D : All K mg) : Cal P w K mg base 1 "letter_relation" 2 g_letter_relation := by
  obtain ⟨f, fd, F, hm⟩ := D.d_letter_relation.ex
  exact ⟨f, fd, ["judge", "letter"], rfl, ok_letter_relation F D.T, hm, F.kp, F.binds fun _ _ _ _ _ _ us hl => match us, hl with | [_, _], _ => rfl⟩
theorem cal_relation_of (D : All K mg) : Cal P w K mg base 2 "relation_of" 2 g_relation_of := by
  obtain ⟨f, fd, F, hm⟩ := D.d_relation_of.ex
  exact ⟨f, fd, ["judge", "inputs"], rfl, ok_relation_of F D.T (cal_composed D) (cal_letter_relation D), hm, F.kp, F.binds fun _ _ _ _ _ _ us hl => match us, hl with | [_, _], _ => rfl⟩
theorem cal_are_rows_kept (D : All K mg) : Cal P w K mg base 3 "are_rows_kept" 3 g_are_rows_kept := by
  obtain ⟨f, fd, F, hm⟩ := D.d_are_rows_kept.ex
  exact ⟨f, fd, ["judge", "blocks", "rows"], rfl, ok_are_rows_kept F D.T (cal_relation_of D), hm, F.kp, F.binds fun _ _ _ _ _ _ us hl => match us, hl with | [_, _, _], _ => rfl⟩
theorem cal_is_integer (D : All K mg) : Cal P w K mg base 1 "is_integer" 3 g_is_integer := by
  obtain ⟨f, fd, F, hm⟩ := D.d_is_integer.ex
  exact ⟨f, fd, ["value", "least", "most"], rfl, ok_is_integer F D.T, hm, F.kp, F.binds fun _ _ _ _ _ _ us hl => match us, hl with | [_, _, _], _ => rfl⟩
theorem cal_is_row (D : All K mg) : Cal P w K mg base 2 "is_row" 3 g_is_row := by
  obtain ⟨f, fd, F, hm⟩ := D.d_is_row.ex
  exact ⟨f, fd, ["judge", "count", "value"], rfl, ok_is_row F D.T (cal_is_integer D), hm, F.kp, F.binds fun _ _ _ _ _ _ us hl => match us, hl with | [_, _, _], _ => rfl⟩
theorem cal_is_word (D : All K mg) : Cal P w K mg base 2 "is_word" 3 g_is_word := by
  obtain ⟨f, fd, F, hm⟩ := D.d_is_word.ex
  exact ⟨f, fd, ["value", "letters", "most"], rfl, ok_is_word F D.T (cal_is_integer D), hm, F.kp, F.binds fun _ _ _ _ _ _ us hl => match us, hl with | [_, _, _], _ => rfl⟩
theorem cal_input_count (D : All K mg) : Cal P w K mg base 1 "input_count" 1 g_input_count := by
  obtain ⟨f, fd, F, hm⟩ := D.d_input_count.ex
  exact ⟨f, fd, ["judge"], rfl, ok_input_count F D.T, hm, F.kp, F.binds fun _ _ _ _ _ _ us hl => match us, hl with | [_], _ => rfl⟩
theorem cal_is_block (D : All K mg) : Cal P w K mg base 3 "is_block" 2 g_is_block := by
  obtain ⟨f, fd, F, hm⟩ := D.d_is_block.ex
  exact ⟨f, fd, ["judge", "value"], rfl, ok_is_block F D.T (cal_relation_of D) (cal_is_word D) (cal_input_count D), hm, F.kp, F.binds fun _ _ _ _ _ _ us hl => match us, hl with | [_, _], _ => rfl⟩
theorem cal_shows_certificate (D : All K mg) : Cal P w K mg base 4 "shows_certificate" 2 g_shows_certificate := by
  obtain ⟨f, fd, F, hm⟩ := D.d_shows_certificate.ex
  exact ⟨f, fd, ["judge", "value"], rfl, ok_shows_certificate F D.T (cal_are_rows_kept D) (cal_is_row D) (cal_is_block D), hm, F.kp, F.binds fun _ _ _ _ _ _ us hl => match us, hl with | [_, _], _ => rfl⟩
theorem cal__law_take (D : All K mg) : Cal P w K mg base 1 "_law_take" 2 g__law_take := by
  obtain ⟨f, fd, F, hm⟩ := D.d__law_take.ex
  exact ⟨f, fd, ["_law_pot_here", "_law_many"], rfl, ok__law_take F D.T, hm, F.kp, F.binds fun _ _ _ _ _ _ us hl => match us, hl with | [_, _], _ => rfl⟩
theorem cal__law_papers (D : All K mg) : Cal P w K mg base 2 "_law_papers" 3 g__law_papers := by
  obtain ⟨f, fd, F, hm⟩ := D.d__law_papers.ex
  exact ⟨f, fd, ["_law_pot_here", "_law_order", "_law_xs"], rfl, ok__law_papers F D.T (cal__law_take D), hm, F.kp, F.binds fun _ _ _ _ _ _ us hl => match us, hl with | [_, _, _], _ => rfl⟩
theorem cal__law_turned (D : All K mg) : Cal P w K mg base 1 "_law_turned" 4 g__law_turned := by
  obtain ⟨f, fd, F, hm⟩ := D.d__law_turned.ex
  exact ⟨f, fd, ["_law_judge", "_law_order", "_law_xs", "_law_ys"], rfl, ok__law_turned F D.T, hm, F.kp, F.binds fun _ _ _ _ _ _ us hl => match us, hl with | [_, _, _, _], _ => rfl⟩
theorem cal__law_endless (D : All K mg) : Cal P w K mg base 1 "_law_endless" 0 g__law_endless := by
  obtain ⟨f, fd, F, hm⟩ := D.d__law_endless.ex
  exact ⟨f, fd, [], rfl, ok__law_endless F D.T, hm, F.kp, F.binds fun _ _ _ _ _ _ us hl => match us, hl with | [], _ => rfl⟩
theorem cal__law_mixed (D : All K mg) : Cal P w K mg base 2 "_law_mixed" 2 g__law_mixed := by
  obtain ⟨f, fd, F, hm⟩ := D.d__law_mixed.ex
  exact ⟨f, fd, ["_law_pot_here", "_law_some"], rfl, ok__law_mixed F D.T (cal__law_take D), hm, F.kp, F.binds fun _ _ _ _ _ _ us hl => match us, hl with | [_, _], _ => rfl⟩
theorem cal__law_many_rows_right (D : All K mg) : Cal P w K mg base 5 "_law_many_rows_right" 1 g__law_many_rows_right := by
  obtain ⟨f, fd, F, hm⟩ := D.d__law_many_rows_right.ex
  exact ⟨f, fd, ["_law_pot_here"], rfl, ok__law_many_rows_right F D.T (cal_shows_certificate D) (cal__law_take D), hm, F.kp, F.binds fun _ _ _ _ _ _ us hl => match us, hl with | [_], _ => rfl⟩
theorem cal__law_pot (D : All K mg) : Cal P w K mg base 1 "_law_pot" 2 g__law_pot := by
  obtain ⟨f, fd, F, hm⟩ := D.d__law_pot.ex
  exact ⟨f, fd, ["_law_script", "_law_k"], rfl, ok__law_pot F D.T, hm, F.kp, F.binds fun _ _ _ _ _ _ us hl => match us, hl with | [_, _], _ => rfl⟩
theorem law_fn (D : All K mg) {fa : Addr} (hfa : mg "law" = some (.ref fa)) : ∃ fd : FuncData, (∀ (s : Shared) (u : Value), BindsTo s fd ⟨[u], []⟩ [("_law_script", u)]) ∧ ∀ base : Heap, FnG P w K mg base 6 fa fd ["_law_script"] (spG K 1 g_law) := by
  obtain ⟨f, fd, F, hm⟩ := D.d_law.ex
  obtain rfl : f = fa := by
    rw [hm] at hfa; cases hfa; rfl
  refine ⟨fd, ?_, fun base => ok_law F D.T (cal__law_bad_papers D) (cal_shows_certificate D) (cal__law_papers D) (cal__law_turned D) (cal__law_endless D) (cal__law_mixed D) (cal__law_many_rows_right D) (cal__law_pot D)⟩
  obtain ⟨oc, od, kV, doc, pm, an, cdv, ct, osl, rfl, lk, hcd⟩ := F.ex
  exact fun s u => .of_eq (by first | rfl | with_unfolding_all rfl)
theorem all_mk {K : KF} {h : Heap} {mg : Str → Option Value} (X : K.In h) (G : h.Ns mainGlobals mg)
    {f0 : Addr} {od0 an0 : Option Addr} {sl0 : Array (Option Value)} {oc0 kV0 dc0 pm0 cd0 ct0 : Value}
    (a0 : PySem.W.nsIn K mainGlobals "_law_bad_papers" = some (some (.ref f0))) (l0 : K.lookup f0 = some ⟨oc0, od0, .func (PySem.W.fnOf "_law_bad_papers" "_law_bad_papers" (defArgs s__law_bad_papers) (defBody s__law_bad_papers) (defScope s__law_bad_papers) .none kV0 dc0 pm0 an0 cd0 ct0), sl0⟩) (c0 : PySem.W.codeIn K cd0 "_law_bad_papers" = true) (k0 : PySem.W.keepIn K (.ref f0) = true)
    {f1 : Addr} {od1 an1 : Option Addr} {sl1 : Array (Option Value)} {oc1 kV1 dc1 pm1 cd1 ct1 : Value}
    (a1 : PySem.W.nsIn K mainGlobals "composed" = some (some (.ref f1))) (l1 : K.lookup f1 = some ⟨oc1, od1, .func (PySem.W.fnOf "composed" "composed" (defArgs s_composed) (defBody s_composed) (defScope s_composed) .none kV1 dc1 pm1 an1 cd1 ct1), sl1⟩) (c1 : PySem.W.codeIn K cd1 "composed" = true) (k1 : PySem.W.keepIn K (.ref f1) = true)
    {f2 : Addr} {od2 an2 : Option Addr} {sl2 : Array (Option Value)} {oc2 kV2 dc2 pm2 cd2 ct2 : Value}
    (a2 : PySem.W.nsIn K mainGlobals "letter_relation" = some (some (.ref f2))) (l2 : K.lookup f2 = some ⟨oc2, od2, .func (PySem.W.fnOf "letter_relation" "letter_relation" (defArgs s_letter_relation) (defBody s_letter_relation) (defScope s_letter_relation) .none kV2 dc2 pm2 an2 cd2 ct2), sl2⟩) (c2 : PySem.W.codeIn K cd2 "letter_relation" = true) (k2 : PySem.W.keepIn K (.ref f2) = true)
    {f3 : Addr} {od3 an3 : Option Addr} {sl3 : Array (Option Value)} {oc3 kV3 dc3 pm3 cd3 ct3 : Value}
    (a3 : PySem.W.nsIn K mainGlobals "relation_of" = some (some (.ref f3))) (l3 : K.lookup f3 = some ⟨oc3, od3, .func (PySem.W.fnOf "relation_of" "relation_of" (defArgs s_relation_of) (defBody s_relation_of) (defScope s_relation_of) .none kV3 dc3 pm3 an3 cd3 ct3), sl3⟩) (c3 : PySem.W.codeIn K cd3 "relation_of" = true) (k3 : PySem.W.keepIn K (.ref f3) = true)
    {f4 : Addr} {od4 an4 : Option Addr} {sl4 : Array (Option Value)} {oc4 kV4 dc4 pm4 cd4 ct4 : Value}
    (a4 : PySem.W.nsIn K mainGlobals "are_rows_kept" = some (some (.ref f4))) (l4 : K.lookup f4 = some ⟨oc4, od4, .func (PySem.W.fnOf "are_rows_kept" "are_rows_kept" (defArgs s_are_rows_kept) (defBody s_are_rows_kept) (defScope s_are_rows_kept) .none kV4 dc4 pm4 an4 cd4 ct4), sl4⟩) (c4 : PySem.W.codeIn K cd4 "are_rows_kept" = true) (k4 : PySem.W.keepIn K (.ref f4) = true)
    {f5 : Addr} {od5 an5 : Option Addr} {sl5 : Array (Option Value)} {oc5 kV5 dc5 pm5 cd5 ct5 : Value}
    (a5 : PySem.W.nsIn K mainGlobals "is_integer" = some (some (.ref f5))) (l5 : K.lookup f5 = some ⟨oc5, od5, .func (PySem.W.fnOf "is_integer" "is_integer" (defArgs s_is_integer) (defBody s_is_integer) (defScope s_is_integer) .none kV5 dc5 pm5 an5 cd5 ct5), sl5⟩) (c5 : PySem.W.codeIn K cd5 "is_integer" = true) (k5 : PySem.W.keepIn K (.ref f5) = true)
    {f6 : Addr} {od6 an6 : Option Addr} {sl6 : Array (Option Value)} {oc6 kV6 dc6 pm6 cd6 ct6 : Value}
    (a6 : PySem.W.nsIn K mainGlobals "is_row" = some (some (.ref f6))) (l6 : K.lookup f6 = some ⟨oc6, od6, .func (PySem.W.fnOf "is_row" "is_row" (defArgs s_is_row) (defBody s_is_row) (defScope s_is_row) .none kV6 dc6 pm6 an6 cd6 ct6), sl6⟩) (c6 : PySem.W.codeIn K cd6 "is_row" = true) (k6 : PySem.W.keepIn K (.ref f6) = true)
    {f7 : Addr} {od7 an7 : Option Addr} {sl7 : Array (Option Value)} {oc7 kV7 dc7 pm7 cd7 ct7 : Value}
    (a7 : PySem.W.nsIn K mainGlobals "is_word" = some (some (.ref f7))) (l7 : K.lookup f7 = some ⟨oc7, od7, .func (PySem.W.fnOf "is_word" "is_word" (defArgs s_is_word) (defBody s_is_word) (defScope s_is_word) .none kV7 dc7 pm7 an7 cd7 ct7), sl7⟩) (c7 : PySem.W.codeIn K cd7 "is_word" = true) (k7 : PySem.W.keepIn K (.ref f7) = true)
    {f8 : Addr} {od8 an8 : Option Addr} {sl8 : Array (Option Value)} {oc8 kV8 dc8 pm8 cd8 ct8 : Value}
    (a8 : PySem.W.nsIn K mainGlobals "input_count" = some (some (.ref f8))) (l8 : K.lookup f8 = some ⟨oc8, od8, .func (PySem.W.fnOf "input_count" "input_count" (defArgs s_input_count) (defBody s_input_count) (defScope s_input_count) .none kV8 dc8 pm8 an8 cd8 ct8), sl8⟩) (c8 : PySem.W.codeIn K cd8 "input_count" = true) (k8 : PySem.W.keepIn K (.ref f8) = true)
    {f9 : Addr} {od9 an9 : Option Addr} {sl9 : Array (Option Value)} {oc9 kV9 dc9 pm9 cd9 ct9 : Value}
    (a9 : PySem.W.nsIn K mainGlobals "is_block" = some (some (.ref f9))) (l9 : K.lookup f9 = some ⟨oc9, od9, .func (PySem.W.fnOf "is_block" "is_block" (defArgs s_is_block) (defBody s_is_block) (defScope s_is_block) .none kV9 dc9 pm9 an9 cd9 ct9), sl9⟩) (c9 : PySem.W.codeIn K cd9 "is_block" = true) (k9 : PySem.W.keepIn K (.ref f9) = true)
    {f10 : Addr} {od10 an10 : Option Addr} {sl10 : Array (Option Value)} {oc10 kV10 dc10 pm10 cd10 ct10 : Value}
    (a10 : PySem.W.nsIn K mainGlobals "shows_certificate" = some (some (.ref f10))) (l10 : K.lookup f10 = some ⟨oc10, od10, .func (PySem.W.fnOf "shows_certificate" "shows_certificate" (defArgs s_shows_certificate) (defBody s_shows_certificate) (defScope s_shows_certificate) .none kV10 dc10 pm10 an10 cd10 ct10), sl10⟩) (c10 : PySem.W.codeIn K cd10 "shows_certificate" = true) (k10 : PySem.W.keepIn K (.ref f10) = true)
    {f11 : Addr} {od11 an11 : Option Addr} {sl11 : Array (Option Value)} {oc11 kV11 dc11 pm11 cd11 ct11 : Value}
    (a11 : PySem.W.nsIn K mainGlobals "_law_take" = some (some (.ref f11))) (l11 : K.lookup f11 = some ⟨oc11, od11, .func (PySem.W.fnOf "_law_take" "_law_take" (defArgs s__law_take) (defBody s__law_take) (defScope s__law_take) .none kV11 dc11 pm11 an11 cd11 ct11), sl11⟩) (c11 : PySem.W.codeIn K cd11 "_law_take" = true) (k11 : PySem.W.keepIn K (.ref f11) = true)
    {f12 : Addr} {od12 an12 : Option Addr} {sl12 : Array (Option Value)} {oc12 kV12 dc12 pm12 cd12 ct12 : Value}
    (a12 : PySem.W.nsIn K mainGlobals "_law_papers" = some (some (.ref f12))) (l12 : K.lookup f12 = some ⟨oc12, od12, .func (PySem.W.fnOf "_law_papers" "_law_papers" (defArgs s__law_papers) (defBody s__law_papers) (defScope s__law_papers) .none kV12 dc12 pm12 an12 cd12 ct12), sl12⟩) (c12 : PySem.W.codeIn K cd12 "_law_papers" = true) (k12 : PySem.W.keepIn K (.ref f12) = true)
    {f13 : Addr} {od13 an13 : Option Addr} {sl13 : Array (Option Value)} {oc13 kV13 dc13 pm13 cd13 ct13 : Value}
    (a13 : PySem.W.nsIn K mainGlobals "_law_turned" = some (some (.ref f13))) (l13 : K.lookup f13 = some ⟨oc13, od13, .func (PySem.W.fnOf "_law_turned" "_law_turned" (defArgs s__law_turned) (defBody s__law_turned) (defScope s__law_turned) .none kV13 dc13 pm13 an13 cd13 ct13), sl13⟩) (c13 : PySem.W.codeIn K cd13 "_law_turned" = true) (k13 : PySem.W.keepIn K (.ref f13) = true)
    {f14 : Addr} {od14 an14 : Option Addr} {sl14 : Array (Option Value)} {oc14 kV14 dc14 pm14 cd14 ct14 : Value}
    (a14 : PySem.W.nsIn K mainGlobals "_law_endless" = some (some (.ref f14))) (l14 : K.lookup f14 = some ⟨oc14, od14, .func (PySem.W.fnOf "_law_endless" "_law_endless" (defArgs s__law_endless) (defBody s__law_endless) (defScope s__law_endless) .none kV14 dc14 pm14 an14 cd14 ct14), sl14⟩) (c14 : PySem.W.codeIn K cd14 "_law_endless" = true) (k14 : PySem.W.keepIn K (.ref f14) = true)
    {f15 : Addr} {od15 an15 : Option Addr} {sl15 : Array (Option Value)} {oc15 kV15 dc15 pm15 cd15 ct15 : Value}
    (a15 : PySem.W.nsIn K mainGlobals "_law_mixed" = some (some (.ref f15))) (l15 : K.lookup f15 = some ⟨oc15, od15, .func (PySem.W.fnOf "_law_mixed" "_law_mixed" (defArgs s__law_mixed) (defBody s__law_mixed) (defScope s__law_mixed) .none kV15 dc15 pm15 an15 cd15 ct15), sl15⟩) (c15 : PySem.W.codeIn K cd15 "_law_mixed" = true) (k15 : PySem.W.keepIn K (.ref f15) = true)
    {f16 : Addr} {od16 an16 : Option Addr} {sl16 : Array (Option Value)} {oc16 kV16 dc16 pm16 cd16 ct16 : Value}
    (a16 : PySem.W.nsIn K mainGlobals "_law_many_rows_right" = some (some (.ref f16))) (l16 : K.lookup f16 = some ⟨oc16, od16, .func (PySem.W.fnOf "_law_many_rows_right" "_law_many_rows_right" (defArgs s__law_many_rows_right) (defBody s__law_many_rows_right) (defScope s__law_many_rows_right) .none kV16 dc16 pm16 an16 cd16 ct16), sl16⟩) (c16 : PySem.W.codeIn K cd16 "_law_many_rows_right" = true) (k16 : PySem.W.keepIn K (.ref f16) = true)
    {f17 : Addr} {od17 an17 : Option Addr} {sl17 : Array (Option Value)} {oc17 kV17 dc17 pm17 cd17 ct17 : Value}
    (a17 : PySem.W.nsIn K mainGlobals "_law_pot" = some (some (.ref f17))) (l17 : K.lookup f17 = some ⟨oc17, od17, .func (PySem.W.fnOf "_law_pot" "_law_pot" (defArgs s__law_pot) (defBody s__law_pot) (defScope s__law_pot) .none kV17 dc17 pm17 an17 cd17 ct17), sl17⟩) (c17 : PySem.W.codeIn K cd17 "_law_pot" = true) (k17 : PySem.W.keepIn K (.ref f17) = true)
    {f18 : Addr} {od18 an18 : Option Addr} {sl18 : Array (Option Value)} {oc18 kV18 dc18 pm18 cd18 ct18 : Value}
    (a18 : PySem.W.nsIn K mainGlobals "law" = some (some (.ref f18))) (l18 : K.lookup f18 = some ⟨oc18, od18, .func (PySem.W.fnOf "law" "law" (defArgs s_law) (defBody s_law) (defScope s_law) .none kV18 dc18 pm18 an18 cd18 ct18), sl18⟩) (c18 : PySem.W.codeIn K cd18 "law" = true) (k18 : PySem.W.keepIn K (.ref f18) = true)
    (z_abs : PySem.W.nsIn K mainGlobals "abs" = some none)
    (z_all : PySem.W.nsIn K mainGlobals "all" = some none)
    (z_bool : PySem.W.nsIn K mainGlobals "bool" = some none)
    (z_enumerate : PySem.W.nsIn K mainGlobals "enumerate" = some none)
    (z_int : PySem.W.nsIn K mainGlobals "int" = some none)
    (z_isinstance : PySem.W.nsIn K mainGlobals "isinstance" = some none)
    (z_len : PySem.W.nsIn K mainGlobals "len" = some none)
    (z_list : PySem.W.nsIn K mainGlobals "list" = some none)
    (z_range : PySem.W.nsIn K mainGlobals "range" = some none)
    (z_set : PySem.W.nsIn K mainGlobals "set" = some none)
    (z_sorted : PySem.W.nsIn K mainGlobals "sorted" = some none)
    (z_tuple : PySem.W.nsIn K mainGlobals "tuple" = some none)
    {t_BLOCK_PARTS : Tok} (q_BLOCK_PARTS : PySem.W.nsIn K mainGlobals "BLOCK_PARTS" = some (some (.int 3 t_BLOCK_PARTS)))
    {t_CERTIFICATE_PARTS : Tok} (q_CERTIFICATE_PARTS : PySem.W.nsIn K mainGlobals "CERTIFICATE_PARTS" = some (some (.int 2 t_CERTIFICATE_PARTS)))
    {t_MOST_LETTERS : Tok} (q_MOST_LETTERS : PySem.W.nsIn K mainGlobals "MOST_LETTERS" = some (some (.int 2000 t_MOST_LETTERS)))
    {t_ROW_PARTS : Tok} (q_ROW_PARTS : PySem.W.nsIn K mainGlobals "ROW_PARTS" = some (some (.int 3 t_ROW_PARTS)))
    {t_START : Tok} (q_START : PySem.W.nsIn K mainGlobals "START" = some (some (.int 0 t_START)))
    : All K mg := by
  have co : ∀ {n : Str} {C : Addr}, PySem.W.nsIn K mainGlobals n = some (some (.ref C)) → cOf K n = C := fun e => by unfold cOf; rw [e]
  refine {
    T := {
      zero := (trivial),
      n_abs := (PySem.W.mg_none_of X G z_abs),
      n_all := (PySem.W.mg_none_of X G z_all),
      n_bool := (PySem.W.mg_none_of X G z_bool),
      n_enumerate := (PySem.W.mg_none_of X G z_enumerate),
      n_int := (PySem.W.mg_none_of X G z_int),
      n_isinstance := (PySem.W.mg_none_of X G z_isinstance),
      n_len := (PySem.W.mg_none_of X G z_len),
      n_list := (PySem.W.mg_none_of X G z_list),
      n_range := (PySem.W.mg_none_of X G z_range),
      n_set := (PySem.W.mg_none_of X G z_set),
      n_sorted := (PySem.W.mg_none_of X G z_sorted),
      n_tuple := (PySem.W.mg_none_of X G z_tuple),
      k_BLOCK_PARTS := (⟨_, PySem.W.mg_of X G q_BLOCK_PARTS⟩),
      k_CERTIFICATE_PARTS := (⟨_, PySem.W.mg_of X G q_CERTIFICATE_PARTS⟩),
      k_MOST_LETTERS := (⟨_, PySem.W.mg_of X G q_MOST_LETTERS⟩),
      k_ROW_PARTS := (⟨_, PySem.W.mg_of X G q_ROW_PARTS⟩),
      k_START := (⟨_, PySem.W.mg_of X G q_START⟩)
      },
    d__law_bad_papers := ⟨f0, _, fun_mk (st := s__law_bad_papers) l0 c0 k0, PySem.W.mg_of X G a0⟩,
    d_composed := ⟨f1, _, fun_mk (st := s_composed) l1 c1 k1, PySem.W.mg_of X G a1⟩,
    d_letter_relation := ⟨f2, _, fun_mk (st := s_letter_relation) l2 c2 k2, PySem.W.mg_of X G a2⟩,
    d_relation_of := ⟨f3, _, fun_mk (st := s_relation_of) l3 c3 k3, PySem.W.mg_of X G a3⟩,
    d_are_rows_kept := ⟨f4, _, fun_mk (st := s_are_rows_kept) l4 c4 k4, PySem.W.mg_of X G a4⟩,
    d_is_integer := ⟨f5, _, fun_mk (st := s_is_integer) l5 c5 k5, PySem.W.mg_of X G a5⟩,
    d_is_row := ⟨f6, _, fun_mk (st := s_is_row) l6 c6 k6, PySem.W.mg_of X G a6⟩,
    d_is_word := ⟨f7, _, fun_mk (st := s_is_word) l7 c7 k7, PySem.W.mg_of X G a7⟩,
    d_input_count := ⟨f8, _, fun_mk (st := s_input_count) l8 c8 k8, PySem.W.mg_of X G a8⟩,
    d_is_block := ⟨f9, _, fun_mk (st := s_is_block) l9 c9 k9, PySem.W.mg_of X G a9⟩,
    d_shows_certificate := ⟨f10, _, fun_mk (st := s_shows_certificate) l10 c10 k10, PySem.W.mg_of X G a10⟩,
    d__law_take := ⟨f11, _, fun_mk (st := s__law_take) l11 c11 k11, PySem.W.mg_of X G a11⟩,
    d__law_papers := ⟨f12, _, fun_mk (st := s__law_papers) l12 c12 k12, PySem.W.mg_of X G a12⟩,
    d__law_turned := ⟨f13, _, fun_mk (st := s__law_turned) l13 c13 k13, PySem.W.mg_of X G a13⟩,
    d__law_endless := ⟨f14, _, fun_mk (st := s__law_endless) l14 c14 k14, PySem.W.mg_of X G a14⟩,
    d__law_mixed := ⟨f15, _, fun_mk (st := s__law_mixed) l15 c15 k15, PySem.W.mg_of X G a15⟩,
    d__law_many_rows_right := ⟨f16, _, fun_mk (st := s__law_many_rows_right) l16 c16 k16, PySem.W.mg_of X G a16⟩,
    d__law_pot := ⟨f17, _, fun_mk (st := s__law_pot) l17 c17 k17, PySem.W.mg_of X G a17⟩,
    d_law := ⟨f18, _, fun_mk (st := s_law) l18 c18 k18, PySem.W.mg_of X G a18⟩ }
end DL
open PySem PySem.W PyProof.Rows in
set_option maxRecDepth 100000 in
set_option maxHeartbeats 0 in
theorem PySem.Challenge.cw_leastahead_k56_certificates_by_hand_holds : PySem.Challenge.rw_leastahead_k56_certificates_by_hand.Holds := by
  w_on; o_law; k_head; (case hw => w_witness2)
  k_fill
  refine DL.law_walk (l := PySem.Challenge.rw_leastahead_k56_certificates_by_hand) (k := 6) (x := "_law_script") (g := fun _ => DL.g_law) rfl rfl ⟨rfl, by decide, by decide⟩ (fun w h Y => PySem.W.kIn_of Y) ?F fun w ns hn => DL.law_true ns hn
  case F =>
    intro w mg fa h KX G hmg
    suffices D : DL.All _ mg by
      obtain ⟨fd, hb, hF⟩ := DL.law_fn (P := PySem.Challenge.rw_leastahead_k56_certificates_by_hand.prog) (w := w) D hmg
      exact ⟨fd, hb, fun base _ _ => hF base⟩
    refine' DL.all_mk KX G ?a0 ?l0 ?c0 ?k0 ?a1 ?l1 ?c1 ?k1 ?a2 ?l2 ?c2 ?k2 ?a3 ?l3 ?c3 ?k3 ?a4 ?l4 ?c4 ?k4 ?a5 ?l5 ?c5 ?k5 ?a6 ?l6 ?c6 ?k6 ?a7 ?l7 ?c7 ?k7 ?a8 ?l8 ?c8 ?k8 ?a9 ?l9 ?c9 ?k9 ?a10 ?l10 ?c10 ?k10 ?a11 ?l11 ?c11 ?k11 ?a12 ?l12 ?c12 ?k12 ?a13 ?l13 ?c13 ?k13 ?a14 ?l14 ?c14 ?k14 ?a15 ?l15 ?c15 ?k15 ?a16 ?l16 ?c16 ?k16 ?a17 ?l17 ?c17 ?k17 ?a18 ?l18 ?c18 ?k18 ?z_abs ?z_all ?z_bool ?z_enumerate ?z_int ?z_isinstance ?z_len ?z_list ?z_range ?z_set ?z_sorted ?z_tuple ?q_BLOCK_PARTS ?q_CERTIFICATE_PARTS ?q_MOST_LETTERS ?q_ROW_PARTS ?q_START
    (case a0 => k_is)
    (case l0 => k_is)
    (case c0 => k_is)
    (case k0 => k_is)
    (case a1 => k_is)
    (case l1 => k_is)
    (case c1 => k_is)
    (case k1 => k_is)
    (case a2 => k_is)
    (case l2 => k_is)
    (case c2 => k_is)
    (case k2 => k_is)
    (case a3 => k_is)
    (case l3 => k_is)
    (case c3 => k_is)
    (case k3 => k_is)
    (case a4 => k_is)
    (case l4 => k_is)
    (case c4 => k_is)
    (case k4 => k_is)
    (case a5 => k_is)
    (case l5 => k_is)
    (case c5 => k_is)
    (case k5 => k_is)
    (case a6 => k_is)
    (case l6 => k_is)
    (case c6 => k_is)
    (case k6 => k_is)
    (case a7 => k_is)
    (case l7 => k_is)
    (case c7 => k_is)
    (case k7 => k_is)
    (case a8 => k_is)
    (case l8 => k_is)
    (case c8 => k_is)
    (case k8 => k_is)
    (case a9 => k_is)
    (case l9 => k_is)
    (case c9 => k_is)
    (case k9 => k_is)
    (case a10 => k_is)
    (case l10 => k_is)
    (case c10 => k_is)
    (case k10 => k_is)
    (case a11 => k_is)
    (case l11 => k_is)
    (case c11 => k_is)
    (case k11 => k_is)
    (case a12 => k_is)
    (case l12 => k_is)
    (case c12 => k_is)
    (case k12 => k_is)
    (case a13 => k_is)
    (case l13 => k_is)
    (case c13 => k_is)
    (case k13 => k_is)
    (case a14 => k_is)
    (case l14 => k_is)
    (case c14 => k_is)
    (case k14 => k_is)
    (case a15 => k_is)
    (case l15 => k_is)
    (case c15 => k_is)
    (case k15 => k_is)
    (case a16 => k_is)
    (case l16 => k_is)
    (case c16 => k_is)
    (case k16 => k_is)
    (case a17 => k_is)
    (case l17 => k_is)
    (case c17 => k_is)
    (case k17 => k_is)
    (case a18 => k_is)
    (case l18 => k_is)
    (case c18 => k_is)
    (case k18 => k_is)
    (case z_abs => k_is)
    (case z_all => k_is)
    (case z_bool => k_is)
    (case z_enumerate => k_is)
    (case z_int => k_is)
    (case z_isinstance => k_is)
    (case z_len => k_is)
    (case z_list => k_is)
    (case z_range => k_is)
    (case z_set => k_is)
    (case z_sorted => k_is)
    (case z_tuple => k_is)
    (case q_BLOCK_PARTS => k_is)
    (case q_CERTIFICATE_PARTS => k_is)
    (case q_MOST_LETTERS => k_is)
    (case q_ROW_PARTS => k_is)
    (case q_START => k_is)
#print axioms PySem.Challenge.cw_leastahead_k56_certificates_by_hand_holds

end
