import PyProof.Rows.All
import Wide.All
import OpenK.AllK
import Wide.FinOn
import HandS.ForMost
import HandS.ForExc
import HandS.Walk
import HandS.Defaults
import HandS.Conv
import HandS.TupAny
import HandS.TupLen
import HandS.Deep
import HandS.IsInst
import HandS.Style
import HandS.Strs
import HandS.SortInts
import HandS.More
import HandS.RaiseOp
import HandS.SetFor
import HandS.Text
import HandS.Codes
import PyProof.ReprRoads
import HandS.Iter
import HandS.Dict
import PyProof.StrOps2
import HandS.ExcOwn
import HandS.Ends
import HandS.Lambda
import HandS.TryMany
import PyProof.ExcBaseAll.ValueError
import HandS.Exc
import HandS.ExcIs
import KE.KeyNested
import HandS.SetKeys
import HandS.SortRule
import KE.KDictCopyH
import HandS.WideBits
import HandS.Finally
import HandS.ExcField
import KE.KExcIs
import HandS.TryOnly
import HandS.HeadHook1
import HandS.HeadHook2
import HandS.HeadHook3
import HandS.HeadHook4
import KE.KEqDict
import PyProof.DictFindH
import HandS.Zip
import KE.DataMinMax
import KE.KDictDisplayH
import HandS.ExcInit
import HandS.HeadNt
import KE.KDictOf
import HandS.HeadEnd
import HandS.Head0
import HandS.Head1
import HandS.Head2
import KE.KStateDown
import PySem.Challenge.RW_onehome_k04_whole_depths
set_option Elab.async false
set_option linter.all false
set_option maxRecDepth 100000
set_option maxHeartbeats 0
/-! P1: plain data D, what it means in a heap, slots, environments, readings with a mirror. -/
namespace PL
open PySem PySem.Spec L2

/-- a key of a dict of keys of several kinds: None, ints, tuples of ints -/
inductive AK where
  | non | int (i : Int) | tup (ks : List Int)
  deriving DecidableEq
def hashAK : AK → Int
  | .non => reduceHash 0xFCA86420
  | .int i => hashInt i
  | .tup ks => reduceHash (Builtin.Tuple.tupleHashOf (ks.map hashInt))
/-- plain data -/
inductive D where
  | non | bl (b : Bool) | int (i : Int) | str (x : Str)
  | lst (xs : List D) | tup (xs : List D)
  | dK (kvs : List (Key × D)) | dT (kvs : List (List Key × D))
  | ob (fs : List (Str × D))
  | dN (kvs : List (AK × D))
  | exc (c : Nat) (ps : D)
  | scr (ns : List Int)
/-- the written part, the class of houses, the classes of errors -/
structure Yx where
  K : PySem.W.Frag
  C : Addr
  cx : Nat → Addr
def cap : Nat := 16777216
theorem cap_eq : cap = sizeLine := by rw [sizeLine_eq]; rfl
/-- an exception's object, of the class cls, its own dict at d -/
def ExT (cls : Value) (d : Option Addr) (a : Addr) : HO := .ext fun h => ∃ (oe : Obj) (vs : Array Value), h.get? a = some oe ∧ Zc cls d oe ∧ oe.data = .fields vs
/-- a dict by its raw entries -/
def ExtD (a : Addr) (es : List DictEntry) : HO := .ext fun h => (a == sysModules) = false ∧ es.length ≤ sizeLine ∧ ∃ (o : Obj) (ar : Array DictEntry) (ep : Nat), h.get? a = some o ∧ o.ExactDict ∧ o.data = .dict ar ep ∧ ar.toList = es
/-- the entry's key is k -/
def AKe (G : Hp) (k : AK) (e : DictEntry) : Prop := e.hash = hashAK k ∧ match k with
  | .non => e.key = .none
  | .int i => ∃ t, e.key = .int i t
  | .tup ks => ∃ b, e.key = .ref b ∧ G b = some (.tup (ks.map V.int))
theorem AKe.mono {G G' : Hp} {k : AK} {e : DictEntry} (h : ∀ a xs, G a = some (.tup xs) → G' a = some (.tup xs)) (r : AKe G k e) : AKe G' k e := by
  obtain ⟨r1, r2⟩ := r
  refine ⟨r1, ?_⟩
  cases k with
  | non => exact r2
  | int i => exact r2
  | tup ks => obtain ⟨b, e1, e2⟩ := r2; exact ⟨b, e1, h _ _ e2⟩
mutual
def At (Y : Yx) (G : Hp) : V → D → Prop
  | v, .non => v = .non
  | v, .bl b => v = .bl b
  | v, .int i => v = .int i
  | v, .str x => v = .str x
  | v, .lst ds => ∃ a vs, v = .ref a ∧ G a = some (.lst vs) ∧ vs.length ≤ cap ∧ AtL Y G vs ds
  | v, .scr ns => ∃ a, v = .ref a ∧ SqL Y.K G a (ns.map V.int)
  | v, .tup ds => ∃ a vs, v = .ref a ∧ G a = some (.tup vs) ∧ vs.length ≤ cap ∧ AtL Y G vs ds
  | v, .dK kvs => ∃ a xs, v = .ref a ∧ Rd G a (.dK xs) ∧ AtK Y G xs kvs
  | v, .dT kvs => ∃ a xs, v = .ref a ∧ Rd G a (.dT xs) ∧ AtT Y G xs kvs
  | v, .ob fs => ∃ a dx xs, v = .ref a ∧ G a = some (.ins Y.C dx xs) ∧ AtF Y G xs fs
  | v, .dN kvs => ∃ a es, v = .ref a ∧ Rd G a (ExtD a es) ∧ (kvs.map (·.1)).Nodup ∧ AtN Y G es kvs
  | v, .exc c ps => ∃ a dd, v = .ref a ∧ Rd G a (ExT (.ref (Y.cx c)) dd a) ∧ ((dd = none ∧ ∃ x, x = V.non ∧ At Y G x ps) ∨ ∃ e l, dd = some e ∧ Rd G e (.xd [("pairs", l)]) ∧ At Y G l ps)
def AtL (Y : Yx) (G : Hp) : List V → List D → Prop
  | vs, [] => vs = []
  | vs, d :: ds => ∃ v r, vs = v :: r ∧ At Y G v d ∧ AtL Y G r ds
def AtK (Y : Yx) (G : Hp) : List (Key × V) → List (Key × D) → Prop
  | xs, [] => xs = []
  | xs, (k, d) :: r => ∃ v q, xs = (k, v) :: q ∧ At Y G v d ∧ AtK Y G q r
def AtT (Y : Yx) (G : Hp) : List (List Key × V) → List (List Key × D) → Prop
  | xs, [] => xs = []
  | xs, (k, d) :: r => ∃ v q, xs = (k, v) :: q ∧ At Y G v d ∧ AtT Y G q r
def AtF (Y : Yx) (G : Hp) : List (Str × V) → List (Str × D) → Prop
  | xs, [] => xs = []
  | xs, (k, d) :: r => ∃ v q, xs = (k, v) :: q ∧ At Y G v d ∧ AtF Y G q r
def AtN (Y : Yx) (G : Hp) : List DictEntry → List (AK × D) → Prop
  | es, [] => es = []
  | es, (k, d) :: r => ∃ v e q, es = e :: q ∧ AKe G k e ∧ RelV v e.val ∧ At Y G v d ∧ AtN Y G q r
end

/-! ### growing heaps -/
/-- what may be read stays -/
structure RLe (G G' : Hp) : Prop where
  rd : ∀ {b u}, (∀ o x, u ≠ .frz o x) → Rd G b u → Rd G' b u
  lst : ∀ {b xs}, G b = some (.lst xs) → G' b = some (.lst xs)
  tup : ∀ {b xs}, G b = some (.tup xs) → G' b = some (.tup xs)
  ins : ∀ {b C dx xs}, G b = some (.ins C dx xs) → G' b = some (.ins C dx xs)
theorem RLe.of_same {G G' : Hp} (h : Same G G') : RLe G G' :=
  ⟨fun {b u} _ r => r.elim (fun e => .inl (h b _ e)) (fun ⟨o, e⟩ => .inr ⟨o, h b _ e⟩), fun {b xs} e => h b _ e, fun {b xs} e => h b _ e, fun {b C dx xs} e => h b _ e⟩
theorem RLe.seqL {K : PySem.W.Frag} {G G' : Hp} (h : RLe G G') {a : Addr} {xs : List V} (q : SqL K G a xs) : SqL K G' a xs :=
  q.elim (fun r => .inl (h.rd (fun _ _ e => nomatch e) r)) .inr
theorem RLe.seqT {K : PySem.W.Frag} {G G' : Hp} (h : RLe G G') {a : Addr} {xs : List V} (q : SqT K G a xs) : SqT K G' a xs :=
  q.elim (fun r => .inl (h.rd (fun _ _ e => nomatch e) r)) .inr
mutual
theorem At.rle {Y : Yx} {G G' : Hp} (h : RLe G G') : ∀ {v : V} {d : D}, At Y G v d → At Y G' v d
  | v, .non, q => q
  | v, .bl b, q => q
  | v, .int i, q => q
  | v, .str x, q => q
  | v, .lst ds, ⟨a, vs, e, s, z, q⟩ => ⟨a, vs, e, h.lst s, z, AtL.rle h q⟩
  | v, .scr ns, ⟨a, e, s⟩ => ⟨a, e, h.seqL s⟩
  | v, .tup ds, ⟨a, vs, e, s, z, q⟩ => ⟨a, vs, e, h.tup s, z, AtL.rle h q⟩
  | v, .dK kvs, ⟨a, xs, e, s, q⟩ => ⟨a, xs, e, h.rd (fun _ _ e => nomatch e) s, AtK.rle h q⟩
  | v, .dT kvs, ⟨a, xs, e, s, q⟩ => ⟨a, xs, e, h.rd (fun _ _ e => nomatch e) s, AtT.rle h q⟩
  | v, .ob fs, ⟨a, dx, xs, e, s, q⟩ => ⟨a, dx, xs, e, h.ins s, AtF.rle h q⟩
  | v, .dN kvs, ⟨a, es, e, s, nd, q⟩ => ⟨a, es, e, h.rd (fun _ _ e => by unfold ExtD at e; exact nomatch e) s, nd, AtN.rle h q⟩
  | v, .exc c ps, ⟨a, dd, e, s, q⟩ => ⟨a, dd, e, h.rd (fun _ _ e => by unfold ExT at e; exact nomatch e) s, q.elim (fun ⟨e1, x, e2, q2⟩ => .inl ⟨e1, x, e2, At.rle h q2⟩) (fun ⟨e1, l, e2, r, q2⟩ => .inr ⟨e1, l, e2, h.rd (fun _ _ e => nomatch e) r, At.rle h q2⟩)⟩
theorem AtL.rle {Y : Yx} {G G' : Hp} (h : RLe G G') : ∀ {vs : List V} {ds : List D}, AtL Y G vs ds → AtL Y G' vs ds
  | _, [], q => q
  | _, d :: ds, ⟨v, r, e, q, t⟩ => ⟨v, r, e, At.rle h q, AtL.rle h t⟩
theorem AtK.rle {Y : Yx} {G G' : Hp} (h : RLe G G') : ∀ {vs : List (Key × V)} {ds : List (Key × D)}, AtK Y G vs ds → AtK Y G' vs ds
  | _, [], q => q
  | _, (k, d) :: ds, ⟨v, r, e, q, t⟩ => ⟨v, r, e, At.rle h q, AtK.rle h t⟩
theorem AtT.rle {Y : Yx} {G G' : Hp} (h : RLe G G') : ∀ {vs : List (List Key × V)} {ds : List (List Key × D)}, AtT Y G vs ds → AtT Y G' vs ds
  | _, [], q => q
  | _, (k, d) :: ds, ⟨v, r, e, q, t⟩ => ⟨v, r, e, At.rle h q, AtT.rle h t⟩
theorem AtF.rle {Y : Yx} {G G' : Hp} (h : RLe G G') : ∀ {vs : List (Str × V)} {ds : List (Str × D)}, AtF Y G vs ds → AtF Y G' vs ds
  | _, [], q => q
  | _, (k, d) :: ds, ⟨v, r, e, q, t⟩ => ⟨v, r, e, At.rle h q, AtF.rle h t⟩
theorem AtN.rle {Y : Yx} {G G' : Hp} (h : RLe G G') : ∀ {vs : List DictEntry} {ds : List (AK × D)}, AtN Y G vs ds → AtN Y G' vs ds
  | _, [], q => q
  | _, (k, d) :: ds, ⟨v, x, r, e, ke, rv, q, t⟩ => ⟨v, x, r, e, ke.mono fun _ _ z => h.tup z, rv, At.rle h q, AtN.rle h t⟩
end
theorem At.same {Y : Yx} {G G' : Hp} (h : Same G G') {v : V} {d : D} (q : At Y G v d) : At Y G' v d := q.rle (RLe.of_same h)
theorem AtL.same {Y : Yx} {G G' : Hp} (h : Same G G') {v : List V} {d : List D} (q : AtL Y G v d) : AtL Y G' v d := q.rle (RLe.of_same h)
theorem AtK.same {Y : Yx} {G G' : Hp} (h : Same G G') {v : List (Key × V)} {d : List (Key × D)} (q : AtK Y G v d) : AtK Y G' v d := q.rle (RLe.of_same h)
theorem AtF.same {Y : Yx} {G G' : Hp} (h : Same G G') {v : List (Str × V)} {d : List (Str × D)} (q : AtF Y G v d) : AtF Y G' v d := q.rle (RLe.of_same h)
theorem AtN.same {Y : Yx} {G G' : Hp} (h : Same G G') {v : List DictEntry} {d : List (AK × D)} (q : AtN Y G v d) : AtN Y G' v d := q.rle (RLe.of_same h)
theorem AtT.same {Y : Yx} {G G' : Hp} (h : Same G G') {v : List (List Key × V)} {d : List (List Key × D)} (q : AtT Y G v d) : AtT Y G' v d := q.rle (RLe.of_same h)

/-! ### lists of data -/
section
variable {Y : Yx} {G : Hp}
theorem AtL.length : ∀ {vs : List V} {ds : List D}, AtL Y G vs ds → vs.length = ds.length
  | _, [], q => by cases (show _ = [] from q); rfl
  | _, d :: ds, ⟨v, r, e, q, t⟩ => by cases e; simp [AtL.length t]
theorem AtL.get : ∀ {vs : List V} {ds : List D} {i : Nat} {d : D}, AtL Y G vs ds → ds[i]? = some d → ∃ v, vs[i]? = some v ∧ At Y G v d
  | _, [], _, _, q, e => by simp at e
  | _, d :: ds, 0, d', ⟨v, r, e, q, t⟩, h => by cases e; simp at h; subst h; exact ⟨v, rfl, q⟩
  | _, d :: ds, i + 1, d', ⟨v, r, e, q, t⟩, h => by cases e; simp at h; obtain ⟨w, h1, h2⟩ := AtL.get t h; exact ⟨w, by simpa using h1, h2⟩
theorem AtL.getV : ∀ {vs : List V} {ds : List D} {i : Nat} {v : V}, AtL Y G vs ds → vs[i]? = some v → ∃ d, ds[i]? = some d ∧ At Y G v d := fun {vs ds i v} q e => by
  have hl : i < ds.length := by rw [← q.length]; exact (List.getElem?_eq_some_iff.mp e).1
  obtain ⟨w, h1, h2⟩ := q.get (List.getElem?_eq_getElem hl)
  rw [e] at h1; cases h1
  exact ⟨_, List.getElem?_eq_getElem hl, h2⟩
theorem AtL.append : ∀ {vs ws : List V} {ds es : List D}, AtL Y G vs ds → AtL Y G ws es → AtL Y G (vs ++ ws) (ds ++ es)
  | _, _, [], _, q, t => by cases (show _ = [] from q); exact t
  | _, _, d :: ds, _, ⟨v, r, e, q, u⟩, t => by cases e; exact ⟨v, _, rfl, q, AtL.append u t⟩
theorem AtL.snoc {vs : List V} {ds : List D} {v : V} {d : D} (q : AtL Y G vs ds) (h : At Y G v d) : AtL Y G (vs ++ [v]) (ds ++ [d]) := q.append ⟨v, [], rfl, h, rfl⟩
theorem AtL.set : ∀ {vs : List V} {ds : List D} {i : Nat} {v : V} {d : D}, AtL Y G vs ds → At Y G v d → AtL Y G (vs.set i v) (ds.set i d)
  | _, [], _, _, _, q, _ => by cases (show _ = [] from q); rfl
  | _, d :: ds, 0, w, d', ⟨v, r, e, q, t⟩, h => by cases e; exact ⟨w, r, rfl, h, t⟩
  | _, d :: ds, i + 1, w, d', ⟨v, r, e, q, t⟩, h => by cases e; exact ⟨v, _, rfl, q, AtL.set t h⟩
theorem AtL.drop : ∀ {vs : List V} {ds : List D} (n : Nat), AtL Y G vs ds → AtL Y G (vs.drop n) (ds.drop n)
  | _, _, 0, q => q
  | _, [], n + 1, q => by cases (show _ = [] from q); rfl
  | _, d :: ds, n + 1, ⟨v, r, e, q, t⟩ => by cases e; exact AtL.drop n t
theorem AtL.take : ∀ {vs : List V} {ds : List D} (n : Nat), AtL Y G vs ds → AtL Y G (vs.take n) (ds.take n)
  | _, _, 0, q => by simp only [List.take_zero]; rfl
  | _, [], n + 1, q => by cases (show _ = [] from q); rfl
  | _, d :: ds, n + 1, ⟨v, r, e, q, t⟩ => by cases e; exact ⟨v, _, rfl, q, AtL.take n t⟩
theorem AtL.reverse : ∀ {vs : List V} {ds : List D}, AtL Y G vs ds → AtL Y G vs.reverse ds.reverse
  | _, [], q => by cases (show _ = [] from q); rfl
  | _, d :: ds, ⟨v, r, e, q, t⟩ => by cases e; rw [List.reverse_cons, List.reverse_cons]; exact (AtL.reverse t).snoc q
theorem AtL.nil : AtL Y G [] [] := rfl
theorem AtL.one {v : V} {d : D} (h : At Y G v d) : AtL Y G [v] [d] := ⟨v, [], rfl, h, rfl⟩
theorem AtL.two {v w : V} {d e : D} (h : At Y G v d) (h2 : At Y G w e) : AtL Y G [v, w] [d, e] := ⟨v, [w], rfl, h, .one h2⟩
theorem AtK.length : ∀ {vs : List (Key × V)} {ds : List (Key × D)}, AtK Y G vs ds → vs.length = ds.length
  | _, [], q => by cases (show _ = [] from q); rfl
  | _, (k, d) :: ds, ⟨v, r, e, q, t⟩ => by cases e; simp [AtK.length t]
theorem AtT.length : ∀ {vs : List (List Key × V)} {ds : List (List Key × D)}, AtT Y G vs ds → vs.length = ds.length
  | _, [], q => by cases (show _ = [] from q); rfl
  | _, (k, d) :: ds, ⟨v, r, e, q, t⟩ => by cases e; simp [AtT.length t]
end

/-! ### hidden addresses -/
open Classical in
noncomputable def hd (h : Addr → Prop) (H : Hp) : Hp := fun b => if h b then none else H b
theorem hd_not {h : Addr → Prop} {H : Hp} {b : Addr} (n : ¬ h b) : hd h H b = H b := by unfold hd; rw [if_neg n]
theorem hd_some {h : Addr → Prop} {H : Hp} {b : Addr} {o : HO} (e : hd h H b = some o) : ¬ h b ∧ H b = some o := by
  unfold hd at e
  split at e
  · cases e
  · exact ⟨by assumption, e⟩
theorem hd_same {h : Addr → Prop} {H H' : Hp} (s : Same H H') : Same (hd h H) (hd h H') := fun b o e => by
  obtain ⟨n, e⟩ := hd_some e
  rw [hd_not n]; exact s b o e
theorem hd_sub {h h' : Addr → Prop} {H : Hp} (s : ∀ a, h' a → h a) : Same (hd h H) (hd h' H) := fun b o e => by
  obtain ⟨n, e⟩ := hd_some e
  rw [hd_not (fun q => n (s b q))]; exact e
theorem hd_le {h : Addr → Prop} {H : Hp} : Same (hd h H) H := fun b o e => (hd_some e).2
/-- a hidden address is written -/
theorem hd_upd {h : Addr → Prop} {H : Hp} {a : Addr} {o : HO} (ha : h a) : hd h (upd H a o) = hd h H := by
  funext b
  unfold hd
  by_cases e : h b
  · rw [if_pos e, if_pos e]
  · rw [if_neg e, if_neg e, upd_ne (fun q => e (by rw [q]; exact ha))]
/-- a new object -/
theorem same_new {H : Hp} {p : Addr} {o : HO} (n : H p = none) : Same H (upd H p o) := fun b u e => by rw [upd_ne (ne_of_none e n)]; exact e
theorem hd_new {h : Addr → Prop} {H : Hp} {p : Addr} {o : HO} (hal : ∀ a, h a → H a ≠ none) (n : H p = none) : hd h (upd H p o) p = some o := by
  rw [hd_not (fun q => hal p q n), upd_same]
def hid (fo : Addr → Prop) (at_ : Nat → Option Addr) : Addr → Prop := fun a => fo a ∨ ∃ i, at_ i = some a
/-- hidden addresses are taken -/
structure Al (h : Addr → Prop) (H : Hp) : Prop where
  tk : ∀ a, h a → H a ≠ none
  nt : ∀ a xs, h a → H a ≠ some (.tup xs)
instance {h : Addr → Prop} {H : Hp} : CoeFun (Al h H) (fun _ => ∀ a, h a → H a ≠ none) := ⟨Al.tk⟩
theorem Al.same {h : Addr → Prop} {H H' : Hp} (a : Al h H) (s : Same H H') : Al h H' := ⟨fun b q => by
  cases e : H b with
  | none => exact absurd e (a b q)
  | some o => rw [s b o e]; exact (fun z => nomatch z), fun b xs q z => by
  cases e : H b with
  | none => exact absurd e (a b q)
  | some o => rw [s b o e] at z; cases z; exact a.nt b xs q e⟩
theorem Al.sub {h h' : Addr → Prop} {H : Hp} (a : Al h H) (s : ∀ b, h' b → h b) : Al h' H := ⟨fun b q => a b (s b q), fun b xs q => a.nt b xs (s b q)⟩
theorem Al.no {H : Hp} : Al (fun _ => False) H := ⟨fun _ z => z.elim, fun _ _ z => z.elim⟩

/-! ### slots, environments -/
inductive Sl where
  | no | dat (d : D) | ol (xs : List D) | oK (kvs : List (Key × D)) | oT (kvs : List (List Key × D)) | oI (a : Addr) (fs : List (Str × D))
  /-- a dict of lists, all owned -/
  | oA (es : List (AK × List D))
  /-- a list of dicts, all owned -/
  | oD (xs : List (List (List Key × D)))
  /-- an exception that carries a list, owned -/
  | oE (c : Nat) (xs : List D)
def noG : Addr → Prop := fun _ => False
/-- the entries of a dict of owned lists; gs: what is owned besides -/
def OAs (Y : Yx) (gs : Addr → Prop) (G H : Hp) : List DictEntry → List (AK × List D) → Prop
  | es, [] => es = []
  | es, (k, ds) :: r => ∃ e q l vs, es = e :: q ∧ AKe G k e ∧ e.val = .ref l ∧ gs l ∧ H l = some (.lst vs) ∧ vs.length ≤ cap ∧ AtL Y G vs ds ∧ (∀ e' ∈ q, e'.val ≠ .ref l) ∧ OAs Y gs G H q r
def ODs (Y : Yx) (gs : Addr → Prop) (G H : Hp) : List V → List (List (List Key × D)) → Prop
  | vs, [] => vs = []
  | vs, kvs :: r => ∃ l q xs, vs = .ref l :: q ∧ gs l ∧ H l = some (.dT xs) ∧ AtT Y G xs kvs ∧ V.ref l ∉ q ∧ ODs Y gs G H q r
def SlR (Y : Yx) (gs : Addr → Prop) (G H : Hp) (v : Option V) : Sl → Option Addr → Prop
  | .no, o => o = none
  | .dat d, o => o = none ∧ ∃ x, v = some x ∧ At Y G x d
  | .ol xs, o => ∃ a vs, o = some a ∧ v = some (.ref a) ∧ H a = some (.lst vs) ∧ vs.length ≤ cap ∧ AtL Y G vs xs
  | .oK kvs, o => ∃ a vs, o = some a ∧ v = some (.ref a) ∧ H a = some (.dK vs) ∧ AtK Y G vs kvs
  | .oT kvs, o => ∃ a vs, o = some a ∧ v = some (.ref a) ∧ H a = some (.dT vs) ∧ AtT Y G vs kvs
  | .oI a fs, o => ∃ dx vs, o = some a ∧ v = some (.ref a) ∧ H a = some (.ins Y.C dx vs) ∧ AtF Y G vs fs
  | .oA es, o => ∃ a vs, o = some a ∧ v = some (.ref a) ∧ H a = some (ExtD a vs) ∧ (es.map (·.1)).Nodup ∧ OAs Y gs G H vs es
  | .oD xs, o => ∃ a vs, o = some a ∧ v = some (.ref a) ∧ H a = some (.lst vs) ∧ vs.length ≤ cap ∧ ODs Y gs G H vs xs
  | .oE c xs, o => ∃ a e l vs, o = some l ∧ v = some (.ref a) ∧ G a = some (ExT (.ref (Y.cx c)) (some e) a) ∧ G e = some (.xd [("pairs", .ref l)]) ∧ H l = some (.lst vs) ∧ vs.length ≤ cap ∧ AtL Y G vs xs
theorem OAs.mono {Y : Yx} {gs gs' : Addr → Prop} {G G' H H' : Hp} (hG : RLe G G') (hg : ∀ l, gs l → gs' l) (hN : ∀ l u, gs l → H l = some u → H' l = some u) : ∀ {vs : List DictEntry} {es : List (AK × List D)}, OAs Y gs G H vs es → OAs Y gs' G' H' vs es
  | _, [], r => r
  | _, (k, ds) :: _, ⟨e, q, l, vs, e1, ke, ev, g, hl, z, al, nd, t⟩ => ⟨e, q, l, vs, e1, ke.mono fun _ _ z => hG.tup z, ev, hg _ g, hN _ _ g hl, z, al.rle hG, nd, OAs.mono hG hg hN t⟩
theorem ODs.mono {Y : Yx} {gs gs' : Addr → Prop} {G G' H H' : Hp} (hG : RLe G G') (hg : ∀ l, gs l → gs' l) (hN : ∀ l u, gs l → H l = some u → H' l = some u) : ∀ {vs : List V} {es : List (List (List Key × D))}, ODs Y gs G H vs es → ODs Y gs' G' H' vs es
  | _, [], r => r
  | _, _ :: _, ⟨l, q, xs, e1, g, hl, al, nd, t⟩ => ⟨l, q, xs, e1, hg _ g, hN _ _ g hl, al.rle hG, nd, ODs.mono hG hg hN t⟩
theorem SlR.rle {Y : Yx} {gs gs' : Addr → Prop} {G G' H H' : Hp} {v : Option V} {s : Sl} {o : Option Addr} (hG : RLe G G') (hX : ∀ a u, (∀ ob x, u ≠ .frz ob x) → (∀ xs, u ≠ .dK xs) → (∀ xs, u ≠ .dT xs) → G a = some u → G' a = some u) (hH : ∀ a u, o = some a → H a = some u → H' a = some u) (hg : ∀ l, gs l → gs' l) (hN : ∀ l u, gs l → H l = some u → H' l = some u) (r : SlR Y gs G H v s o) : SlR Y gs' G' H' v s o := by
  cases s with
  | no => exact r
  | dat d => obtain ⟨e, x, e2, q⟩ := r; exact ⟨e, x, e2, q.rle hG⟩
  | ol xs => obtain ⟨a, vs, e, e2, e3, z, q⟩ := r; exact ⟨a, vs, e, e2, hH a _ e e3, z, q.rle hG⟩
  | oK xs => obtain ⟨a, vs, e, e2, e3, q⟩ := r; exact ⟨a, vs, e, e2, hH a _ e e3, q.rle hG⟩
  | oT xs => obtain ⟨a, vs, e, e2, e3, q⟩ := r; exact ⟨a, vs, e, e2, hH a _ e e3, q.rle hG⟩
  | oI a xs => obtain ⟨dx, vs, e, e2, e3, q⟩ := r; exact ⟨dx, vs, e, e2, hH a _ e e3, q.rle hG⟩
  | oA es => obtain ⟨a, vs, e, e2, e3, nd, q⟩ := r; exact ⟨a, vs, e, e2, hH a _ e e3, nd, q.mono hG hg hN⟩
  | oD es => obtain ⟨a, vs, e, e2, e3, z, q⟩ := r; exact ⟨a, vs, e, e2, hH a _ e e3, z, q.mono hG hg hN⟩
  | oE c xs => obtain ⟨a, e, l, vs, e1, e2, e3, e4, e5, z, q⟩ := r; exact ⟨a, e, l, vs, e1, e2, hX _ _ (fun _ _ z => by unfold ExT at z; cases z) (fun _ z => by unfold ExT at z; cases z) (fun _ z => by unfold ExT at z; cases z) e3, hX _ _ (fun _ _ z => nomatch z) (fun _ z => nomatch z) (fun _ z => nomatch z) e4, hH _ _ e1 e5, z, q.rle hG⟩
theorem SlR.mono {Y : Yx} {gs gs' : Addr → Prop} {G G' H H' : Hp} {v : Option V} {s : Sl} {o : Option Addr} (hG : Same G G') (hH : ∀ a u, o = some a → H a = some u → H' a = some u) (hg : ∀ l, gs l → gs' l) (hN : ∀ l u, gs l → H l = some u → H' l = some u) (r : SlR Y gs G H v s o) : SlR Y gs' G' H' v s o :=
  r.rle (RLe.of_same hG) (fun a u _ _ _ e => hG a u e) hH hg hN
theorem SlR.taken {Y : Yx} {gs : Addr → Prop} {G H : Hp} {v : Option V} {s : Sl} {a : Addr} (r : SlR Y gs G H v s (some a)) : ∃ o, H a = some o ∧ ∀ xs, o ≠ .tup xs := by
  cases s with
  | no => cases r
  | dat d => cases r.1
  | ol xs => obtain ⟨b, vs, e, e2, e3, z, q⟩ := r; cases e; exact ⟨_, e3, fun _ z => nomatch z⟩
  | oK xs => obtain ⟨b, vs, e, e2, e3, q⟩ := r; cases e; exact ⟨_, e3, fun _ z => nomatch z⟩
  | oT xs => obtain ⟨b, vs, e, e2, e3, q⟩ := r; cases e; exact ⟨_, e3, fun _ z => nomatch z⟩
  | oI b xs => obtain ⟨dx, vs, e, e2, e3, q⟩ := r; cases e; exact ⟨_, e3, fun _ z => nomatch z⟩
  | oA es => obtain ⟨b, vs, e, e2, e3, nd, q⟩ := r; cases e; exact ⟨_, e3, fun _ z => by unfold ExtD at z; cases z⟩
  | oD es => obtain ⟨b, vs, e, e2, e3, z, q⟩ := r; cases e; exact ⟨_, e3, fun _ z => nomatch z⟩
  | oE c xs => obtain ⟨b, e, l, vs, e1, e2, e3, e4, e5, z, q⟩ := r; cases e1; exact ⟨_, e5, fun _ z => nomatch z⟩
/-- what is owned, given out of hand -/
@[simp] def fz : Sl → D
  | .no => .non
  | .dat d => d
  | .ol xs => .lst xs
  | .oK kvs => .dK kvs
  | .oT kvs => .dT kvs
  | .oI _ fs => .ob fs
  | .oA es => .dN (es.map fun p => (p.1, .lst p.2))
  | .oD xs => .lst (xs.map .dT)
  | .oE c xs => .exc c (.lst xs)
/-- what slot i of n owns besides -/
def gsl (at_ : Nat → Option Addr) (n i : Nat) : Addr → Prop := fun l => ∃ m, at_ (i + (m + 1) * n) = some l
structure EnvO (Y : Yx) (fo : Addr → Prop) (at_ : Nat → Option Addr) (B : Hp) (σ : St) (H : Hp) (ρ : List Sl) : Prop where
  same : Same B H
  fin : Al fo H
  dj : ∀ i j a, at_ i = some a → at_ j = some a → i = j
  df : ∀ i a, at_ i = some a → ¬ fo a
  nw : ∀ i a, at_ i = some a → B a = none
  len : σ.length = ρ.length
  gt : ∀ i a, at_ i = some a → ρ.length ≤ i → ∃ o, H a = some o ∧ ∀ xs, o ≠ .tup xs
  sl : ∀ i s, ρ[i]? = some s → SlR Y (gsl at_ ρ.length i) (hd (hid fo at_) H) H ((σ[i]?).join) s (at_ i)
section
variable {Y : Yx} {fo : Addr → Prop} {at_ : Nat → Option Addr} {B : Hp} {σ : St} {H : Hp} {ρ : List Sl}
theorem EnvO.ownd (E : EnvO Y fo at_ B σ H ρ) (i : Nat) (a : Addr) (q : at_ i = some a) : ∃ o, H a = some o ∧ ∀ xs, o ≠ .tup xs := by
  by_cases hi : i < ρ.length
  · have r := E.sl i (ρ[i]'hi) (List.getElem?_eq_getElem _)
    rw [q] at r
    exact r.taken
  · exact E.gt i a q (Nat.le_of_not_lt hi)
theorem EnvO.al (E : EnvO Y fo at_ B σ H ρ) : Al (hid fo at_) H := ⟨fun a q => by
  rcases q with q | ⟨i, q⟩
  · exact E.fin a q
  · obtain ⟨o, e, _⟩ := E.ownd i a q
    rw [e]; exact (fun z => nomatch z), fun a xs q => by
  rcases q with q | ⟨i, q⟩
  · exact E.fin.nt a xs q
  · obtain ⟨o, e, n⟩ := E.ownd i a q
    rw [e]; exact fun z => n xs (by cases z; rfl)⟩
theorem EnvO.ext (E : EnvO Y fo at_ B σ H ρ) {H' : Hp} (s : Same H H') : EnvO Y fo at_ B σ H' ρ :=
  ⟨E.same.trans s, E.fin.same s, E.dj, E.df, E.nw, E.len, fun i a q h => let ⟨o, e, n⟩ := E.gt i a q h; ⟨o, s _ _ e, n⟩, fun i x e => (E.sl i x e).mono (hd_same s) (fun a u _ q => s a u q) (fun _ z => z) fun a u _ q => s a u q⟩
theorem EnvO.dat (E : EnvO Y fo at_ B σ H ρ) {i : Nat} {d : D} (e : ρ[i]? = some (.dat d)) : ∃ x, σ[i]? = some (some x) ∧ At Y (hd (hid fo at_) H) x d := by
  obtain ⟨_, x, h, q⟩ := E.sl i _ e
  refine ⟨x, ?_, q⟩
  cases h2 : σ[i]? with
  | none => rw [h2] at h; cases h
  | some z => rw [h2] at h; cases z with
    | none => cases h
    | some w => cases h; rfl
end
theorem join_some {σ : St} {i : Nat} {x : V} (h : (σ[i]?).join = some x) : σ[i]? = some (some x) := by
  cases h2 : σ[i]? with
  | none => rw [h2] at h; cases h
  | some z => rw [h2] at h; cases z with
    | none => cases h
    | some w => cases h; rfl
/-- the address of slot i is another one -/
def seta (at_ : Nat → Option Addr) (i : Nat) (oa : Option Addr) : Nat → Option Addr := fun j => if j = i then oa else at_ j
theorem seta_same {at_ : Nat → Option Addr} {i : Nat} {oa : Option Addr} : seta at_ i oa i = oa := if_pos rfl
theorem seta_ne {at_ : Nat → Option Addr} {i j : Nat} {oa : Option Addr} (h : j ≠ i) : seta at_ i oa j = at_ j := if_neg h
/-- a slot is given a new content; oa: its own address, if it is owned (a new one) -/
theorem EnvO.put {Y : Yx} {fo : Addr → Prop} {at_ : Nat → Option Addr} {B : Hp} {σ : St} {H H' : Hp} {ρ : List Sl} (E : EnvO Y fo at_ B σ H ρ) (hs : Same H H') {i : Nat} {v : Option V} {s : Sl} {oa : Option Addr} (hi : i < ρ.length)
    (hoa : ∀ a, oa = some a → H a = none) (r : SlR Y noG (hd (hid fo (seta at_ i oa)) H') H' v s oa) : EnvO Y fo (seta at_ i oa) B (σ.set i v) H' (ρ.set i s) := by
  have n1 : ∀ a, oa = some a → ¬ fo a := fun a e q => E.fin a q (hoa a e)
  have n2 : ∀ a j, oa = some a → at_ j ≠ some a := fun a j e q => E.al a (.inr ⟨j, q⟩) (hoa a e)
  refine ⟨E.same.trans hs, E.fin.same hs, fun j k a h1 h2 => ?_, fun j a h => ?_, fun j a h => ?_, by simp [E.len], fun j a h => ?_, fun j x e => ?_⟩
  · by_cases hj : j = i
    · by_cases hk : k = i
      · rw [hj, hk]
      · rw [hj, seta_same] at h1; rw [seta_ne hk] at h2; exact absurd h2 (n2 a k h1)
    · by_cases hk : k = i
      · rw [seta_ne hj] at h1; rw [hk, seta_same] at h2; exact absurd h1 (n2 a j h2)
      · rw [seta_ne hj] at h1; rw [seta_ne hk] at h2; exact E.dj j k a h1 h2
  · by_cases hj : j = i
    · rw [hj, seta_same] at h; exact n1 a h
    · rw [seta_ne hj] at h; exact E.df j a h
  · by_cases hj : j = i
    · rw [hj, seta_same] at h; exact E.same.free (hoa a h)
    · rw [seta_ne hj] at h; exact E.nw j a h
  · intro hl
    rw [List.length_set] at hl
    rw [seta_ne (by omega)] at h
    obtain ⟨o, e, n⟩ := E.gt j a h hl
    exact ⟨o, hs _ _ e, n⟩
  · by_cases hj : j = i
    · subst hj
      rw [List.getElem?_set_self hi] at e
      cases e
      rw [List.getElem?_set_self (by rw [E.len]; exact hi), seta_same]
      exact r.mono (Same.refl _) (fun _ _ _ z => z) (fun _ z => z.elim) fun _ _ z => z.elim
    · rw [List.getElem?_set_ne (Ne.symm hj)] at e ⊢
      rw [seta_ne hj]
      refine (E.sl j x e).mono (fun b u z => ?_) (fun a u _ z => hs a u z) (fun l ⟨m, z⟩ => ⟨m, ?_⟩) (fun a u _ z => hs a u z)
      rotate_left
      · rw [List.length_set]
        rw [seta_ne (fun z => ?_)]; exact z
        have h1 : ρ.length ≤ (m + 1) * ρ.length := Nat.le_mul_of_pos_left _ (Nat.succ_pos m)
        omega
      obtain ⟨n, z⟩ := hd_some z
      refine (hd_not ?_).trans (hs b u z)
      rintro (m | ⟨k, m⟩)
      · exact n (.inl m)
      · by_cases hk : k = i
        · rw [hk, seta_same] at m
          rw [hoa b m] at z; cases z
        · rw [seta_ne hk] at m; exact n (.inr ⟨k, m⟩)
theorem EnvO.putD {Y : Yx} {fo : Addr → Prop} {at_ : Nat → Option Addr} {B : Hp} {σ : St} {H H' : Hp} {ρ : List Sl} (E : EnvO Y fo at_ B σ H ρ) (hs : Same H H') {i : Nat} {v : V} {d : D} (hi : i < ρ.length)
    (q : At Y (hd (hid fo at_) H') v d) : EnvO Y fo (seta at_ i none) B (σ.set i (some v)) H' (ρ.set i (.dat d)) :=
  E.put hs hi (fun _ e => nomatch e) ⟨rfl, v, rfl, q.same (hd_sub fun a m => m.elim .inl fun ⟨k, m⟩ => by
    by_cases hk : k = i
    · rw [hk, seta_same] at m; cases m
    · rw [seta_ne hk] at m; exact .inr ⟨k, m⟩)⟩
theorem EnvO.putN {Y : Yx} {fo : Addr → Prop} {at_ : Nat → Option Addr} {B : Hp} {σ : St} {H : Hp} {ρ : List Sl} (E : EnvO Y fo at_ B σ H ρ) {i : Nat} {v : Option V} (hi : i < ρ.length) :
    EnvO Y fo (seta at_ i none) B (σ.set i v) H (ρ.set i .no) := E.put (Same.refl H) hi (fun _ e => nomatch e) rfl
/-- what is owned is changed -/
theorem EnvO.mut {Y : Yx} {fo : Addr → Prop} {at_ : Nat → Option Addr} {B : Hp} {σ : St} {H : Hp} {ρ : List Sl} (E : EnvO Y fo at_ B σ H ρ) {i : Nat} {a : Addr} {o : HO} {s : Sl} (hi : i < ρ.length) (ha : at_ i = some a)
    (r : ∀ v, v = (σ[i]?).join → SlR Y (gsl at_ ρ.length i) (hd (hid fo at_) H) (upd H a o) v s (some a)) : EnvO Y fo at_ B σ (upd H a o) (ρ.set i s) := by
  have hh : hid fo at_ a := .inr ⟨i, ha⟩
  refine ⟨fun b u e => ?_, ⟨fun b q => ?_, fun b xs q => ?_⟩, E.dj, E.df, E.nw, by simp [E.len], fun j b h hl => ?_, fun j x e => ?_⟩
  · rw [upd_ne (fun z => by rw [z, E.nw i a ha] at e; cases e)]; exact E.same b u e
  · rw [upd_ne (fun z => E.df i a ha (by rw [← z]; exact q))]; exact E.fin b q
  · rw [upd_ne (fun z => E.df i a ha (by rw [← z]; exact q))]; exact E.fin.nt b xs q
  · rw [List.length_set] at hl
    obtain ⟨ob, eb, nb⟩ := E.gt j b h hl
    refine ⟨ob, ?_, nb⟩
    rw [upd_ne (fun z => ?_)]; exact eb
    have := E.dj j i a (by rw [← z]; exact h) ha
    omega
  · rw [hd_upd hh, List.length_set]
    by_cases hj : j = i
    · subst hj
      rw [List.getElem?_set_self hi] at e
      cases e
      rw [ha]
      exact r _ rfl
    · rw [List.getElem?_set_ne (Ne.symm hj)] at e
      refine (E.sl j x e).mono (Same.refl _) (fun b u hb z => ?_) (fun _ z => z) (fun l u ⟨m, hl⟩ z => ?_)
      · rw [upd_ne (fun z => hj (E.dj j i a (by rw [← z]; exact hb) ha))]; exact z
      · rw [upd_ne (fun z2 => ?_)]; exact z
        have h1 := E.dj _ i a (by rw [← z2]; exact hl) ha
        have h2 : ρ.length ≤ (m + 1) * ρ.length := Nat.le_mul_of_pos_left _ (Nat.succ_pos m)
        omega
/-- what is owned is given out of hand -/
theorem OAs.fz {Y : Yx} {gs : Addr → Prop} {G G' H : Hp} (hG : Same G G') (hN : ∀ l u, gs l → H l = some u → G' l = some u) : ∀ {vs : List DictEntry} {es : List (AK × List D)}, OAs Y gs G H vs es → AtN Y G' vs (es.map fun p => (p.1, .lst p.2))
  | _, [], r => r
  | _, (k, ds) :: _, ⟨e, q, l, vs, e1, ke, ev, g, hl, z, al, nd, t⟩ => ⟨.ref l, e, q, e1, ke.mono fun _ _ z => hG _ _ z, ev, ⟨l, vs, rfl, hN _ _ g hl, z, al.same hG⟩, OAs.fz hG hN t⟩
theorem ODs.fz {Y : Yx} {gs : Addr → Prop} {G G' H : Hp} (hG : Same G G') (hN : ∀ l u, gs l → H l = some u → G' l = some u) : ∀ {vs : List V} {es : List (List (List Key × D))}, ODs Y gs G H vs es → AtL Y G' vs (es.map .dT)
  | _, [], r => r
  | _, _ :: _, ⟨l, q, xs, e1, g, hl, al, nd, t⟩ => ⟨.ref l, q, e1, ⟨l, xs, rfl, .inl (hN _ _ g hl), al.same hG⟩, ODs.fz hG hN t⟩
theorem SlR.fz {Y : Yx} {gs : Addr → Prop} {G G' H : Hp} {v : V} {s : Sl} {o : Option Addr} (r : SlR Y gs G H (some v) s o) (hn : s ≠ .no) (hG : Same G G') (ho : ∀ a u, o = some a → H a = some u → G' a = some u) (hN : ∀ l u, gs l → H l = some u → G' l = some u) : At Y G' v (fz s) := by
  cases s with
  | no => exact absurd rfl hn
  | dat d => obtain ⟨e, x, e2, q⟩ := r; cases e2; exact q.same hG
  | ol xs => obtain ⟨a, vs, e, e2, e3, z, q⟩ := r; cases e2; exact ⟨a, vs, rfl, ho a _ e e3, z, q.same hG⟩
  | oK xs => obtain ⟨a, vs, e, e2, e3, q⟩ := r; cases e2; exact ⟨a, vs, rfl, .inl (ho a _ e e3), q.same hG⟩
  | oT xs => obtain ⟨a, vs, e, e2, e3, q⟩ := r; cases e2; exact ⟨a, vs, rfl, .inl (ho a _ e e3), q.same hG⟩
  | oI a xs => obtain ⟨dx, vs, e, e2, e3, q⟩ := r; cases e2; exact ⟨a, dx, vs, rfl, ho a _ e e3, q.same hG⟩
  | oA es => obtain ⟨a, vs, e, e2, e3, nd, q⟩ := r; cases e2; exact ⟨a, vs, rfl, .inl (ho a _ e e3), by rw [List.map_map]; exact nd, q.fz hG hN⟩
  | oD es => obtain ⟨a, vs, e, e2, e3, z, q⟩ := r; cases e2; exact ⟨a, vs, rfl, ho a _ e e3, z, q.fz hG hN⟩
  | oE c xs => obtain ⟨a, e, l, vs, e1, e2, e3, e4, e5, z, q⟩ := r; cases e2; exact ⟨a, some e, rfl, .inl (hG _ _ e3), .inr ⟨e, .ref l, rfl, .inl (hG _ _ e4), l, vs, rfl, ho l _ e1 e5, z, q.same hG⟩⟩
theorem SlR.val {Y : Yx} {gs : Addr → Prop} {G H : Hp} {σ : St} {i : Nat} {s : Sl} {o : Option Addr} (r : SlR Y gs G H (σ[i]?).join s o) (hn : s ≠ .no) : ∃ v, σ[i]? = some (some v) := by
  cases s with
  | no => exact absurd rfl hn
  | dat d => obtain ⟨_, x, e2, q⟩ := r; exact ⟨x, join_some e2⟩
  | ol xs => obtain ⟨a, vs, _, e2, _⟩ := r; exact ⟨_, join_some e2⟩
  | oK xs => obtain ⟨a, vs, _, e2, _⟩ := r; exact ⟨_, join_some e2⟩
  | oT xs => obtain ⟨a, vs, _, e2, _⟩ := r; exact ⟨_, join_some e2⟩
  | oI a xs => obtain ⟨dx, vs, _, e2, _⟩ := r; exact ⟨_, join_some e2⟩
  | oA xs => obtain ⟨a, vs, _, e2, _⟩ := r; exact ⟨_, join_some e2⟩
  | oD xs => obtain ⟨a, vs, _, e2, _⟩ := r; exact ⟨_, join_some e2⟩
  | oE c xs => obtain ⟨a, _, _, vs, _, e2, _⟩ := r; exact ⟨_, join_some e2⟩

open Classical in
noncomputable def unown (at_ : Nat → Option Addr) (n i : Nat) : Nat → Option Addr := fun j => if j = i ∨ ∃ m, j = i + (m + 1) * n then none else at_ j
theorem unown_of {at_ : Nat → Option Addr} {n i j : Nat} {a : Addr} (h : unown at_ n i j = some a) : at_ j = some a ∧ j ≠ i ∧ ∀ m, j ≠ i + (m + 1) * n := by
  unfold unown at h
  split at h
  · cases h
  · rename_i q; exact ⟨h, fun z => q (.inl z), fun m z => q (.inr ⟨m, z⟩)⟩
theorem unown_same {at_ : Nat → Option Addr} {n i : Nat} : unown at_ n i i = none := if_pos (.inl rfl)
theorem slot_ne {n i j m k : Nat} (hi : i < n) (hj : j < n) (hij : j ≠ i) : j + (m + 1) * n ≠ i + (k + 1) * n := by
  intro z
  have h1 : (j + (m + 1) * n) % n = j := by rw [Nat.add_mul_mod_self_right, Nat.mod_eq_of_lt hj]
  have h2 : (i + (k + 1) * n) % n = i := by rw [Nat.add_mul_mod_self_right, Nat.mod_eq_of_lt hi]
  rw [z, h2] at h1
  exact hij h1.symm
theorem unown_ne {at_ : Nat → Option Addr} {n i j : Nat} (hi : i < n) (hj : j < n) (hij : j ≠ i) : unown at_ n i j = at_ j := if_neg fun z => z.elim hij fun ⟨m, z⟩ => by
  have : n ≤ (m + 1) * n := Nat.le_mul_of_pos_left _ (Nat.succ_pos m)
  omega
theorem unown_gs {at_ : Nat → Option Addr} {n i j m : Nat} (hi : i < n) (hj : j < n) (hij : j ≠ i) : unown at_ n i (j + (m + 1) * n) = at_ (j + (m + 1) * n) := if_neg fun z => z.elim (fun z => by
  have : n ≤ (m + 1) * n := Nat.le_mul_of_pos_left _ (Nat.succ_pos m)
  omega) fun ⟨k, z⟩ => slot_ne hi hj hij z
theorem EnvO.freeze {Y : Yx} {fo : Addr → Prop} {at_ : Nat → Option Addr} {B : Hp} {σ : St} {H : Hp} {ρ : List Sl} (E : EnvO Y fo at_ B σ H ρ) {i : Nat} {s : Sl} (e : ρ[i]? = some s) (hn : s ≠ .no) :
    EnvO Y fo (unown at_ ρ.length i) B σ H (ρ.set i (.dat (PL.fz s))) := by
  have hi : i < ρ.length := (List.getElem?_eq_some_iff.mp e).1
  have sub : ∀ a, hid fo (unown at_ ρ.length i) a → hid fo at_ a := fun a m => m.elim .inl fun ⟨k, m⟩ => .inr ⟨k, (unown_of m).1⟩
  have r := E.sl i s e
  obtain ⟨v, hv⟩ := r.val hn
  have hv2 : (σ[i]?).join = some v := by rw [hv]; rfl
  rw [hv2] at r
  have vis : ∀ a j, at_ j = some a → (j = i ∨ ∃ m, j = i + (m + 1) * ρ.length) → ¬ hid fo (unown at_ ρ.length i) a := fun a j ha hj m => by
    rcases m with m | ⟨k, m⟩
    · exact E.df j a ha m
    · obtain ⟨h1, h2, h3⟩ := unown_of m
      have := E.dj k j a h1 ha
      rcases hj with hj | ⟨q, hj⟩
      · exact h2 (this.trans hj)
      · exact h3 q (this.trans hj)
  have q : At Y (hd (hid fo (unown at_ ρ.length i)) H) v (PL.fz s) := r.fz hn (hd_sub sub) (fun a u ho hu => (hd_not (vis a i ho (.inl rfl))).trans hu) fun l u ⟨m, hl⟩ hu => (hd_not (vis l _ hl (.inr ⟨m, rfl⟩))).trans hu
  refine ⟨E.same, E.fin, fun j k a h1 h2 => E.dj j k a (unown_of h1).1 (unown_of h2).1, fun j a h => E.df j a (unown_of h).1, fun j a h => E.nw j a (unown_of h).1, by simp [E.len], fun j a h hl => E.gt j a (unown_of h).1 (by rw [List.length_set] at hl; exact hl), fun j x ex => ?_⟩
  rw [List.length_set]
  by_cases hj : j = i
  · subst hj
    rw [List.getElem?_set_self hi] at ex
    cases ex
    rw [unown_same, hv2]
    exact ⟨rfl, v, rfl, q⟩
  · rw [List.getElem?_set_ne (Ne.symm hj)] at ex
    have hj2 : j < ρ.length := (List.getElem?_eq_some_iff.mp ex).1
    rw [unown_ne hi hj2 hj]
    exact (E.sl j x ex).mono (hd_sub sub) (fun _ _ _ z => z) (fun l ⟨m, z⟩ => ⟨m, by rw [unown_gs hi hj2 hj]; exact z⟩) fun _ _ _ z => z
/-- all that is owned, looked at -/
def view (ρ : List Sl) : List Sl := ρ.map fun s => match s with
  | .no => .no
  | s => .dat (fz s)
theorem EnvO.view {Y : Yx} {fo : Addr → Prop} {at_ : Nat → Option Addr} {B : Hp} {σ : St} {H : Hp} {ρ : List Sl} (E : EnvO Y fo at_ B σ H ρ) : EnvO Y fo (fun _ => none) H σ H (PL.view ρ) := by
  refine ⟨Same.refl H, E.fin, fun _ _ _ h => (nomatch h), fun _ _ h => (nomatch h), fun _ _ h => (nomatch h), by simp [PL.view, E.len], fun _ _ h => (nomatch h), fun i x e => ?_⟩
  have sub : ∀ a, hid fo (fun _ => none) a → hid fo at_ a := fun a m => m.elim .inl fun ⟨k, m⟩ => nomatch m
  unfold PL.view at e
  rw [List.getElem?_map] at e
  cases hs : ρ[i]? with
  | none => rw [hs] at e; cases e
  | some s =>
    rw [hs] at e
    have r := E.sl i s hs
    have go : s ≠ .no → SlR Y (gsl (fun _ => none) (PL.view ρ).length i) (hd (hid fo fun _ => none) H) H (σ[i]?).join (.dat (fz s)) none := fun hn => by
      obtain ⟨v, hv⟩ := r.val hn
      have hv2 : (σ[i]?).join = some v := by rw [hv]; rfl
      rw [hv2] at r ⊢
      have nh : ∀ a k, at_ k = some a → ¬ hid fo (fun _ => none) a := fun a k ha m => m.elim (fun m => E.df k a ha m) fun ⟨_, m⟩ => nomatch m
      exact ⟨rfl, v, rfl, r.fz hn (hd_sub sub) (fun a u ho hu => (hd_not (nh a i ho)).trans hu) fun l u ⟨m, hl⟩ hu => (hd_not (nh l _ hl)).trans hu⟩
    cases s with
    | no => cases e; exact rfl
    | _ => cases e; exact go (fun z => nomatch z)
end PL

/-! P2: results, readings of expressions with a mirror. -/
namespace PL
open PySem PySem.Spec L2

inductive R (α : Type) where
  | ok (a : α) | ex (c : Nat) (ps : D) | bad
def R.bind {α β : Type} : R α → (α → R β) → R β
  | .ok a, k => k a
  | .ex c ps, _ => .ex c ps
  | .bad, _ => .bad
@[simp] theorem bind_ok {α β : Type} (a : α) (k : α → R β) : (R.ok a).bind k = k a := rfl
@[simp] theorem bind_ex {α β : Type} (c : Nat) (ps : D) (k : α → R β) : (R.ex c ps : R α).bind k = .ex c ps := rfl
@[simp] theorem bind_bad {α β : Type} (k : α → R β) : (R.bad : R α).bind k = .bad := rfl
def ofO {α : Type} : Option α → R α
  | some a => .ok a
  | none => .bad
@[simp] theorem ofO_some {α : Type} (a : α) : ofO (some a) = .ok a := rfl
@[simp] theorem ofO_none {α : Type} : ofO (none : Option α) = .bad := rfl
/-- where nothing may be raised -/
def noEx {α : Type} : R α → R α
  | .ok a => .ok a
  | _ => .bad
@[simp] theorem noEx_ok {α : Type} (a : α) : noEx (R.ok a) = .ok a := rfl
abbrev EF (α : Type) := List Sl → R α

/-- what an exception carries -/
def ExD (Y : Yx) (H0 H : Hp) (dd : Option Addr) (ps : D) : Prop := (dd = none ∧ ps = .non) ∨ ∃ e l vs xs, ps = .lst xs ∧ dd = some e ∧ H e = some (.xd [("pairs", .ref l)]) ∧ H0 e = none ∧ H0 l = none ∧ e ≠ l ∧ H l = some (.lst vs) ∧ vs.length ≤ cap ∧ AtL Y H vs xs
theorem ExD.base {Y : Yx} {H0 H1 H : Hp} {dd : Option Addr} {ps : D} (s : Same H0 H1) (h : ExD Y H1 H dd ps) : ExD Y H0 H dd ps := h.elim .inl fun ⟨e, l, vs, xs, e1, e2, e3, n1, n2, r⟩ => .inr ⟨e, l, vs, xs, e1, e2, e3, s.free n1, s.free n2, r⟩
def Post {α : Type} (Y : Yx) (W : WX) (σ : L2.St) (H : Hp) : R α → (α → Hp → Prop) → Prop
  | .ok a, K => ∀ H', Same H H' → K a H'
  | .ex c ps, _ => ∀ dd H', Same H H' → ExD Y H H' dd ps → W (.ref (Y.cx c)) dd σ H'
  | .bad, _ => False
section
variable {α β : Type} {Y : Yx} {W : WX} {σ : L2.St} {H H1 : Hp}
theorem Post.ext {m : R α} {K : α → Hp → Prop} (s : Same H H1) (h : Post Y W σ H m K) : Post Y W σ H1 m K := by
  cases m with
  | ok a => exact fun H' s' => h H' (s.trans s')
  | ex c ps => exact fun dd H' s' x => h dd H' (s.trans s') (x.base s)
  | bad => exact h
theorem Post.mono {m : R α} {K K' : α → Hp → Prop} (h : Post Y W σ H m K) (k : ∀ a H', Same H H' → K a H' → K' a H') : Post Y W σ H m K' := by
  cases m with
  | ok a => exact fun H' s' => k a H' s' (h H' s')
  | ex c ps => exact h
  | bad => exact h
theorem Post.bind {m : R α} {k : α → R β} {K : β → Hp → Prop} (h : Post Y W σ H (m.bind k) K) : Post Y W σ H m (fun a H1 => Post Y W σ H1 (k a) K) := by
  cases m with
  | ok a => exact fun H' s' => Post.ext s' h
  | ex c ps => exact h
  | bad => exact h
theorem Post.now {a : α} {K : α → Hp → Prop} (h : Post Y W σ H (.ok a) K) : K a H := h H (Same.refl H)
end
/-- the reading of an expression that gives data -/
def tE (Y : Yx) (W : WX) (f : EF D) : TE := fun σ H Q => ∃ (fo : Addr → Prop) (at_ : Nat → Option Addr) (B : Hp) (ρ : List Sl), EnvO Y fo at_ B σ H ρ ∧
  Post Y W σ H (f ρ) (fun d H' => ∀ v, At Y (hd (hid fo at_) H') v d → Q v H')
/-- .. that gives an owned thing, or data -/
def tO (Y : Yx) (W : WX) (f : EF Sl) : TE := fun σ H Q => ∃ (fo : Addr → Prop) (at_ : Nat → Option Addr) (B : Hp) (ρ : List Sl), EnvO Y fo at_ B σ H ρ ∧
  Post Y W σ H (f ρ) (fun s H' => ∀ v oa, (∀ a, oa = some a → H a = none) → SlR Y noG (hd (fun a => hid fo at_ a ∨ oa = some a) H') H' (some v) s oa → s ≠ .no → Q v H')
def tT (Y : Yx) (W : WX) (f : EF Bool) : TT := fun σ H Q => ∃ (fo : Addr → Prop) (at_ : Nat → Option Addr) (B : Hp) (ρ : List Sl), EnvO Y fo at_ B σ H ρ ∧
  Post Y W σ H (f ρ) (fun b H' => Q b H')
def tL (Y : Yx) (W : WX) (f : EF (List D)) : TA := fun σ H Q => ∃ (fo : Addr → Prop) (at_ : Nat → Option Addr) (B : Hp) (ρ : List Sl), EnvO Y fo at_ B σ H ρ ∧
  Post Y W σ H (f ρ) (fun ds H' => ∀ vs, AtL Y (hd (hid fo at_) H') vs ds → Q vs H')
theorem PE.imp {X : Cx} {e : Expr} {t t' : TE} (h : PE X e t) (k : ∀ σ H Q, t' σ H Q → t σ H Q) : PE X e t' := ⟨fun pins s σ H Q I q => h.run pins s σ H Q I (k σ H Q q)⟩
theorem PT.imp {X : Cx} {e : Expr} {t t' : TT} (h : PT X e t) (k : ∀ σ H Q, t' σ H Q → t σ H Q) : PT X e t' := ⟨fun pins s σ H Q I q => h.run pins s σ H Q I (k σ H Q q)⟩
theorem PW.imp {X : Cx} {e : Expr} {t t' : TT} (h : PW X e t) (k : ∀ σ H Q, t' σ H Q → t σ H Q) : PW X e t' := ⟨fun wh pins s σ H Q I q => h.run wh pins s σ H Q I (k σ H Q q)⟩
theorem PA.imp {X : Cx} {e : List Expr} {t t' : TA} (h : PA X e t) (k : ∀ σ H Q, t' σ H Q → t σ H Q) : PA X e t' := ⟨fun pos pins s σ H Q I q => h.run pos pins s σ H Q I (k σ H Q q)⟩
theorem PS.imp {X : Cx} {e : Stmt} {t t' : TS} (h : PS X e t) (k : ∀ D σ H, t' D σ H → t D σ H) : PS X e t' := ⟨fun pins s σ H D I q => h.run pins s σ H D I (k D σ H q)⟩
theorem PSs.imp {X : Cx} {e : List Stmt} {t t' : TS} (h : PSs X e t) (k : ∀ D σ H, t' D σ H → t D σ H) : PSs X e t' := ⟨fun pins s σ H D I q => h.run pins s σ H D I (k D σ H q)⟩
theorem PE.or {X : Cx} {e : Expr} {t t' : TE} (h : PE X e t) (h' : PE X e t') : PE X e (fun σ H Q => t σ H Q ∨ t' σ H Q) := ⟨fun pins s σ H Q I q => q.elim (h.run pins s σ H Q I) (h'.run pins s σ H Q I)⟩
theorem PS.or {X : Cx} {e : Stmt} {t t' : TS} (h : PS X e t) (h' : PS X e t') : PS X e (fun D σ H => t D σ H ∨ t' D σ H) := ⟨fun pins s σ H D I q => q.elim (h.run pins s σ H D I) (h'.run pins s σ H D I)⟩
theorem PI.or {X : Cx} {tg e : Expr} {t t' : TI} (h : PI X tg e t) (h' : PI X tg e t') : PI X tg e (fun σ H R => t σ H R ∨ t' σ H R) := ⟨fun pins s σ H R I q => q.elim (h.run pins s σ H R I) (h'.run pins s σ H R I)⟩

/-! ### names, constants -/
def varE (i : Nat) : EF D := fun ρ => match ρ[i]? with
  | some (.dat d) => .ok d
  | _ => .bad
def cE (d : D) : EF D := fun _ => .ok d
section
variable {X : Cx} {Y : Yx} {W : WX}
theorem px_var {e : Expr} {i : Nat} (h : PE X e (tVar i)) : PE X e (tE Y W (varE i)) := PE.imp h fun σ H Q ⟨fo, at_, B, ρ, E, h⟩ => by
  unfold varE at h
  cases e : ρ[i]? with
  | none => rw [e] at h; exact h.elim
  | some s =>
    rw [e] at h
    cases s with
    | dat d =>
      obtain ⟨x, e2, q⟩ := E.dat e
      exact ⟨x, e2, (h : Post Y W σ H (.ok d) _).now x q⟩
    | _ => exact h.elim
theorem px_c {e : Expr} {v : V} {d : D} (h : PE X e (tC v)) (a : ∀ G, At Y G v d) : PE X e (tE Y W (cE d)) := PE.imp h fun σ H Q ⟨fo, at_, B, ρ, E, h⟩ => (h : Post Y W σ H (.ok d) _).now v (a _)
theorem px_int {i : Int} {j : Nat} {pos : Pos} : PE X (.Constant (.int i) j pos) (tE Y W (cE (.int i))) := px_c pe_int fun _ => rfl
theorem px_bl {b : Bool} {j : Nat} {pos : Pos} : PE X (.Constant (.bool b) j pos) (tE Y W (cE (.bl b))) := px_c pe_bl fun _ => rfl
theorem px_non {j : Nat} {pos : Pos} : PE X (.Constant .none j pos) (tE Y W (cE .non)) := px_c pe_non fun _ => rfl
theorem px_str {x : Str} {j : Nat} {pos : Pos} : PE X (.Constant (.str x) j pos) (tE Y W (cE (.str x))) := px_c pe_str fun _ => rfl
theorem px_gint {x : Str} {i : Int} {pos : Pos} (hg : Gl X x) (hm : ∃ t, X.mg x = some (.int i t)) (hd : (x == ("__debug__" : Str)) = false := by decide) : PE X (.Name x pos) (tE Y W (cE (.int i))) := by
  obtain ⟨t, hm⟩ := hm
  exact px_c (v := .int i) (pe_glob hg hm ⟨t, rfl⟩ hd) fun _ => rfl
theorem px_gstr {x z : Str} {pos : Pos} (hg : Gl X x) (hm : ∃ t, X.mg x = some (.str z t)) (hd : (x == ("__debug__" : Str)) = false := by decide) : PE X (.Name x pos) (tE Y W (cE (.str z))) := by
  obtain ⟨t, hm⟩ := hm
  exact px_c (v := .str z) (pe_glob hg hm ⟨t, rfl⟩ hd) fun _ => rfl

/-! ### operations by values -/
/-- a two-place operation on data -/
def VOp (Y : Yx) (r : R2) (op : D → D → Option D) : Prop := ∀ (h : Addr → Prop) (H : Hp) (x y : V) (d e c : D) (Q : VK), Al h H → At Y (hd h H) x d → At Y (hd h H) y e → op d e = some c →
  (∀ v H', Same H H' → At Y (hd h H') v c → Q v H') → r x y H Q
def VUn (Y : Yx) (r : V → Hp → VK → Prop) (op : D → Option D) : Prop := ∀ (h : Addr → Prop) (H : Hp) (x : V) (d c : D) (Q : VK), Al h H → At Y (hd h H) x d → op d = some c →
  (∀ v H', Same H H' → At Y (hd h H') v c → Q v H') → r x H Q
/-- a call on data -/
def VCa (Y : Yx) (r : List V → Hp → VK → Prop) (op : List D → Option D) : Prop := ∀ (h : Addr → Prop) (H : Hp) (xs : List V) (ds : List D) (c : D) (Q : VK), Al h H → AtL Y (hd h H) xs ds → op ds = some c →
  (∀ v H', Same H H' → At Y (hd h H') v c → Q v H') → r xs H Q
@[simp] def un (f : EF D) (op : D → Option D) : EF D := fun ρ => (f ρ).bind fun a => ofO (op a)
@[simp] def bin (f g : EF D) (op : D → D → Option D) : EF D := fun ρ => (f ρ).bind fun a => (g ρ).bind fun b => ofO (op a b)
theorem Post.op {σ : L2.St} {H : Hp} {m : Option D} {K : D → Hp → Prop} (h : Post Y W σ H (ofO m) K) : ∃ c, m = some c ∧ ∀ H', Same H H' → K c H' := by
  cases m with
  | none => exact h.elim
  | some c => exact ⟨c, rfl, h⟩
theorem bin_rd {f g : EF D} {op : D → D → Option D} {r : R2} (v : VOp Y r op) {σ : L2.St} {H : Hp} {Q : VK} (h : tE Y W (bin f g op) σ H Q) : tOp r (tE Y W f) (tE Y W g) σ H Q := by
  obtain ⟨fo, at_, B, ρ, E, h⟩ := h
  refine ⟨fo, at_, B, ρ, E, (Post.bind h).mono fun d H1 s1 h1 x a => ⟨fo, at_, B, ρ, E.ext s1, (Post.bind h1).mono fun e H2 s2 h2 y b => ?_⟩⟩
  obtain ⟨c, e1, h2⟩ := Post.op h2
  exact v _ H2 x y d e c Q ((E.ext s1).ext s2).al (a.same (hd_same s2)) b e1 fun w H' s' q => h2 H' s' w q
variable {a b : Expr} {f g : EF D} {pos : Pos}
theorem px_op {op : Operator} {r : R2} {o : D → D → Option D} (ho : OpR X (binaryOp op) r) (v : VOp Y r o) (ha : PE X a (tE Y W f)) (hb : PE X b (tE Y W g)) : PE X (.BinOp a op b pos) (tE Y W (bin f g o)) :=
  PE.imp (pe_op ho ha hb) fun σ H Q h => bin_rd v h
theorem px_cmp {op : CmpOp} {r : R2} {o : D → D → Option D} (ho : OpR X (compareOp op) r) (v : VOp Y r o) (ha : PE X a (tE Y W f)) (hb : PE X b (tE Y W g)) (hm : behindInMarks op b = false) : PE X (.Compare a [op] [b] pos) (tE Y W (bin f g o)) :=
  PE.imp (pe_cmpR ho ha hb hm) fun σ H Q h => bin_rd v h
/-- data as a truth value, plain bools alone -/
@[simp] def tru (f : EF D) : EF Bool := fun ρ => (f ρ).bind fun d => match d with
  | .bl b => .ok b
  | _ => .bad
theorem tru_rd {t : TE} (k : ∀ σ H Q, tE Y W f σ H Q → t σ H Q) {σ : L2.St} {H : Hp} {Q : Bool → Hp → Prop} (h : tT Y W (tru f) σ H Q) : t σ H fun x H' => ∃ c, x = .bl c ∧ Q c H' := by
  obtain ⟨fo, at_, B, ρ, E, h⟩ := h
  refine k _ _ _ ⟨fo, at_, B, ρ, E, (Post.bind h).mono fun d H1 s1 h1 v a => ?_⟩
  cases d with
  | bl b => exact ⟨b, a, (h1 : Post Y W σ H1 (.ok b) _).now⟩
  | _ => exact h1.elim
theorem pt_px {e : Expr} (h : PE X e (tE Y W f)) (he : ∀ whole, isTrue e X.env whole = (do let v ← whole; standAt e.pos; holding [v] (truthy v)) := by intro _; rfl) : PT X e (tT Y W (tru f)) :=
  PT.imp (pt_val h he) fun σ H Q q => tru_rd (fun _ _ _ z => z) q
theorem pt_cmpP {op : CmpOp} {r : R2} {o : D → D → Option D} (ho : OpR X (compareOp op) r) (v : VOp Y r o) (ha : PE X a (tE Y W f)) (hb : PE X b (tE Y W g)) (hm : behindInMarks op b = false) : PT X (.Compare a [op] [b] pos) (tT Y W (tru (bin f g o))) :=
  PT.imp (pt_cmpR ho ha hb hm) fun σ H Q q => tru_rd (fun _ _ _ z => bin_rd v z) q
/-- not -/
@[simp] def notT (f : EF Bool) : EF Bool := fun ρ => (f ρ).bind fun b => .ok (!b)
theorem pt_notP {p : EF Bool} (h : PT X a (tT Y W p)) : PT X (.UnaryOp .Not a pos) (tT Y W (notT p)) := PT.imp (pt_not h) fun σ H Q ⟨fo, at_, B, ρ, E, h⟩ =>
  ⟨fo, at_, B, ρ, E, (Post.bind h).mono fun b H1 s1 h1 => (h1 : Post Y W σ H1 (.ok (!b)) _).now⟩
/-- a test as a value -/
@[simp] def blE (p : EF Bool) : EF D := fun ρ => (p ρ).bind fun b => .ok (.bl b)
theorem px_notP (h : PE X a (tE Y W f)) : PE X (.UnaryOp .Not a pos) (tE Y W (blE (notT (tru f)))) := PE.imp (pe_not h) fun σ H Q ⟨fo, at_, B, ρ, E, h⟩ => by
  refine tru_rd (W := W) (Q := fun c H' => Q (.bl (!c)) H') (fun _ _ _ z => z) ⟨fo, at_, B, ρ, E, (Post.bind (Post.bind h)).mono fun b H1 s1 h1 => ?_⟩
  have h2 := (h1 : Post Y W σ H1 (.ok (!b)) _).now
  exact (h2 : Post Y W σ H1 (.ok (D.bl (!b))) _).now _ rfl
@[simp] def andT (p q : EF Bool) : EF Bool := fun ρ => (p ρ).bind fun b => if b = true then q ρ else .ok false
@[simp] def orT (p q : EF Bool) : EF Bool := fun ρ => (p ρ).bind fun b => if b = true then .ok true else q ρ
variable {p q : EF Bool} {rest : List Expr}
theorem pw_andP (ha : PT X a (tT Y W p)) (hb : PW X (.BoolOp .And (b :: rest) pos) (tT Y W q)) : PW X (.BoolOp .And (a :: b :: rest) pos) (tT Y W (andT p q)) := PW.imp (pw_and ha hb) fun σ H Q ⟨fo, at_, B, ρ, E, h⟩ =>
  ⟨fo, at_, B, ρ, E, (Post.bind h).mono fun b H1 s1 h1 => by
    cases b with
    | true => rw [if_pos rfl] at h1 ⊢; exact ⟨fo, at_, B, ρ, E.ext s1, h1⟩
    | false => rw [if_neg Bool.false_ne_true] at h1 ⊢; exact (h1 : Post Y W σ H1 (.ok false) _).now⟩
theorem pw_orP (ha : PT X a (tT Y W p)) (hb : PW X (.BoolOp .Or (b :: rest) pos) (tT Y W q)) : PW X (.BoolOp .Or (a :: b :: rest) pos) (tT Y W (orT p q)) := PW.imp (pw_or ha hb) fun σ H Q ⟨fo, at_, B, ρ, E, h⟩ =>
  ⟨fo, at_, B, ρ, E, (Post.bind h).mono fun b H1 s1 h1 => by
    cases b with
    | false => rw [if_neg Bool.false_ne_true] at h1 ⊢; exact ⟨fo, at_, B, ρ, E.ext s1, h1⟩
    | true => rw [if_pos rfl] at h1 ⊢; exact (h1 : Post Y W σ H1 (.ok true) _).now⟩
theorem pw_and1P (ha : PT X a (tT Y W p)) : PW X (.BoolOp .And [a] pos) (tT Y W p) := pw_and1 ha
theorem pw_or1P (ha : PT X a (tT Y W p)) : PW X (.BoolOp .Or [a] pos) (tT Y W p) := pw_or1 ha
theorem pt_w {e : Expr} (h : PW X e (tT Y W p)) : PT X e (tT Y W p) := h.pt
/-- and, or of bools as values -/
theorem px_and (ha : PE X a (tE Y W f)) (hb : PE X (.BoolOp .And (b :: rest) pos) (tE Y W (blE q))) : PE X (.BoolOp .And (a :: b :: rest) pos) (tE Y W (blE (andT (tru f) q))) := PE.imp (pe_and ha hb) fun σ H Q ⟨fo, at_, B, ρ, E, h⟩ => by
  refine tru_rd (W := W) (Q := fun c H' => if c = true then tE Y W (blE q) σ H' Q else Q (.bl false) H') (fun _ _ _ z => z) ⟨fo, at_, B, ρ, E, (Post.bind (Post.bind h)).mono fun c H1 s1 h1 => ?_⟩
  cases c with
  | true => rw [if_pos rfl] at h1 ⊢; refine ⟨fo, at_, B, ρ, E.ext s1, ?_⟩; unfold blE; cases e : q ρ with
    | ok z => rw [e] at h1; exact (h1 : Post Y W σ H1 (.ok z) _).now
    | ex c ps => rw [e] at h1; exact h1
    | bad => rw [e] at h1; exact h1
  | false => rw [if_neg Bool.false_ne_true] at h1 ⊢; exact ((h1 : Post Y W σ H1 (.ok false) _).now : Post Y W σ H1 (.ok (D.bl false)) _).now _ rfl
theorem px_or (ha : PE X a (tE Y W f)) (hb : PE X (.BoolOp .Or (b :: rest) pos) (tE Y W (blE q))) : PE X (.BoolOp .Or (a :: b :: rest) pos) (tE Y W (blE (orT (tru f) q))) := PE.imp (pe_or ha hb) fun σ H Q ⟨fo, at_, B, ρ, E, h⟩ => by
  refine tru_rd (W := W) (Q := fun c H' => if c = true then Q (.bl true) H' else tE Y W (blE q) σ H' Q) (fun _ _ _ z => z) ⟨fo, at_, B, ρ, E, (Post.bind (Post.bind h)).mono fun c H1 s1 h1 => ?_⟩
  cases c with
  | false => rw [if_neg Bool.false_ne_true] at h1 ⊢; refine ⟨fo, at_, B, ρ, E.ext s1, ?_⟩; unfold blE; cases e : q ρ with
    | ok z => rw [e] at h1; exact (h1 : Post Y W σ H1 (.ok z) _).now
    | ex c ps => rw [e] at h1; exact h1
    | bad => rw [e] at h1; exact h1
  | true => rw [if_pos rfl] at h1 ⊢; exact ((h1 : Post Y W σ H1 (.ok true) _).now : Post Y W σ H1 (.ok (D.bl true)) _).now _ rfl
/-- the last of them: a bool -/
theorem px_one {op : BoolOp} (ha : PE X a (tE Y W f)) : PE X (.BoolOp op [a] pos) (tE Y W (blE (tru f))) := PE.imp (pe_one ha) fun σ H Q ⟨fo, at_, B, ρ, E, h⟩ =>
  ⟨fo, at_, B, ρ, E, (Post.bind (Post.bind h)).mono fun d H1 s1 h1 v a => by
    cases d with
    | bl b => exact ((h1 : Post Y W σ H1 (.ok b) _).now : Post Y W σ H1 (.ok (D.bl b)) _).now v a
    | _ => exact h1.elim⟩
@[simp] def ifE (p : EF Bool) (f g : EF D) : EF D := fun ρ => (p ρ).bind fun b => if b = true then f ρ else g ρ
theorem px_if {c : Expr} (hc : PT X c (tT Y W p)) (ha : PE X a (tE Y W f)) (hb : PE X b (tE Y W g)) : PE X (.IfExp c a b pos) (tE Y W (ifE p f g)) := PE.imp (pe_ifExp hc ha hb) fun σ H Q ⟨fo, at_, B, ρ, E, h⟩ =>
  ⟨fo, at_, B, ρ, E, (Post.bind h).mono fun d H1 s1 h1 => by
    cases d with
    | true => rw [if_pos rfl] at h1 ⊢; exact ⟨fo, at_, B, ρ, E.ext s1, h1⟩
    | false => rw [if_neg Bool.false_ne_true] at h1 ⊢; exact ⟨fo, at_, B, ρ, E.ext s1, h1⟩⟩
/-- a < b < c -/
@[simp] def chain (f g k : EF D) (o o' : D → D → Option D) : EF D := fun ρ => (f ρ).bind fun a => (g ρ).bind fun b => (ofO (o a b)).bind fun z => match z with
  | .bl true => (k ρ).bind fun c => ofO (o' b c)
  | .bl false => .ok (.bl false)
  | _ => .bad
theorem chain_rd {k : EF D} {r r' : R2} {o o' : D → D → Option D} (v : VOp Y r o) (v' : VOp Y r' o') {σ : L2.St} {H : Hp} {Q : VK} (h : tE Y W (chain f g k o o') σ H Q) : tChain r r' (tE Y W f) (tE Y W g) (tE Y W k) σ H Q := by
  obtain ⟨fo, at_, B, ρ, E, h⟩ := h
  refine ⟨fo, at_, B, ρ, E, (Post.bind h).mono fun d H1 s1 h1 x a => ⟨fo, at_, B, ρ, E.ext s1, (Post.bind h1).mono fun e H2 s2 h2 y b => ?_⟩⟩
  obtain ⟨c, e1, h2⟩ := Post.op (Post.bind h2)
  have E2 := (E.ext s1).ext s2
  refine v _ H2 x y d e c _ E2.al (a.same (hd_same s2)) b e1 fun w H' s' q => ?_
  have h3 := h2 H' s'
  cases c with
  | bl t =>
    refine ⟨t, q, ?_⟩
    cases t with
    | true =>
      rw [if_pos rfl]
      refine ⟨fo, at_, B, ρ, E2.ext s', (Post.bind h3).mono fun c2 H4 s4 h4 z qz => ?_⟩
      obtain ⟨c3, e3, h4⟩ := Post.op h4
      exact v' _ H4 y z e c2 c3 Q ((E2.ext s').ext s4).al (b.same (hd_same (s'.trans s4))) qz e3 fun w2 H5 s5 q5 => h4 H5 s5 w2 q5
    | false =>
      rw [if_neg Bool.false_ne_true]
      exact (h3 : Post Y W σ H' (.ok (D.bl false)) _).now _ rfl
  | _ => exact h3.elim
theorem px_chain {c : Expr} {k : EF D} {op op' : CmpOp} {r r' : R2} {o o' : D → D → Option D} (ho : OpR X (compareOp op) r) (ho' : OpR X (compareOp op') r') (v : VOp Y r o) (v' : VOp Y r' o') (ha : PE X a (tE Y W f)) (hb : PE X b (tE Y W g)) (hc : PE X c (tE Y W k))
    (hm : lastMarks [op, op'] [b, c] = false := by with_unfolding_all rfl) : PE X (.Compare a [op, op'] [b, c] pos) (tE Y W (chain f g k o o')) :=
  PE.imp (pe_chain ho ho' ha hb hc hm) fun σ H Q h => chain_rd v v' h
theorem pt_chainP {c : Expr} {k : EF D} {op op' : CmpOp} {r r' : R2} {o o' : D → D → Option D} (ho : OpR X (compareOp op) r) (ho' : OpR X (compareOp op') r') (v : VOp Y r o) (v' : VOp Y r' o') (ha : PE X a (tE Y W f)) (hb : PE X b (tE Y W g)) (hc : PE X c (tE Y W k))
    (hm : lastMarks [op, op'] [b, c] = false := by with_unfolding_all rfl) : PT X (.Compare a [op, op'] [b, c] pos) (tT Y W (tru (chain f g k o o'))) :=
  PT.imp (pt_chain ho ho' ha hb hc hm) fun σ H Q q => tru_rd (fun _ _ _ z => chain_rd v v' z) q
/-! ### arguments -/
def nilL : EF (List D) := fun _ => .ok []
@[simp] def consL (f : EF D) (r : EF (List D)) : EF (List D) := fun ρ => (f ρ).bind fun d => (r ρ).bind fun ds => .ok (d :: ds)
theorem ax_nil : PA X [] (tL Y W nilL) := PA.imp pa_nil fun σ H Q ⟨fo, at_, B, ρ, E, h⟩ => (h : Post Y W σ H (.ok []) _).now [] rfl
theorem ax_cons {es : List Expr} {r : EF (List D)} (ha : PE X a (tE Y W f)) (hr : PA X es (tL Y W r)) (hs : starEach (a :: es) X.env = (false, eval a X.env) :: starEach es X.env := by rfl) : PA X (a :: es) (tL Y W (consL f r)) :=
  PA.imp (pa_cons ha hr hs) fun σ H Q ⟨fo, at_, B, ρ, E, h⟩ =>
    ⟨fo, at_, B, ρ, E, (Post.bind h).mono fun d H1 s1 h1 x a => ⟨fo, at_, B, ρ, E.ext s1, (Post.bind h1).mono fun ds H2 s2 h2 xs b => (h2 : Post Y W σ H2 (.ok (d :: ds)) _).now (x :: xs) ⟨x, xs, rfl, a.same (hd_same s2), b⟩⟩⟩
@[simp] def ca (r : EF (List D)) (op : List D → Option D) : EF D := fun ρ => (r ρ).bind fun ds => ofO (op ds)
theorem ca_rd {r : List V → Hp → VK → Prop} {l : EF (List D)} {op : List D → Option D} (v : VCa Y r op) {σ : L2.St} {H : Hp} {Q : VK} (h : tE Y W (ca l op) σ H Q) : tCB r (tL Y W l) σ H Q := by
  obtain ⟨fo, at_, B, ρ, E, h⟩ := h
  refine ⟨fo, at_, B, ρ, E, (Post.bind h).mono fun ds H1 s1 h1 xs a => ?_⟩
  obtain ⟨c, e1, h2⟩ := Post.op h1
  exact v _ H1 xs ds c Q (E.ext s1).al a e1 fun w H' s' q => h2 H' s' w q
theorem px_callB {x : Str} {po : Pos} {es : List Expr} {id : String} {r : List V → Hp → VK → Prop} {l : EF (List D)} {op : List D → Option D} (hc : CallR X (.builtin id) r) (v : VCa Y r op) (hg : Gl X x) (hm : X.mg x = none) (hv : bootBuiltins x = some (.builtin id)) (ha : PA X (a :: es) (tL Y W l))
    (hn : x ≠ "__name__" := by decide) (hdb : (x == ("__debug__" : Str)) = false := by decide) (he : starEach (a :: es) X.env = (false, eval a X.env) :: starEach es X.env := by rfl) (hpl : (backTo pos (starEach es X.env)).any (·.1) = false := by rfl) :
    PE X (.Call (.Name x po) (a :: es) [] pos) (tE Y W (ca l op)) := PE.imp (pe_callB hc hg hm hv ha hn hdb he hpl) fun σ H Q h => ca_rd v h
theorem px_callTy {x : Str} {po : Pos} {es : List Expr} {id : String} {r : List V → Hp → VK → Prop} {l : EF (List D)} {op : List D → Option D} (hc : CallR X (.type id) r) (v : VCa Y r op) (hg : Gl X x) (hm : X.mg x = none) (hv : bootBuiltins x = some (.type id)) (ha : PA X (a :: es) (tL Y W l))
    (hn : x ≠ "__name__" := by decide) (hdb : (x == ("__debug__" : Str)) = false := by decide) (he : starEach (a :: es) X.env = (false, eval a X.env) :: starEach es X.env := by rfl) (hpl : (backTo pos (starEach es X.env)).any (·.1) = false := by rfl) :
    PE X (.Call (.Name x po) (a :: es) [] pos) (tE Y W (ca l op)) := PE.imp (pe_callTy hc hg hm hv ha hn hdb he hpl) fun σ H Q h => ca_rd v h
/-! ### displays -/
def tupE (l : EF (List D)) : EF D := ca l fun ds => if ds.length ≤ cap then some (.tup ds) else none
theorem px_tup {es : List Expr} {k : Nat} {l : EF (List D)} (h : PA X es (tL Y W l)) : PE X (.Tuple es k pos) (tE Y W (tupE l)) := PE.imp (pe_tup h) fun σ H Q h => by
  refine ca_rd (r := fun xs H1 Q => xs.length ≤ sizeLine ∧ ∀ p, H1 p = none → Q (.ref p) (upd H1 p (.tup xs))) (fun hh H xs ds c Q al a e k => ?_) h
  by_cases z : ds.length ≤ cap
  · rw [if_pos z] at e; cases e
    rw [← a.length] at z
    exact ⟨by rw [← cap_eq]; exact z, fun p np => k _ _ (same_new np) ⟨p, xs, rfl, hd_new al np, z, a.same (hd_same (same_new np))⟩⟩
  · rw [if_neg z] at e; cases e
@[simp] def lstO (l : EF (List D)) : EF Sl := fun ρ => (l ρ).bind fun ds => if ds.length ≤ cap then .ok (.ol ds) else .bad
theorem po_lst {es : List Expr} {l : EF (List D)} (h : PA X es (tL Y W l)) : PE X (.List es pos) (tO Y W (lstO l)) := PE.imp (pe_lst h) fun σ H Q ⟨fo, at_, B, ρ, E, h⟩ =>
  ⟨fo, at_, B, ρ, E, (Post.bind h).mono fun ds H1 s1 h1 xs a => by
    by_cases z : ds.length ≤ cap
    · rw [if_pos z] at h1
      rw [← a.length] at z
      refine ⟨by rw [← cap_eq]; exact z, fun p np => ?_⟩
      have al := (E.ext s1).al
      have h2 := (h1 : Post Y W σ H1 (.ok (Sl.ol ds)) _) (upd H1 p (.lst xs)) (same_new np)
      refine h2 (.ref p) (some p) (fun b e => by cases e; exact s1.free np) ⟨p, xs, rfl, rfl, upd_same, z, a.same ?_⟩ (fun z => nomatch z)
      intro b o e
      obtain ⟨n, e⟩ := hd_some e
      have nb : b ≠ p := ne_of_none e np
      refine (hd_not ?_).trans ((upd_ne nb).trans e)
      rintro (m | m)
      · exact n m
      · cases m; exact nb rfl
    · rw [if_neg z] at h1; exact h1.elim⟩
/-- what is owned is looked at as data -/
@[simp] def fzE (f : EF Sl) : EF D := fun ρ => (f ρ).bind fun s => .ok (fz s)
theorem px_o {e : Expr} {f : EF Sl} (h : PE X e (tO Y W f)) : PE X e (tE Y W (fzE f)) := PE.imp h fun σ H Q ⟨fo, at_, B, ρ, E, h⟩ =>
  ⟨fo, at_, B, ρ, E, (Post.bind h).mono fun s H1 s1 h1 v oa new r hn => (h1 : Post Y W σ H1 (.ok (fz s)) _).now v (r.fz hn (hd_sub fun a m => .inl m) (fun a u e hu => (hd_not fun m => E.al a m (new a e)).trans hu) fun _ _ z => z.elim)⟩
/-- data where an owned thing might be -/
@[simp] def dtO (f : EF D) : EF Sl := fun ρ => (f ρ).bind fun d => .ok (.dat d)
/-- what is owned is looked at: the answer leans on nothing -/
@[simp] def scal : D → Bool
  | .non | .bl _ | .int _ | .str _ => true
  | _ => false
theorem scal_at {d : D} (h : PL.scal d = true) {G G' : Hp} {v : V} (a : At Y G v d) : At Y G' v d := by
  cases d <;> first | exact a | cases h
@[simp] def viewE (f : EF D) : EF D := fun ρ => (f (PL.view ρ)).bind fun d => if PL.scal d then .ok d else .bad
theorem px_view {e : Expr} (h : PE X e (tE Y W f)) : PE X e (tE Y W (viewE f)) := PE.imp h fun σ H Q ⟨fo, at_, B, ρ, E, h⟩ =>
  ⟨fo, _, H, _, E.view, (Post.bind h).mono fun d H1 s1 h1 v a => by
    by_cases z : PL.scal d = true
    · rw [if_pos z] at h1; exact (h1 : Post Y W σ H1 (.ok d) _).now v (scal_at z a)
    · rw [if_neg z] at h1; exact h1.elim⟩
end
end PL

/-! P3: statements with a mirror. -/
namespace PL
open PySem PySem.Spec L2

inductive Fl where
  | nx (ρ : List Sl) | ret (s : Sl) | brk (ρ : List Sl) | cnt (ρ : List Sl) | rs (ρ : List Sl) (c : Nat) (ps : D)
abbrev SF := List Sl → Option Fl
/-- what comes of an expression's result, at the environment ρ -/
def lf {α : Type} (m : R α) (ρ : List Sl) (k : α → Option Fl) : Option Fl := match m with
  | .ok a => k a
  | .ex c ps => some (.rs ρ c ps)
  | .bad => none
@[simp] theorem lf_ok {α : Type} (a : α) (ρ : List Sl) (k : α → Option Fl) : lf (.ok a) ρ k = k a := rfl
@[simp] theorem lf_ex {α : Type} (c : Nat) (ps : D) (ρ : List Sl) (k : α → Option Fl) : lf (.ex c ps) ρ k = some (.rs ρ c ps) := rfl
@[simp] theorem lf_bad {α : Type} (ρ : List Sl) (k : α → Option Fl) : lf (.bad) ρ k = none := rfl
/-- what is wanted behind a statement, over the base B -/
def PoS (Y : Yx) (W : WX) (fo : Addr → Prop) (B : Hp) (Dn : Ends) : Option Fl → Prop
  | some (.nx ρ) => ∀ at_ σ H, EnvO Y fo at_ B σ H ρ → Dn.nx σ H
  | some (.brk ρ) => ∀ at_ σ H, EnvO Y fo at_ B σ H ρ → Dn.bk σ H
  | some (.cnt ρ) => ∀ at_ σ H, EnvO Y fo at_ B σ H ρ → Dn.ct σ H
  | some (.ret s) => ∀ v H oa, Same B H → (∀ a, oa = some a → B a = none) → SlR Y noG (hd (fun a => fo a ∨ oa = some a) H) H (some v) s oa → s ≠ .no → Dn.rt v H
  | some (.rs ρ c ps) => ∀ at_ σ H H' dd, EnvO Y fo at_ B σ H ρ → Same H H' → ExD Y H H' dd ps → W (.ref (Y.cx c)) dd σ H'
  | none => False
def tS (Y : Yx) (W : WX) (F : SF) : TS := fun Dn σ H => ∃ (fo : Addr → Prop) (at_ : Nat → Option Addr) (B : Hp) (ρ : List Sl), EnvO Y fo at_ B σ H ρ ∧ PoS Y W fo B Dn (F ρ)
section
variable {Y : Yx} {W : WX} {fo : Addr → Prop} {at_ : Nat → Option Addr} {B B' : Hp} {Dn Dn' : Ends} {σ : L2.St} {H : Hp} {ρ : List Sl}
/-- an expression's result under a statement -/
theorem lf_post {α : Type} {m : R α} {k : α → Option Fl} (E : EnvO Y fo at_ B σ H ρ) (h : PoS Y W fo B Dn (lf m ρ k)) : Post Y W σ H m (fun a H' => EnvO Y fo at_ B σ H' ρ ∧ PoS Y W fo B Dn (k a)) := by
  cases m with
  | ok a => exact fun H' s => ⟨E.ext s, h⟩
  | ex c ps => exact fun dd H' s x => h at_ σ H H' dd E s x
  | bad => exact h
theorem EnvO.rebase (E : EnvO Y fo at_ B σ H ρ) : EnvO Y fo at_ (hd (fun a => ∃ i, at_ i = some a) H) σ H ρ :=
  ⟨hd_le, E.fin, E.dj, E.df, fun i a h => by unfold hd; rw [if_pos ⟨i, h⟩], E.len, E.gt, E.sl⟩
theorem EnvO.inBase (E : EnvO Y fo at_ B σ H ρ) : Same B (hd (fun a => ∃ i, at_ i = some a) H) := fun b o e => by
  rw [hd_not (fun ⟨i, h⟩ => by rw [E.nw i b h] at e; cases e)]; exact E.same b o e
theorem EnvO.base (E : EnvO Y fo at_ B' σ H ρ) (s : Same B B') : EnvO Y fo at_ B σ H ρ :=
  ⟨s.trans E.same, E.fin, E.dj, E.df, fun i a h => s.free (E.nw i a h), E.len, E.gt, E.sl⟩
/-- another base, other ends -/
theorem PoS.to {o : Option Fl} (s : Same B B') (h : PoS Y W fo B Dn o) (h1 : ∀ ρ', o = some (.nx ρ') → ∀ at_ σ H, EnvO Y fo at_ B' σ H ρ' → Dn'.nx σ H) (h2 : ∀ ρ', o = some (.brk ρ') → ∀ at_ σ H, EnvO Y fo at_ B' σ H ρ' → Dn'.bk σ H)
    (h3 : ∀ ρ', o = some (.cnt ρ') → ∀ at_ σ H, EnvO Y fo at_ B' σ H ρ' → Dn'.ct σ H) (hr : Dn'.rt = Dn.rt) : PoS Y W fo B' Dn' o := by
  cases o with
  | none => exact h
  | some f =>
    cases f with
    | nx ρ' => exact h1 ρ' rfl
    | brk ρ' => exact h2 ρ' rfl
    | cnt ρ' => exact h3 ρ' rfl
    | ret x => intro v H oa sm new r hn; rw [hr]; exact h v H oa (s.trans sm) (fun a e => s.free (new a e)) r hn
    | rs ρ' c ps => exact fun a σ' H' H2 dd E s2 x => h a σ' H' H2 dd (E.base s) s2 x
variable {X : Cx} {e : Expr} {f : EF D} {g : EF Sl} {F G : SF} {st : Stmt} {rest : List Stmt}
@[simp] def nxF : SF := fun ρ => some (.nx ρ)
@[simp] def seqF (F G : SF) : SF := fun ρ => match F ρ with
  | some (.nx ρ') => G ρ'
  | o => o
theorem sx_nil : PSs X [] (tS Y W nxF) := PSs.imp pss_nil fun Dn σ H ⟨fo, at_, B, ρ, E, h⟩ => h at_ σ H E
theorem sx_cons (h1 : PS X st (tS Y W F)) (h2 : PSs X rest (tS Y W G)) : PSs X (st :: rest) (tS Y W (seqF F G)) := PSs.imp (pss_cons h1 h2) fun Dn σ H ⟨fo, at_, B, ρ, E, h⟩ =>
  ⟨fo, at_, B, ρ, E, by
    unfold seqF at h
    cases e : F ρ with
    | none => rw [e] at h; exact h
    | some o =>
      rw [e] at h
      cases o with
      | nx ρ' => exact fun a σ' H' E' => ⟨fo, a, B, ρ', E', h⟩
      | _ => exact h⟩
theorem sx_one (h1 : PS X st (tS Y W F)) : PSs X [st] (tS Y W F) := PSs.imp (pss_one h1) fun Dn σ H q => q
def bkF : SF := fun ρ => some (.brk ρ)
def ctF : SF := fun ρ => some (.cnt ρ)
theorem sx_break {pos : Pos} : PS X (.Break pos) (tS Y W bkF) := PS.imp ps_break fun Dn σ H ⟨fo, at_, B, ρ, E, h⟩ => h at_ σ H E
theorem sx_continue {pos : Pos} : PS X (.Continue pos) (tS Y W ctF) := PS.imp ps_continue fun Dn σ H ⟨fo, at_, B, ρ, E, h⟩ => h at_ σ H E
theorem sx_pass {pos : Pos} : PS X (.Pass pos) (tS Y W nxF) := PS.imp ps_pass fun Dn σ H ⟨fo, at_, B, ρ, E, h⟩ => h at_ σ H E
/-- an expression alone -/
@[simp] def exF (f : EF D) : SF := fun ρ => lf (f ρ) ρ fun _ => some (.nx ρ)
theorem sx_expr {pos : Pos} (he : PE X e (tE Y W f)) (hs : swapsWith e none pos.line X.env = pure false := by rfl) : PS X (.Expr e pos) (tS Y W (exF f)) := PS.imp (ps_expr he hs) fun Dn σ H ⟨fo, at_, B, ρ, E, h⟩ =>
  ⟨fo, at_, B, ρ, E, (lf_post E h).mono fun d H1 s1 ⟨E1, h1⟩ v a => h1 at_ σ H1 E1⟩
@[simp] def rtF (f : EF D) : SF := fun ρ => lf (f ρ) ρ fun d => some (.ret (.dat d))
theorem sx_ret {pos : Pos} (he : PE X e (tE Y W f)) : PS X (.Return (some e) pos) (tS Y W (rtF f)) := PS.imp (ps_ret he) fun Dn σ H ⟨fo, at_, B, ρ, E, h⟩ =>
  ⟨fo, at_, B, ρ, E, (lf_post E h).mono fun d H1 s1 ⟨E1, h1⟩ v a => h1 v H1 none E1.same (fun _ e => nomatch e) ⟨rfl, v, rfl, a.same (hd_sub fun b m => m.elim .inl fun z => nomatch z)⟩ (fun z => nomatch z)⟩
@[simp] def rtoF (g : EF Sl) : SF := fun ρ => lf (g ρ) ρ fun s => some (.ret s)
theorem sx_reto {pos : Pos} (he : PE X e (tO Y W g)) : PS X (.Return (some e) pos) (tS Y W (rtoF g)) := PS.imp (ps_ret he) fun Dn σ H ⟨fo, at_, B, ρ, E, h⟩ =>
  ⟨fo, at_, B, ρ, E, (lf_post E h).mono fun s H1 s1 ⟨E1, h1⟩ v oa new r hn => h1 v H1 oa E1.same (fun a e => E.same.free (new a e)) (r.mono (hd_sub fun b m => m.elim (fun z => .inl (.inl z)) .inr) (fun _ _ _ z => z) (fun _ z => z) fun _ _ _ z => z) hn⟩
/-- return x, x owned: it goes out as it is -/
def retable : Sl → Bool
  | .no => false
  | .oA _ => false
  | .oD _ => false
  | _ => true
theorem SlR.noGs {Y : Yx} {gs : Addr → Prop} {G H : Hp} {v : Option V} {s : Sl} {o : Option Addr} (h : retable s = true) (r : SlR Y gs G H v s o) : SlR Y noG G H v s o := by
  cases s <;> first | exact r | cases h
def rtvF (i : Nat) : SF := fun ρ => match ρ[i]? with
  | some s => if retable s = true then some (.ret s) else none
  | none => none
theorem sx_retv {pos : Pos} {i : Nat} (he : PE X e (tVar i)) : PS X (.Return (some e) pos) (tS Y W (rtvF i)) := PS.imp (ps_ret he) fun Dn σ H ⟨fo, at_, B, ρ, E, h⟩ => by
  unfold rtvF at h
  cases e : ρ[i]? with
  | none => rw [e] at h; exact h.elim
  | some s =>
    rw [e] at h
    have r := E.sl i s e
    dsimp only at h
    by_cases hr : retable s = true
    · rw [if_pos hr] at h
      have hn : s ≠ .no := fun z => by rw [z] at hr; cases hr
      obtain ⟨v, hv⟩ := r.val hn
      have hv2 : (σ[i]?).join = some v := by rw [hv]; rfl
      rw [hv2] at r
      exact ⟨v, hv, h v H (at_ i) E.same (fun a q => E.nw i a q) ((r.noGs hr).mono (hd_sub fun b m => m.elim .inl fun z => .inr ⟨i, z⟩) (fun _ _ _ z => z) (fun _ z => z) fun _ _ _ z => z) hn⟩
    · rw [if_neg hr] at h; exact h.elim
@[simp] def rnF : SF := fun _ => some (.ret (.dat .non))
theorem sx_retn {pos : Pos} : PS X (.Return none pos) (tS Y W rnF) := PS.imp ps_retN fun Dn σ H ⟨fo, at_, B, ρ, E, h⟩ =>
  h .non H none E.same (fun _ e => nomatch e) ⟨rfl, _, rfl, rfl⟩ (fun z => nomatch z)
/-- x = e -/
@[simp] def stF (i : Nat) (f : EF D) : SF := fun ρ => lf (f ρ) ρ fun d => if i < ρ.length then some (.nx (ρ.set i (.dat d))) else none
theorem sx_setG {i : Nat} {te : TE} (h : PS X st (tAsg te (gName i))) (k : ∀ σ H Q, tE Y W f σ H Q → te σ H Q) : PS X st (tS Y W (stF i f)) := PS.imp h fun Dn σ H ⟨fo, at_, B, ρ, E, h⟩ =>
  k _ _ _ ⟨fo, at_, B, ρ, E, (lf_post E h).mono fun d H1 s1 ⟨E1, h1⟩ v a => by
    by_cases z : i < ρ.length
    · rw [if_pos z] at h1; exact h1 _ _ H1 (E1.putD (Same.refl H1) z a)
    · rw [if_neg z] at h1; exact h1.elim⟩
theorem sx_set {i : Nat} {x : Str} {pos pos' : Pos} (hN : X.N.Nodup) (hi : X.N[i]? = some x) (hx : Loc X.env.scope x) (he : PE X e (tE Y W f)) (hs : swapsWith e (some (.Name x pos')) pos.line X.env = pure false := by rfl) (hf : X.fn x = true ∨ X.env.scope.names.lookup x = some .local := by first | exact .inl rfl | exact .inr rfl | assumption) :
    PS X (.Assign [.Name x pos'] e pos) (tS Y W (stF i f)) := sx_setG (ps_set hN hi hx he hs hf) fun _ _ _ q => q
/-- x = e, an owned thing -/
@[simp] def soF (i : Nat) (g : EF Sl) : SF := fun ρ => lf (g ρ) ρ fun s => if i < ρ.length then some (.nx (ρ.set i s)) else none
theorem sx_setOG {i : Nat} {te : TE} (h : PS X st (tAsg te (gName i))) (k : ∀ σ H Q, tO Y W g σ H Q → te σ H Q) : PS X st (tS Y W (soF i g)) := PS.imp h fun Dn σ H ⟨fo, at_, B, ρ, E, h⟩ =>
  k _ _ _ ⟨fo, at_, B, ρ, E, (lf_post E h).mono fun s H1 s1 ⟨E1, h1⟩ v oa new r hn => by
    by_cases z : i < ρ.length
    · rw [if_pos z] at h1
      refine h1 _ _ H1 (E.put s1 z new (r.mono (hd_sub fun b m => ?_) (fun _ _ _ z => z) (fun _ z => z) fun _ _ _ z => z))
      rcases m with m | ⟨k, m⟩
      · exact .inl (.inl m)
      · by_cases hk : k = i
        · rw [hk, seta_same] at m; exact .inr m
        · rw [seta_ne hk] at m; exact .inl (.inr ⟨k, m⟩)
    · rw [if_neg z] at h1; exact h1.elim⟩
theorem sx_setO {i : Nat} {x : Str} {pos pos' : Pos} (hN : X.N.Nodup) (hi : X.N[i]? = some x) (hx : Loc X.env.scope x) (he : PE X e (tO Y W g)) (hs : swapsWith e (some (.Name x pos')) pos.line X.env = pure false := by rfl) (hf : X.fn x = true ∨ X.env.scope.names.lookup x = some .local := by first | exact .inl rfl | exact .inr rfl | assumption) :
    PS X (.Assign [.Name x pos'] e pos) (tS Y W (soF i g)) := sx_setOG (ps_set hN hi hx he hs hf) fun _ _ _ q => q
/-- a ghost: slot i is given out of hand -/
def frz (i : Nat) (ρ : List Sl) : List Sl := match ρ[i]? with
  | some .no => ρ
  | some s => ρ.set i (.dat (fz s))
  | none => ρ
theorem EnvO.frz {i : Nat} (E : EnvO Y fo at_ B σ H ρ) : ∃ at_, EnvO Y fo at_ B σ H (PL.frz i ρ) := by
  unfold PL.frz
  cases e : ρ[i]? with
  | none => exact ⟨_, E⟩
  | some s =>
    cases s with
    | no => exact ⟨_, E⟩
    | dat d => exact ⟨_, E.freeze e (fun z => nomatch z)⟩
    | ol d => exact ⟨_, E.freeze e (fun z => nomatch z)⟩
    | oK d => exact ⟨_, E.freeze e (fun z => nomatch z)⟩
    | oT d => exact ⟨_, E.freeze e (fun z => nomatch z)⟩
    | oI a d => exact ⟨_, E.freeze e (fun z => nomatch z)⟩
    | oA d => exact ⟨_, E.freeze e (fun z => nomatch z)⟩
    | oD d => exact ⟨_, E.freeze e (fun z => nomatch z)⟩
    | oE c d => exact ⟨_, E.freeze e (fun z => nomatch z)⟩
theorem sx_frz {i : Nat} (h : PS X st (tS Y W F)) : PS X st (tS Y W (fun ρ => F (PL.frz i ρ))) := PS.imp h fun Dn σ H ⟨fo, at_, B, ρ, E, h⟩ => by
  obtain ⟨a, E'⟩ := E.frz (i := i)
  exact ⟨fo, a, B, _, E', h⟩
/-- if -/
@[simp] def ifF (p : EF Bool) (F G : SF) : SF := fun ρ => lf (p ρ) ρ fun b => if b = true then F ρ else G ρ
theorem sx_if {c : Expr} {a b : List Stmt} {p : EF Bool} {pos : Pos} (hc : PT X c (tT Y W p)) (ha : PSs X a (tS Y W F)) (hb : PSs X b (tS Y W G)) : PS X (.If c a b pos) (tS Y W (ifF p F G)) := PS.imp (ps_if hc ha hb) fun Dn σ H ⟨fo, at_, B, ρ, E, h⟩ =>
  ⟨fo, at_, B, ρ, E, (lf_post E h).mono fun b H1 s1 ⟨E1, h1⟩ => by
    cases b with
    | true => rw [if_pos rfl] at h1 ⊢; exact ⟨fo, at_, B, ρ, E1, h1⟩
    | false => rw [if_neg Bool.false_ne_true] at h1 ⊢; exact ⟨fo, at_, B, ρ, E1, h1⟩⟩
/-- raise C('..') -/
@[simp] def raF (c : Nat) : SF := fun ρ => some (.rs ρ c .non)
theorem sx_raise {c : Nat} {pos : Pos} (hc : X.calm = true) (tk : Takes X W) (he : PMk X e (fun _ H Q => Q (.ref (Y.cx c)) none H)) : PS X (.Raise (some e) none pos) (tS Y W (raF c)) := PS.imp (ps_raise hc tk he) fun Dn σ H ⟨fo, at_, B, ρ, E, h⟩ =>
  h at_ σ H H none E (Same.refl H) (.inl ⟨rfl, rfl⟩)
/-! ### targets -/
abbrev BF := D → List Sl → Option (List Sl)
/-- the slots bs own nothing -/
def clr (at_ : Nat → Option Addr) (bs : List Nat) : Nat → Option Addr := fun i => if i ∈ bs then none else at_ i
theorem clr_in {at_ : Nat → Option Addr} {bs : List Nat} {i : Nat} (h : i ∈ bs) : clr at_ bs i = none := if_pos h
theorem clr_out {at_ : Nat → Option Addr} {bs : List Nat} {i : Nat} (h : i ∉ bs) : clr at_ bs i = at_ i := if_neg h
theorem clr_hid {fo : Addr → Prop} {at_ : Nat → Option Addr} {bs : List Nat} : ∀ a, hid fo (clr at_ bs) a → hid fo at_ a := fun a m => m.elim .inl fun ⟨k, m⟩ => by
  by_cases hk : k ∈ bs
  · rw [clr_in hk] at m; cases m
  · rw [clr_out hk] at m; exact .inr ⟨k, m⟩
theorem clr_clr {at_ : Nat → Option Addr} {bs bs' : List Nat} : clr (clr at_ bs) bs' = clr at_ (bs ++ bs') := by
  funext i
  by_cases h1 : i ∈ bs'
  · rw [clr_in h1, clr_in (List.mem_append_right _ h1)]
  · rw [clr_out h1]
    by_cases h2 : i ∈ bs
    · rw [clr_in h2, clr_in (List.mem_append_left _ h2)]
    · rw [clr_out h2, clr_out (fun m => (List.mem_append.mp m).elim h2 h1)]
theorem clr_one {at_ : Nat → Option Addr} {i : Nat} : clr at_ [i] = seta at_ i none := by
  funext j
  by_cases h : j = i
  · rw [h, clr_in (by simp), seta_same]
  · rw [clr_out (by simpa using h), seta_ne h]
theorem clr_nil {at_ : Nat → Option Addr} : clr at_ [] = at_ := by
  funext j
  rw [clr_out (by simp)]
/-- a target that changes the slots bs alone -/
def TgR (Y : Yx) (t : TG) (bs : List Nat) (b : BF) : Prop := ∀ (fo : Addr → Prop) (at_ : Nat → Option Addr) (B : Hp) (σ : L2.St) (H : Hp) (ρ : List Sl) (x : V) (d : D) (ρ' : List Sl) (Q : L2.St → Hp → Prop), EnvO Y fo at_ B σ H ρ →
  At Y (hd (hid fo at_) H) x d → b d ρ = some ρ' → (∀ σ', EnvO Y fo (clr at_ bs) B σ' H ρ' → σ'.length = σ.length → (∀ i, i ∉ bs → σ'[i]? = σ[i]?) → Q σ' H) → t x σ H Q
def TgsR (Y : Yx) (t : TGs) (bs : List Nat) (b : List D → List Sl → Option (List Sl)) : Prop := ∀ (fo : Addr → Prop) (at_ : Nat → Option Addr) (B : Hp) (σ : L2.St) (H : Hp) (ρ : List Sl) (xs : List V) (ds : List D) (ρ' : List Sl) (Q : L2.St → Hp → Prop), EnvO Y fo at_ B σ H ρ →
  AtL Y (hd (hid fo at_) H) xs ds → b ds ρ = some ρ' → (∀ σ', EnvO Y fo (clr at_ bs) B σ' H ρ' → σ'.length = σ.length → (∀ i, i ∉ bs → σ'[i]? = σ[i]?) → Q σ' H) → t xs σ H Q
def bN (i : Nat) : BF := fun d ρ => if i < ρ.length then some (ρ.set i (.dat d)) else none
theorem tg_name {i : Nat} : TgR Y (gName i) [i] (bN i) := fun fo at_ B σ H ρ x d ρ' Q E a e k => by
  unfold bN at e
  by_cases z : i < ρ.length
  · rw [if_pos z] at e; cases e
    refine k _ (by rw [clr_one]; exact E.putD (Same.refl H) z a) (by simp) fun j hj => ?_
    rw [List.getElem?_set_ne (fun q => hj (by simp [q]))]
  · rw [if_neg z] at e; cases e
def bsNil : List D → List Sl → Option (List Sl) := fun ds ρ => match ds with
  | [] => some ρ
  | _ => none
def bsCons (b : BF) (r : List D → List Sl → Option (List Sl)) : List D → List Sl → Option (List Sl) := fun ds ρ => match ds with
  | d :: ds => (b d ρ).bind fun ρ' => r ds ρ'
  | [] => none
theorem tgs_nil : TgsR Y gNil [] bsNil := fun fo at_ B σ H ρ xs ds ρ' Q E a e k => by
  cases ds with
  | nil => cases e; exact ⟨a, k σ (by rw [clr_nil]; exact E) rfl fun _ _ => rfl⟩
  | cons d ds => cases e
theorem tgs_cons {t : TG} {u : TGs} {bs bs' : List Nat} {b : BF} {r : List D → List Sl → Option (List Sl)} (h1 : TgR Y t bs b) (h2 : TgsR Y u bs' r) : TgsR Y (gCons t u) (bs ++ bs') (bsCons b r) := fun fo at_ B σ H ρ xs ds ρ' Q E a e k => by
  cases ds with
  | nil => cases e
  | cons d ds =>
    obtain ⟨v, q, rfl, a1, a2⟩ := a
    unfold bsCons at e
    obtain ⟨ρ1, e1, e2⟩ := Option.bind_eq_some_iff.mp e
    refine ⟨v, q, rfl, h1 fo at_ B σ H ρ v d ρ1 _ E a1 e1 fun σ1 E1 l1 u1 => ?_⟩
    refine h2 fo _ B σ1 H ρ1 q ds ρ' _ E1 (a2.same (hd_sub clr_hid)) e2 fun σ2 E2 l2 u2 => ?_
    exact k σ2 (by rw [← clr_clr]; exact E2) (l2.trans l1) fun i hi => (u2 i fun z => hi (List.mem_append_right _ z)).trans (u1 i fun z => hi (List.mem_append_left _ z))
def bT (r : List D → List Sl → Option (List Sl)) : BF := fun d ρ => match d with
  | .tup ds => r ds ρ
  | _ => none
/-- a tuple, of n parts -/
def lenIs (n : Nat) (r : List D → List Sl → Option (List Sl)) : Prop := ∀ ds ρ ρ', r ds ρ = some ρ' → ds.length = n
theorem lenNil : lenIs 0 bsNil := fun ds ρ ρ' e => by
  cases ds with
  | nil => rfl
  | cons d ds => cases e
theorem lenCons {n : Nat} {b : BF} {r : List D → List Sl → Option (List Sl)} (h : lenIs n r) : lenIs (n + 1) (bsCons b r) := fun ds ρ ρ' e => by
  cases ds with
  | nil => cases e
  | cons d ds =>
    obtain ⟨ρ1, e1, e2⟩ := Option.bind_eq_some_iff.mp e
    simp [h _ _ _ e2]
theorem tg_tup {n : Nat} {t : TGs} {bs : List Nat} {r : List D → List Sl → Option (List Sl)} (h : TgsR Y t bs r) (hl : lenIs n r) : TgR Y (gTup Y.K n t) bs (bT r) := fun fo at_ B σ H ρ x d ρ' Q E a e k => by
  cases d with
  | tup ds =>
    obtain ⟨b, vs, rfl, q, z, al⟩ := a
    exact ⟨b, vs, rfl, SqT.of (hd_le _ _ q), al.length.trans (hl _ _ _ e), h fo at_ B σ H ρ vs ds ρ' Q E al e k⟩
  | _ => cases e
/-! ### what is walked -/
/-- what J gives, while the heap B' stands -/
def Items (Y : Yx) (B' : Hp) (J : It) (ds : List D) : Prop := ∃ (G : Hp → Prop) (Yd : Nat → Hp → V → Hp → Prop), Walk J ds.length G Yd ∧ (∀ H1, Same B' H1 → G H1) ∧
  ∀ i H1 x H2 (h : Addr → Prop), i < ds.length → Same B' (hd h H1) → Al h H1 → Yd i H1 x H2 → Same H1 H2 ∧ ∃ d, ds[i]? = some d ∧ At Y (hd h H2) x d
def tI (Y : Yx) (W : WX) (f : EF (List D)) : TI := fun σ H Rr => ∃ (fo : Addr → Prop) (at_ : Nat → Option Addr) (B : Hp) (ρ : List Sl), EnvO Y fo at_ B σ H ρ ∧
  Post Y W σ H (f ρ) (fun ds H' => ∀ J, Items Y (hd (hid fo at_) H') J ds → Rr J H')
def forGo (b : BF) (F : SF) : List D → SF
  | [], ρ => some (.nx ρ)
  | d :: ds, ρ => match b d ρ with
    | none => none
    | some ρ1 => match F ρ1 with
      | some (.nx ρ') => forGo b F ds ρ'
      | some (.cnt ρ') => forGo b F ds ρ'
      | some (.brk ρ') => some (.nx ρ')
      | o => o
def forF (l : EF (List D)) (b : BF) (F : SF) : SF := fun ρ => lf (l ρ) ρ fun ds => forGo b F ds ρ
theorem sx_for {tg iter : Expr} {body : List Stmt} {g : TG} {l : EF (List D)} {bs : List Nat} {b : BF} {pos : Pos} (hp : PassesOwn (model X.prog X.w) X.A X.env X.xe) (hc : X.calm = true) (hi : PI X tg iter (tI Y W l)) (hg : PG X tg g) (ht : TgR Y g bs b) (hb : PSs X body (tS Y W F))
    (hs : ∀ x, foldedSetIterable iter X.env x = pure x := by intro _; rfl) : PS X (.For tg iter body [] pos) (tS Y W (forF l b F)) := PS.imp (ps_for hp hc hi hg hb hs) fun Dn σ H ⟨fo, at_, B, ρ, E, h⟩ => by
  refine ⟨fo, at_, B, ρ, E, (lf_post E h).mono fun ds H1 s1 ⟨E1, h1⟩ J it => ?_⟩
  obtain ⟨G, Yd, w, hG, hY⟩ := it
  have sB : Same (hd (hid fo at_) H1) (hd (fun a => ∃ i, at_ i = some a) H1) := hd_sub fun a m => .inr m
  have iB := E1.inBase
  have E2 := E1.rebase
  refine for_it w (fun i σ' H' => ∃ at' ρ', EnvO Y fo at' (hd (fun a => ∃ i, at_ i = some a) H1) σ' H' ρ' ∧ PoS Y W fo B Dn (forGo b F (ds.drop i) ρ')) ⟨at_, ρ, E2, h1⟩ (fun i σ' H' _ ⟨at', ρ', E', _⟩ => hG H' (sB.trans E'.same)) ?_ ?_
  · rintro i x σ' H' H2 hi ⟨at', ρ', E', p⟩ y
    have s3 : Same (hd (hid fo at_) H1) (hd (hid fo at') H') := fun c o e => by
      obtain ⟨n, e⟩ := hd_some e
      have e3 : hd (fun a => ∃ i, at_ i = some a) H1 c = some o := (hd_not fun m => n (.inr m)).trans e
      refine (hd_not ?_).trans (E'.same c o e3)
      rintro (m | ⟨k, m⟩)
      · exact n (.inl m)
      · rw [E'.nw k c m] at e3; cases e3
    obtain ⟨s2, d, ed, ad⟩ := hY i H' x H2 (hid fo at') hi s3 E'.al y
    rw [List.drop_eq_getElem_cons hi] at p
    have ed' : ds[i] = d := by rw [List.getElem?_eq_getElem hi] at ed; exact Option.some.inj ed
    rw [ed'] at p
    unfold forGo at p
    cases eb : b d ρ' with
    | none => rw [eb] at p; exact p.elim
    | some ρ1 =>
      rw [eb] at p
      refine ht fo at' _ σ' H2 ρ' x d ρ1 _ (E'.ext s2) ad eb fun σ2 E3 _ _ => ⟨fo, _, _, ρ1, E3, ?_⟩
      dsimp only at p
      cases eF : F ρ1 with
      | none => rw [eF] at p; exact p
      | some o =>
        rw [eF] at p
        cases o with
        | nx r => exact fun a σ4 H4 E4 => ⟨a, r, E4, p⟩
        | cnt r => exact fun a σ4 H4 E4 => ⟨a, r, E4, p⟩
        | brk r => exact fun a σ4 H4 E4 => p a σ4 H4 (E4.base iB)
        | ret s => exact fun v H oa sm new r hn => p v H oa (iB.trans sm) (fun a e => iB.free (new a e)) r hn
        | rs r c ps => exact fun a σ' H' H2 dd E4 s4 x => p a σ' H' H2 dd (E4.base iB) s4 x
  · rintro σ' H' ⟨at', ρ', E', p⟩
    rw [List.drop_length] at p
    exact p at' σ' H' (E'.base iB)
/-! ### while -/
def whN : Nat → EF Bool → SF → SF
  | 0, _, _, _ => none
  | n + 1, c, F, ρ => lf (c ρ) ρ fun b => if b = true then (match F ρ with
      | some (.nx ρ') => whN n c F ρ'
      | some (.cnt ρ') => whN n c F ρ'
      | some (.brk ρ') => some (.nx ρ')
      | o => o) else some (.nx ρ)
open Classical in
noncomputable def whF (c : EF Bool) (F : SF) : SF := fun ρ => if h : ∃ n, (whN n c F ρ).isSome then whN h.choose c F ρ else none
theorem sx_while {c : Expr} {body : List Stmt} {p : EF Bool} {pos : Pos} (hp : PassesOwn (model X.prog X.w) X.A X.env X.xe) (hc : PT X c (tT Y W p)) (hb : PSs X body (tS Y W F)) : PS X (.While c body [] pos) (tS Y W (whF p F)) := PS.imp (ps_while hp hc hb) fun Dn σ H ⟨fo, at_, B, ρ, E, h⟩ => by
  unfold whF at h
  split at h
  · rename_i hn
    refine ⟨fun m σ' H' => ∃ at' ρ', EnvO Y fo at' B σ' H' ρ' ∧ PoS Y W fo B Dn (whN m p F ρ'), ⟨_, at_, ρ, E, h⟩, ?_⟩
    rintro m σ' H' ⟨at', ρ', E', q⟩
    cases m with
    | zero => exact q.elim
    | succ m =>
      unfold whN at q
      refine ⟨fo, at', B, ρ', E', (lf_post E' q).mono fun b H1 s1 ⟨E1, h1⟩ => ?_⟩
      cases b with
      | true =>
        rw [if_pos rfl] at h1 ⊢
        refine ⟨fun σ2 H2 => ∃ at2 ρ2, EnvO Y fo at2 B σ2 H2 ρ2 ∧ PoS Y W fo B Dn (whN m p F ρ2), fun σ2 H2 q2 => ⟨m, Nat.lt_succ_self m, q2⟩, fo, at', B, ρ', E1, ?_⟩
        cases eF : F ρ' with
        | none => rw [eF] at h1; exact h1
        | some o =>
          rw [eF] at h1
          cases o with
          | nx r => exact fun a σ4 H4 E4 => ⟨a, r, E4, h1⟩
          | cnt r => exact fun a σ4 H4 E4 => ⟨a, r, E4, h1⟩
          | brk r => exact h1
          | ret s => exact h1
          | rs r c ps => exact h1
      | false =>
        rw [if_neg Bool.false_ne_true] at h1 ⊢
        exact h1 at' σ' H1 E1
  · exact h.elim
end
end PL

/-! P4: comprehensions, defs and their calls. -/
namespace PL
open PySem PySem.Spec L2

abbrev W0 : WX := fun _ _ _ _ => False
/-! ### comprehensions -/
def wipeS (ρ : List Sl) : List Nat → List Sl
  | [] => ρ
  | v :: vs => (wipeS ρ vs).set v .no
def okW (ρ : List Sl) (vs : List Nat) : Bool := vs.all fun v => match ρ[v]? with
  | some .no => true
  | some (.dat _) => true
  | _ => false
section
variable {Y : Yx} {W : WX} {fo : Addr → Prop} {at_ : Nat → Option Addr} {B : Hp} {σ : L2.St} {H : Hp} {ρ : List Sl}
theorem wipeS_length : ∀ vs : List Nat, (wipeS ρ vs).length = ρ.length
  | [] => rfl
  | v :: vs => by unfold wipeS; rw [List.length_set, wipeS_length vs]
theorem EnvO.wiped (E : EnvO Y fo at_ B σ H ρ) : ∀ {vs : List Nat}, okW ρ vs = true → EnvO Y fo at_ B (wipe σ vs) H (wipeS ρ vs)
  | [], _ => E
  | v :: vs, h => by
    unfold okW at h
    rw [List.all_cons, Bool.and_eq_true] at h
    have E1 := EnvO.wiped E (vs := vs) h.2
    unfold wipeS wipe
    have hv : v < ρ.length := by
      cases e : ρ[v]? with
      | none => rw [e] at h; exact absurd h.1 Bool.false_ne_true
      | some s => exact (List.getElem?_eq_some_iff.mp e).1
    have E2 := E1.putN (i := v) (v := none) (by rw [wipeS_length]; exact hv)
    have ea : seta at_ v none = at_ := by
      funext j
      by_cases hj : j = v
      · rw [hj, seta_same]
        have r := E.sl v _ (List.getElem?_eq_getElem hv)
        have h1 := h.1
        rw [List.getElem?_eq_getElem hv] at h1
        cases es : ρ[v] with
        | no => rw [es] at r; exact r.symm
        | dat d => rw [es] at r; exact r.1.symm
        | _ => rw [es] at h1; exact absurd h1 Bool.false_ne_true
      · rw [seta_ne hj]
    rw [ea] at E2
    exact E2
def oc : Option D → List D → List D
  | some x, l => x :: l
  | none, l => l
@[simp] theorem oc_some (x : D) (l : List D) : oc (some x) l = x :: l := rfl
@[simp] theorem oc_none (l : List D) : oc none l = l := rfl
def lcGo (step : D → R (Option D)) : List D → R (List D)
  | [] => .ok []
  | d :: ds => (step d).bind fun o => (lcGo step ds).bind fun l => .ok (oc o l)
def lcSt (vs : List Nat) (b : BF) (tt : EF Bool) (f : EF D) (ρ : List Sl) (d : D) : R (Option D) := match b d (wipeS ρ vs) with
  | none => .bad
  | some ρ1 => noEx ((tt ρ1).bind fun c => if c = true then (f ρ1).bind fun x => .ok (some x) else .ok none)
def lcF (vs : List Nat) (l : EF (List D)) (b : BF) (tt : EF Bool) (f : EF D) : EF Sl := fun ρ => (l ρ).bind fun ds =>
  if okW ρ vs = true ∧ ds.length ≤ cap then (lcGo (lcSt vs b tt f ρ) ds).bind fun xs => .ok (.ol xs) else .bad
def yesT : EF Bool := fun _ => .ok true
theorem noEx_some {α : Type} {m : R α} {a : α} (h : noEx m = .ok a) : m = .ok a := by
  cases m with
  | ok b => exact h
  | ex c ps => cases h
  | bad => cases h
theorem wipe_eq {σ' : L2.St} {vs bs : List Nat} (hl : σ'.length = (wipe σ vs).length) (h : ∀ i, i ∉ bs → σ'[i]? = (wipe σ vs)[i]?) (sub : ∀ i ∈ bs, i ∈ vs) : wipe σ' vs = wipe σ vs := by
  have wi : ∀ (τ : L2.St) (vs : List Nat) (i : Nat), i ∈ vs → i < τ.length → (wipe τ vs)[i]? = some none := by
    intro τ vs
    induction vs with
    | nil => intro i h; cases h
    | cons v vs ih =>
      intro i h hl
      unfold wipe
      by_cases hv : v = i
      · rw [hv, List.getElem?_set_self (by rw [wipe_length]; exact hl)]
      · rw [List.getElem?_set_ne hv]
        rcases List.mem_cons.mp h with e | m
        · exact absurd e.symm hv
        · exact ih i m hl
  have wo : ∀ (τ : L2.St) (vs : List Nat) (i : Nat), i ∉ vs → (wipe τ vs)[i]? = τ[i]? := by
    intro τ vs
    induction vs with
    | nil => intro i _; rfl
    | cons v vs ih =>
      intro i h
      unfold wipe
      rw [List.getElem?_set_ne (fun e => h (by simp [e]))]
      exact ih i fun m => h (List.mem_cons_of_mem _ m)
  rw [wipe_length] at hl
  apply List.ext_getElem?
  intro i
  by_cases hi : i ∈ vs
  · by_cases hn : i < σ.length
    · rw [wi σ' vs i hi (by rw [hl]; exact hn), wi σ vs i hi hn]
    · rw [List.getElem?_eq_none (by rw [wipe_length, hl]; omega), List.getElem?_eq_none (by rw [wipe_length]; omega)]
  · rw [wo σ' vs i hi, h i (fun m => hi (sub i m))]
theorem lc_rd {wi : TI} {g : TG} {t : TT} {te : TE} {vs bs : List Nat} {l : EF (List D)} {b : BF} {tt : EF Bool} {f : EF D} (hw : ∀ Rr, tI Y W l σ H Rr → wi σ H Rr) (ht : TgR Y g bs b) (sub : ∀ i ∈ bs, i ∈ vs) (ct : ∀ σ H Q, tT Y W0 tt σ H Q → t σ H Q) (ce : ∀ σ H Q, tE Y W0 f σ H Q → te σ H Q)
    {Q : VK} (h : tO Y W (lcF vs l b tt f) σ H Q) : tLc wi g t te vs σ H Q := by
  obtain ⟨fo, at_, B, ρ, E, h⟩ := h
  refine hw _ ⟨fo, at_, B, ρ, E, (Post.bind h).mono fun ds H1 s1 h1 J it Da nD => ?_⟩
  by_cases ok : okW ρ vs = true ∧ ds.length ≤ cap
  case neg => rw [if_neg ok] at h1; exact h1.elim
  rw [if_pos ok] at h1
  obtain ⟨G, Yd, w, hG, hY⟩ := it
  have E1 := E.ext s1
  have E2 := E1.wiped ok.1
  cases el : lcGo (lcSt vs b tt f ρ) ds with
  | bad => rw [el] at h1; exact h1.elim
  | ex c ps =>
    exfalso
    -- no exception comes of a step
    have no : ∀ ds c ps, lcGo (lcSt vs b tt f ρ) ds ≠ .ex c ps := by
      intro ds
      induction ds with
      | nil => intro c ps e; cases e
      | cons d ds ih =>
        intro c ps e
        unfold lcGo at e
        cases es : lcSt vs b tt f ρ d with
        | ex c2 ps2 =>
          unfold lcSt at es
          cases eb : b d (wipeS ρ vs) with
          | none => rw [eb] at es; cases es
          | some ρ1 =>
            rw [eb] at es
            dsimp only at es
            cases em : (tt ρ1).bind fun c => if c = true then (f ρ1).bind fun x => .ok (some x) else .ok none with
            | ok a => rw [em] at es; cases es
            | ex c ps => rw [em] at es; cases es
            | bad => rw [em] at es; cases es
        | bad => rw [es] at e; cases e
        | ok o =>
          rw [es] at e
          cases er : lcGo (lcSt vs b tt f ρ) ds with
          | ex c2 ps2 => exact ih _ _ er
          | bad => rw [er] at e; cases e
          | ok l => rw [er] at e; cases e
    exact no ds c ps el
  | ok xs =>
    rw [el] at h1
    have h2 := fun H' s => (h1 : Post Y W σ H1 (.ok (Sl.ol xs)) _) H' s
    -- the hidden addresses within: the list too
    have sB : Same (hd (hid fo at_) H1) H1 := hd_le
    refine lc_it w (fun i H' => ∃ acc vsx rest, H' Da = some (.lst vsx) ∧ Same H1 H' ∧ AtL Y (hd (fun a => hid fo at_ a ∨ a = Da) H') vsx acc ∧ lcGo (lcSt vs b tt f ρ) (ds.drop i) = .ok rest ∧ acc ++ rest = xs ∧ vsx.length ≤ i)
      ⟨[], [], xs, upd_same, same_new nD, rfl, el, rfl, Nat.le_refl _⟩ (fun i H' _ ⟨_, _, _, _, s, _⟩ => hG H' (sB.trans s)) ?_ ?_
    · rintro i x H' H3 hi ⟨acc, vsx, rest, hD, s, al, er, ea, ln⟩ y
      have E3 : EnvO Y (fun a => fo a ∨ a = Da) at_ B (wipe σ vs) H' (wipeS ρ vs) := by
        have E4 := E2.ext s
        have n1 : ∀ b, H1 b ≠ none → b ≠ Da := fun b hb z => hb (by rw [z]; exact nD)
        refine ⟨E4.same, ⟨fun a m => ?_, fun a xs m => ?_⟩, E4.dj, fun j a q m => ?_, E4.nw, E4.len, E4.gt, fun j r e => ?_⟩
        · rcases m with m | m
          · exact E4.fin a m
          · rw [m, hD]; exact fun z => nomatch z
        · rcases m with m | m
          · exact E4.fin.nt a xs m
          · rw [m, hD]; exact fun z => nomatch z
        · rcases m with m | m
          · exact E4.df j a q m
          · exact E2.al a (.inr ⟨j, q⟩) (by rw [m]; exact nD)
        · refine (E2.sl j r e).mono (fun b o q => ?_) (fun a u _ q => s a u q) (fun _ z => z) fun a u _ q => s a u q
          obtain ⟨n, q⟩ := hd_some q
          refine (hd_not ?_).trans (s b o q)
          rintro ((m | m) | m)
          · exact n (.inl m)
          · exact n1 b (by rw [q]; exact fun z => nomatch z) m
          · exact n (.inr m)
      have hidE : hid (fun a => fo a ∨ a = Da) at_ = fun a => hid fo at_ a ∨ a = Da := by
        funext a
        apply propext
        constructor
        · rintro ((m | m) | m)
          · exact .inl (.inl m)
          · exact .inr m
          · exact .inl (.inr m)
        · rintro ((m | m) | m)
          · exact .inl (.inl m)
          · exact .inr m
          · exact .inl (.inr m)
      have s3 : Same (hd (hid fo at_) H1) (hd (hid (fun a => fo a ∨ a = Da) at_) H') := fun c o e => by
        obtain ⟨n, e⟩ := hd_some e
        refine (hd_not ?_).trans (s c o e)
        rw [hidE]
        rintro (m | m)
        · exact n m
        · rw [m, nD] at e; cases e
      obtain ⟨s2, d, ed, ad⟩ := hY i H' x H3 _ hi s3 E3.al y
      rw [List.drop_eq_getElem_cons hi] at er
      have ed' : ds[i] = d := by rw [List.getElem?_eq_getElem hi] at ed; exact Option.some.inj ed
      rw [ed'] at er
      unfold lcGo at er
      cases es : lcSt vs b tt f ρ d with
      | ex c ps => rw [es] at er; cases er
      | bad => rw [es] at er; cases er
      | ok o =>
        rw [es] at er
        cases er2 : lcGo (lcSt vs b tt f ρ) (ds.drop (i + 1)) with
        | ex c ps => rw [bind_ok, er2] at er; cases er
        | bad => rw [bind_ok, er2] at er; cases er
        | ok rest2 =>
          rw [bind_ok, er2, bind_ok] at er
          have er3 : oc o rest2 = rest := by injection er
          unfold lcSt at es
          cases eb : b d (wipeS ρ vs) with
          | none => rw [eb] at es; cases es
          | some ρ1 =>
            rw [eb] at es
            have es := noEx_some es
            refine ht _ at_ _ _ H3 _ x d ρ1 _ (E3.ext s2) ad eb fun σ2 E5 l2 u2 => ⟨wipe_eq l2 u2 sub, ?_⟩
            have ec : clr at_ bs = at_ := by
              funext j
              by_cases hj : j ∈ bs
              · rw [clr_in hj]
                have hv := sub j hj
                have q := ok.1
                unfold okW at q
                have q2 := List.all_eq_true.mp q j hv
                cases e : ρ[j]? with
                | none => rw [e] at q2; exact absurd q2 Bool.false_ne_true
                | some s =>
                  rw [e] at q2
                  have r := E.sl j s e
                  cases s with
                  | no => exact r.symm
                  | dat d => exact r.1.symm
                  | _ => exact absurd q2 Bool.false_ne_true
              · rw [clr_out hj]
            rw [ec] at E5
            have D3 : H3 Da = some (.lst vsx) := s2 _ _ hD
            have go : ∀ (x : D) (v : V) (H4 : Hp), Same H3 H4 → At Y (hd (hid (fun a => fo a ∨ a = Da) at_) H4) v x → acc ++ x :: rest2 = xs → ∃ acc2, H4 Da = some (.lst acc2) ∧ acc2.length < sizeLine ∧ ∃ acc' vsx' rest', (upd H4 Da (.lst (acc2 ++ [v]))) Da = some (.lst vsx') ∧ Same H1 (upd H4 Da (.lst (acc2 ++ [v]))) ∧
                AtL Y (hd (fun a => hid fo at_ a ∨ a = Da) (upd H4 Da (.lst (acc2 ++ [v])))) vsx' acc' ∧ R.ok rest2 = R.ok rest' ∧ acc' ++ rest' = xs ∧ vsx'.length ≤ i + 1 := fun x v H4 s4 a4 e4 => by
              have D4 : H4 Da = some (.lst vsx) := s4 _ _ D3
              refine ⟨vsx, D4, ?_, acc ++ [x], vsx ++ [v], rest2, upd_same, fun b o e => ?_, ?_, rfl, by rw [List.append_assoc]; exact e4, by simp; exact ln⟩
              · rw [← cap_eq]; have := ok.2; omega
              · rw [upd_ne (ne_of_none e nD)]; exact s4 _ _ (s2 _ _ (s _ _ e))
              · rw [hd_upd (.inr rfl)]
                rw [hidE] at a4
                exact (al.same (hd_same (s2.trans s4))).snoc a4
            refine ct _ _ _ ⟨_, at_, B, ρ1, E5, ?_⟩
            cases ett : tt ρ1 with
            | ex c ps => rw [ett] at es; cases es
            | bad => rw [ett] at es; cases es
            | ok c =>
              rw [ett, bind_ok] at es
              intro H4 s4
              cases c with
              | true =>
                rw [if_pos rfl] at es ⊢
                refine ce _ _ _ ⟨_, at_, B, ρ1, E5.ext s4, ?_⟩
                cases ef : f ρ1 with
                | ex c ps => rw [ef] at es; cases es
                | bad => rw [ef] at es; cases es
                | ok z =>
                  rw [ef, bind_ok] at es
                  injection es with es
                  subst es
                  exact fun H5 s5 v a => go z v H5 (s4.trans s5) a (by rw [← er3] at ea; exact ea)
              | false =>
                rw [if_neg Bool.false_ne_true] at es ⊢
                injection es with es
                subst es
                refine ⟨acc, vsx, rest2, s4 _ _ D3, (s.trans s2).trans s4, al.same (hd_same (s2.trans s4)), rfl, by rw [show rest2 = rest from er3]; exact ea, by omega⟩
    · rintro H' ⟨acc, vsx, rest, hD, s, al, er, ea, ln⟩
      rw [List.drop_length] at er
      have e0 : rest = [] := by
        have z : (R.ok [] : R (List D)) = .ok rest := er
        injection z with z; exact z.symm
      rw [e0, List.append_nil] at ea
      subst ea
      have h3 := h2 H' s (.ref Da) (some Da) (fun a e => by cases e; exact s1.free nD) ⟨Da, vsx, rfl, rfl, hD, by have := ok.2; omega, al.same (hd_sub fun a m => m.elim .inl fun z => by cases z; exact .inr rfl)⟩ (fun z => nomatch z)
      exact h3
variable {X : Cx}
theorem po_lc {elt tg iter : Expr} {ifs : List Expr} {scope : Scope} {own : List (Str × Nat)} {pos : Pos} {g : TG} {bs : List Nat} {l : EF (List D)} {b : BF} {tt : EF Bool} {f : EF D} (hc : X.calm = true) (hN : X.N.Nodup) (hi : PI X tg iter (tI Y W l)) (ok : BlkOk X.N X.env.scope scope own)
    (hg : ∀ (s : Shared) (H : Hp) (C : Addr) (cl : List (Str × Addr)) (fp : List Addr), PG (X.blk s H scope (compEnvC scope cl C X.env) fp) tg g) (tg_ : TgR Y g bs b) (sub : ∀ i ∈ bs, i ∈ own.map (·.2))
    (ht : ∀ (s : Shared) (H : Hp) (C : Addr) (cl : List (Str × Addr)) (fp : List Addr), PTs (X.blk s H scope (compEnvC scope cl C X.env) fp) ifs (tT Y W0 tt))
    (he : ∀ (s : Shared) (H : Hp) (C : Addr) (cl : List (Str × Addr)) (fp : List Addr), PE (X.blk s H scope (compEnvC scope cl C X.env) fp) elt (tE Y W0 f)) (hs : ∀ x, foldedSetIterable iter X.env x = pure x := by intro _; rfl) :
    PE X (.ListComp elt [⟨tg, iter, ifs, 0⟩] scope pos) (tO Y W (lcF (own.map (·.2)) l b tt f)) := PE.imp (pe_lc hc hN hi ok hg ht he hs) fun σ H Q h => lc_rd (fun _ q => q) tg_ sub (fun _ _ _ q => q) (fun _ _ _ q => q) h
theorem sx_setLc {i : Nat} {y : Str} {py : Pos} {elt tg iter : Expr} {ifs : List Expr} {scope : Scope} {own : List (Str × Nat)} {pos spos : Pos} {g : TG} {bs : List Nat} {l : EF (List D)} {b : BF} {tt : EF Bool} {f : EF D} (hc : X.calm = true) (hN : X.N.Nodup) (hy : X.N[i]? = some y) (hyl : X.env.scope.names.lookup y = some .local)
    (hsw : swapsWith (.ListComp elt [⟨tg, iter, ifs, 0⟩] scope pos) (some (.Name y py)) spos.line X.env = pure true) (hi : PI X tg iter (tI Y W l)) (ok : BlkOk X.N X.env.scope scope own)
    (hg : ∀ (s : Shared) (H : Hp) (C : Addr) (cl : List (Str × Addr)) (fp : List Addr), PG (X.blk s H scope (compEnvC scope cl C X.env) fp) tg g) (tg_ : TgR Y g bs b) (sub : ∀ i ∈ bs, i ∈ own.map (·.2))
    (ht : ∀ (s : Shared) (H : Hp) (C : Addr) (cl : List (Str × Addr)) (fp : List Addr), PTs (X.blk s H scope (compEnvC scope cl C X.env) fp) ifs (tT Y W0 tt))
    (he : ∀ (s : Shared) (H : Hp) (C : Addr) (cl : List (Str × Addr)) (fp : List Addr), PE (X.blk s H scope (compEnvC scope cl C X.env) fp) elt (tE Y W0 f)) (hs : ∀ x, foldedSetIterable iter X.env x = pure x := by intro _; rfl) :
    PS X (.Assign [.Name y py] (.ListComp elt [⟨tg, iter, ifs, 0⟩] scope pos) spos) (tS Y W (soF i (lcF (own.map (·.2)) l b tt f))) :=
  sx_setOG (ps_setLc hc hN hy hyl hsw hi ok hg ht he hs) fun σ H Q h => lc_rd (fun _ q => q) tg_ sub (fun _ _ _ q => q) (fun _ _ _ q => q) h
theorem ptx_nil : PTs X [] (tT Y W yesT) := ⟨fun pins s σ H Q I ⟨fo, at_, B, ρ, E, h⟩ => pts_nil.run pins s σ H Q I ((h : Post Y W σ H (.ok true) _).now)⟩
theorem ptx_one {c : Expr} {p : EF Bool} (h : PT X c (tT Y W p)) : PTs X [c] (tT Y W p) := pts_one h
end
/-! ### defs -/
/-- a mirror: data in, an owned thing or data out -/
abbrev Mi := List D → R Sl
def PoC (Y : Yx) (fo : Addr → Prop) (H : Hp) (Q : VK) (E : XK) : R Sl → Prop
  | .ok s => ∀ v H' oa, Same H H' → (∀ a, oa = some a → H a = none) → SlR Y noG (hd (fun a => fo a ∨ oa = some a) H') H' (some v) s oa → s ≠ .no → Q v H'
  | .ex c ps => ∀ dd H', Same H H' → ExD Y H H' dd ps → E (.ref (Y.cx c)) dd H'
  | .bad => False
/-- the promise of a def of n parameters with the mirror M -/
def spM (Y : Yx) (n : Nat) (M : Mi) : Sp := fun vs H Q E => ∃ (fo : Addr → Prop) (ds : List D), ds.length = n ∧ Al fo H ∧ AtL Y (hd fo H) vs ds ∧ PoC Y fo H Q E (M ds)
/-- the mirror of a body -/
def bodyM (n : Nat) (F : SF) : Mi := fun ds => match F (ds.map .dat ++ List.replicate (n - ds.length) .no) with
  | some (.nx _) => .ok (.dat .non)
  | some (.ret s) => .ok s
  | some (.rs _ c ps) => .ex c ps
  | _ => .bad
section
variable {Y : Yx} {W : WX} {P : Program} {w : World} {mg : Str → Option Value} {base : Heap}
theorem env_start {fo : Addr → Prop} {H : Hp} {vs : List V} {ds : List D} {N : List Str} (al : Al fo H) (a : AtL Y (hd fo H) vs ds) (hl : ds.length ≤ N.length) :
    EnvO Y fo (fun _ => none) H (start N vs) H (ds.map .dat ++ List.replicate (N.length - ds.length) .no) := by
  have lv := a.length
  refine ⟨Same.refl H, al, fun _ _ _ h => (nomatch h), fun _ _ h => (nomatch h), fun _ _ h => (nomatch h), ?_, fun _ _ h => (nomatch h), fun i s e => ?_⟩
  · unfold L2.start; simp; omega
  · have eh : hid fo (fun _ => none) = fo := by
      funext a
      exact propext ⟨fun m => m.elim id fun ⟨_, z⟩ => (nomatch z), .inl⟩
    rw [eh]
    unfold L2.start
    by_cases hi : i < ds.length
    · rw [List.getElem?_append_left (by simpa using hi)] at e
      rw [List.getElem?_append_left (by simp; omega)]
      rw [List.getElem?_map, List.getElem?_eq_getElem hi] at e
      cases e
      obtain ⟨v, ev, av⟩ := a.get (List.getElem?_eq_getElem hi)
      rw [List.getElem?_map, ev]
      exact ⟨rfl, v, rfl, av⟩
    · rw [List.getElem?_append_right (by simpa using hi), List.getElem?_replicate] at e
      split at e
      · cases e; exact rfl
      · cases e
abbrev FnP (K : PySem.W.Frag) (x qual : Str) (st : Stmt) (f : Addr) (fd : FuncData) : Prop := FunD K x qual (defArgs st) (defBody st) (defScope st) [] [] f fd
/-- THE RULE for a def -/
theorem fn_ok {x qual : Str} {st : Stmt} {f : Addr} {fd : FuncData} {N ps : List Str} {k : Nat} {F : SF} (Fd : FnP Y.K x qual st f fd) (S : FnScope N ps (defScope st))
    (hbody : ∀ (cdv : Value) (A : Around) (outer : List Env) (s : Shared) (H : Hp) (E : XK), Room k (A.deeper (PyProof.Rows.envOfC qual (defScope st) s.heap.objs.size f cdv)) →
      PSs (cxOf (L2.CX P w) P w Y.K mg base N qual (defScope st) f cdv A outer s H E) (defBody st) (tS Y (fun cls d _ H => E cls d H) F)) : FnOk P w Y.K mg base (L2.CX P w) (k + 1) f fd ps (spM Y ps.length (bodyM N.length F)) := by
  refine FunD.ok Fd S (fun vs H Q E h => ?_) (fun cdv A outer s H vs Q E hr h => ⟨_, hbody cdv A outer s H E hr, ?_⟩)
  · obtain ⟨fo, ds, hn, al, a, _⟩ := h
    rw [← hn]; exact a.length
  · obtain ⟨fo, ds, hn, al, a, p⟩ := h
    have hl : ps.length ≤ N.length := by have := congrArg List.length S.pre; rw [List.length_take] at this; omega
    refine ⟨fo, _, H, _, env_start al a (by omega), ?_⟩
    unfold bodyM at p
    cases e : F (ds.map .dat ++ List.replicate (N.length - ds.length) .no) with
    | none => rw [e] at p; exact p.elim
    | some o =>
      rw [e] at p
      cases o with
      | nx ρ' => exact fun a σ' H' E' => p .non H' none E'.same (fun _ e => nomatch e) ⟨rfl, _, rfl, rfl⟩ (fun z => nomatch z)
      | ret s => exact p
      | rs ρ' c ps => exact fun a σ' H' H2 dd E' s x => p dd H2 (E'.same.trans s) (x.base E'.same)
      | brk ρ' => exact p.elim
      | cnt ρ' => exact p.elim
/-- a weaker mirror -/
theorem fn_imp {f : Addr} {fd : FuncData} {ps : List Str} {k n : Nat} {M M' : Mi} (F : FnOk P w Y.K mg base (L2.CX P w) k f fd ps (spM Y n M)) (h : ∀ ds, M' ds ≠ .bad → M' ds = M ds) : FnOk P w Y.K mg base (L2.CX P w) k f fd ps (spM Y n M') :=
  F.imp fun vs H Q E ⟨fo, ds, hn, al, a, p⟩ => ⟨fo, ds, hn, al, a, by
    cases e : M' ds with
    | bad => rw [e] at p; exact p.elim
    | ok s => rw [← h ds (by rw [e]; exact fun z => nomatch z)]; exact p
    | ex c ps => rw [← h ds (by rw [e]; exact fun z => nomatch z)]; exact p⟩
/-- a call's reading -/
@[simp] def mcO (M : Mi) (l : EF (List D)) : EF Sl := fun ρ => (l ρ).bind M
theorem mc_rd {W : WX} {n : Nat} {M : Mi} {l : EF (List D)} {σ : L2.St} {H : Hp} {Q : VK} (hn : ∀ ρ ds, l ρ = .ok ds → ds.length = n) (h : tO Y W (mcO M l) σ H Q) : tCallS (spM Y n M) (WE W) (tL Y W l) σ H Q := by
  obtain ⟨fo, at_, B, ρ, E, h⟩ := h
  refine ⟨fo, at_, B, ρ, E, ?_⟩
  unfold mcO at h
  cases el : l ρ with
  | bad => rw [el] at h; exact h.elim
  | ex c ps => rw [el] at h; exact h
  | ok ds =>
    rw [el, bind_ok] at h
    intro H1 s1 vs a
    refine ⟨hid fo at_, ds, hn ρ ds el, (E.ext s1).al, a, ?_⟩
    cases em : M ds with
    | bad => rw [em] at h; exact h.elim
    | ok s => rw [em] at h; exact fun v H2 oa s2 new r hn => h H2 (s1.trans s2) v oa (fun a e => s1.free (new a e)) r hn
    | ex c ps => rw [em] at h; exact fun dd H2 s2 x => h dd H2 (s1.trans s2) (x.base s1)
end
end PL

/-! P5: the operations on data. -/
namespace PL
open PySem PySem.Spec L2

section
variable {Y : Yx} {X : Cx}
theorem VOp.or {r r' : R2} {o o' : D → D → Option D} (h : VOp Y r o) (h' : VOp Y r' o') : VOp Y (fun x y H Q => r x y H Q ∨ r' x y H Q) (fun d e => match o d e with
    | some c => some c
    | none => o' d e) := fun hh H x y d e c Q al a b z k => by
  cases q : o d e with
  | some c2 => simp only [q] at z; exact .inl (h hh H x y d e c Q al a b (by rw [q]; exact z) k)
  | none => simp only [q] at z; exact .inr (h' hh H x y d e c Q al a b z k)
theorem VCa.or {r r' : List V → Hp → VK → Prop} {o o' : List D → Option D} (h : VCa Y r o) (h' : VCa Y r' o') : VCa Y (fun x H Q => r x H Q ∨ r' x H Q) (fun d => match o d with
    | some c => some c
    | none => o' d) := fun hh H x d c Q al a z k => by
  cases q : o d with
  | some c2 => simp only [q] at z; exact .inl (h hh H x d c Q al a (by rw [q]; exact z) k)
  | none => simp only [q] at z; exact .inr (h' hh H x d c Q al a z k)
/-- two ints -/
theorem vI0 {g : Int → Int → V} {k : Int → Int → D} (e : ∀ i j G, At Y G (g i j) (k i j)) : VOp Y (rI0 g) (fun d e => match d, e with
    | .int i, .int j => some (k i j)
    | _, _ => none) := fun hh H x y d f c Q al a b z q => by
  cases d <;> cases f <;> first | cases z | skip
  exact ⟨_, _, a, b, q _ H (Same.refl H) (e _ _ _)⟩
theorem vI {C : Int → Int → Prop} [∀ i j, Decidable (C i j)] {g : Int → Int → V} {k : Int → Int → D} (e : ∀ i j G, At Y G (g i j) (k i j)) : VOp Y (rI C g) (fun d e => match d, e with
    | .int i, .int j => if C i j then some (k i j) else none
    | _, _ => none) := fun hh H x y d f c Q al a b z q => by
  cases d <;> cases f <;> first | cases z | skip
  rename_i i j
  dsimp only at z
  by_cases h : C i j
  · rw [if_pos h] at z; cases z
    exact ⟨_, _, a, b, h, q _ H (Same.refl H) (e _ _ _)⟩
  · rw [if_neg h] at z; cases z
/-- a new list, a new tuple -/
theorem at_newL {h : Addr → Prop} {H : Hp} {p : Addr} {vs : List V} {ds : List D} (al : Al h H) (np : H p = none) (z : ds.length ≤ cap) (a : AtL Y (hd h H) vs ds) : At Y (hd h (upd H p (.lst vs))) (.ref p) (.lst ds) :=
  ⟨p, vs, rfl, hd_new al np, by rw [a.length]; exact z, a.same (hd_same (same_new np))⟩
theorem at_newT {h : Addr → Prop} {H : Hp} {p : Addr} {vs : List V} {ds : List D} (al : Al h H) (np : H p = none) (z : ds.length ≤ cap) (a : AtL Y (hd h H) vs ds) : At Y (hd h (upd H p (.tup vs))) (.ref p) (.tup ds) :=
  ⟨p, vs, rfl, hd_new al np, by rw [a.length]; exact z, a.same (hd_same (same_new np))⟩

/-! ### + -/
def addI : D → D → Option D := fun d e => match d, e with
  | .int i, .int j => some (.int (i + j))
  | _, _ => none
def addS : D → D → Option D := fun d e => match d, e with
  | .str x, .str y => if x.length + y.length ≤ cap then some (.str (x ++ y)) else none
  | _, _ => none
def addT : D → D → Option D := fun d e => match d, e with
  | .tup x, .tup y => if x.length + y.length ≤ cap then some (.tup (x ++ y)) else none
  | _, _ => none
def addL : D → D → Option D := fun d e => match d, e with
  | .lst x, .lst y => if x.length + y.length ≤ cap then some (.lst (x ++ y)) else none
  | _, _ => none
def addD : D → D → Option D := fun d e => match d, e with
  | .int i, .int j => some (.int (i + j))
  | .str x, .str y => if x.length + y.length ≤ cap then some (.str (x ++ y)) else none
  | .tup x, .tup y => if x.length + y.length ≤ cap then some (.tup (x ++ y)) else none
  | .lst x, .lst y => if x.length + y.length ≤ cap then some (.lst (x ++ y)) else none
  | _, _ => none
def rAddD (K : PySem.W.Frag) : R2 := fun x y H Q => rI0 (fun i j => .int (i + j)) x y H Q ∨ ((fun x y H Q => ∃ i j, x = .str i ∧ y = .str j ∧ i.length + j.length ≤ sizeLine ∧ Q (.str (i ++ j)) H) x y H Q ∨ (rCatA K x y H Q ∨ rCat x y H Q))
theorem o_add : OpR X (binaryOp .Add) (rAddD X.K) := op_add.or (op_add_str.or (op_catA.or op_cat))
theorem v_add : VOp Y (rAddD Y.K) addD := fun hh H x y d e c Q al a b z q => by
  cases d <;> cases e <;> first | cases z | skip
  · exact .inl ⟨_, _, a, b, q _ H (Same.refl H) rfl⟩
  · rename_i s t
    unfold addD at z; dsimp only at z
    by_cases hl : s.length + t.length ≤ cap
    · rw [if_pos hl] at z; cases z
      exact .inr (.inl ⟨s, t, a, b, by rw [← cap_eq]; exact hl, q _ H (Same.refl H) rfl⟩)
    · rw [if_neg hl] at z; cases z
  · rename_i s t
    unfold addD at z; dsimp only at z
    by_cases hl : s.length + t.length ≤ cap
    · rw [if_pos hl] at z; cases z
      obtain ⟨l, vs, rfl, hL, z1, a1⟩ := a
      obtain ⟨m, ws, rfl, hM, z2, a2⟩ := b
      have l1 := a1.length
      have l2 := a2.length
      exact .inr (.inr (.inr ⟨l, m, vs, ws, rfl, rfl, hd_le _ _ hL, hd_le _ _ hM, by rw [← cap_eq, l1, l2]; exact hl, fun p np => q _ _ (same_new np) (at_newL al np (by simpa using hl) (a1.append a2))⟩))
    · rw [if_neg hl] at z; cases z
  · rename_i s t
    unfold addD at z; dsimp only at z
    by_cases hl : s.length + t.length ≤ cap
    · rw [if_pos hl] at z; cases z
      obtain ⟨l, vs, rfl, hL, z1, a1⟩ := a
      obtain ⟨m, ws, rfl, hM, z2, a2⟩ := b
      have l1 := a1.length
      have l2 := a2.length
      refine .inr (.inr (.inl ⟨l, m, vs, ws, rfl, rfl, SqT.of (hd_le _ _ hL), SqT.of (hd_le _ _ hM), by rw [← cap_eq, l1, l2]; exact hl, fun e => ?_, fun _ e => ?_, fun _ _ p np => q _ _ (same_new np) (at_newT al np (by simpa using hl) (a1.append a2))⟩))
      · subst e
        cases s with
        | nil => exact q _ H (Same.refl H) ⟨m, ws, rfl, hM, z2, a2⟩
        | cons s1 s2 => simp at l1
      · subst e
        cases t with
        | nil => exact q _ H (Same.refl H) ⟨l, vs, rfl, hL, z1, by rw [List.append_nil]; exact a1⟩
        | cons s1 s2 => simp at l2
    · rw [if_neg hl] at z; cases z

/-! ### ints -/
def opI (k : Int → Int → Int) : D → D → Option D := fun d e => match d, e with
  | .int i, .int j => some (.int (k i j))
  | _, _ => none
def opIC (C : Int → Int → Prop) [∀ i j, Decidable (C i j)] (k : Int → Int → Int) : D → D → Option D := fun d e => match d, e with
  | .int i, .int j => if C i j then some (.int (k i j)) else none
  | _, _ => none
def opB (k : Int → Int → Bool) : D → D → Option D := fun d e => match d, e with
  | .int i, .int j => some (.bl (k i j))
  | _, _ => none
instance (i j : Int) : Decidable (CMul i j) := by unfold CMul; infer_instance
instance (i j : Int) : Decidable (CDiv i j) := by unfold CDiv; infer_instance
instance (i j : Int) : Decidable (CPow i j) := by unfold CPow; infer_instance
abbrev subD := opI fun i j => i - j
abbrev modD := opIC (fun _ j => 0 < j) fun i j => i % j
abbrev fdivD := opIC CDiv fun i j => i / j
abbrev powD := opIC CPow fun i j => i ^ j.toNat
abbrev shlD := opIC CPow fun i j => i * 2 ^ j.toNat
abbrev shrD := opIC (fun _ j => 0 ≤ j) fun i j => i / 2 ^ j.toNat
abbrev andD := opI fun i j => Builtin.bitAnd i j
abbrev orD := opI fun i j => Builtin.bitOr i j
abbrev xorD := opI fun i j => Builtin.bitXor i j
abbrev ltD := opB fun i j => decide (i < j)
abbrev leD := opB fun i j => decide (i ≤ j)
abbrev gtD := opB fun i j => decide (j < i)
abbrev geD := opB fun i j => decide (j ≤ i)
theorem v_opI {k : Int → Int → Int} : VOp Y (rI0 fun i j => .int (k i j)) (opI k) := vI0 fun _ _ _ => rfl
theorem v_opB {k : Int → Int → Bool} : VOp Y (rI0 fun i j => .bl (k i j)) (opB k) := vI0 fun _ _ _ => rfl
theorem v_opIC {C : Int → Int → Prop} [∀ i j, Decidable (C i j)] {k : Int → Int → Int} : VOp Y (rI C fun i j => .int (k i j)) (opIC C k) := vI fun _ _ _ => rfl
def negD : D → Option D
  | .int i => some (.int (-i))
  | _ => none
theorem px_neg {W : WX} {a : Expr} {f : EF D} {pos : Pos} (h : PE X a (tE Y W f)) : PE X (.UnaryOp .USub a pos) (tE Y W (un f negD)) := PE.imp (pe_un un_neg h) fun σ H Q ⟨fo, at_, B, ρ, E, h⟩ =>
  ⟨fo, at_, B, ρ, E, (Post.bind h).mono fun d H1 s1 h1 v a => by
    obtain ⟨c, e, h2⟩ := Post.op h1
    cases d <;> first | cases e | skip
    exact ⟨_, a, h2 H1 (Same.refl H1) _ rfl⟩⟩
/-! ### * -/
def mulD : D → D → Option D := fun d e => match d, e with
  | .int i, .int j => if CMul i j then some (.int (i * j)) else none
  | .lst x, .int k => if -(2 ^ 63) ≤ k ∧ k < 2 ^ 63 ∧ x.length * k.toNat ≤ cap then some (.lst (List.replicate k.toNat x).flatten) else none
  | .str x, .int k => if 0 ≤ k ∧ k < 2 ^ 62 ∧ x.length * k.toNat ≤ cap then some (.str ⟨(List.replicate k.toNat x.cps.toList).flatten.toArray⟩) else none
  | _, _ => none
theorem AtL.rep {G : Hp} {vs : List V} {ds : List D} (a : AtL Y G vs ds) : ∀ n, AtL Y G (List.replicate n vs).flatten (List.replicate n ds).flatten
  | 0 => rfl
  | n + 1 => by rw [List.replicate_succ, List.replicate_succ, List.flatten_cons, List.flatten_cons]; exact a.append (AtL.rep a n)

/-! ### ==, !=, is -/
mutual
def deq : D → D → Bool
  | .non, .non => true
  | .bl a, .bl b => a == b
  | .int i, .int j => i == j
  | .str x, .str y => x == y
  | .lst xs, .lst ys => deqL xs ys
  | .tup xs, .tup ys => deqL xs ys
  | _, _ => false
def deqL : List D → List D → Bool
  | [], [] => true
  | x :: xs, y :: ys => deq x y && deqL xs ys
  | _, _ => false
end
mutual
/-- data that == tells apart as it stands -/
def plE : D → Bool
  | .non => true
  | .int _ => true
  | .str x => PyData.strOk x
  | .lst xs => plL xs
  | .tup xs => plL xs
  | _ => false
def plL : List D → Bool
  | [] => true
  | x :: xs => plE x && plL xs
end
mutual
def dep : D → Nat
  | .lst xs => depL xs + 1
  | .tup xs => depL xs + 1
  | _ => 0
def depL : List D → Nat
  | [] => 0
  | x :: xs => max (dep x) (depL xs)
end
mutual
def py : D → PyData
  | .bl b => .bool b
  | .int i => .int i
  | .str x => .str x
  | .lst xs => .list (pyL xs)
  | .tup xs => .tuple (pyL xs)
  | _ => .none
def pyL : List D → List PyData
  | [] => []
  | x :: xs => py x :: pyL xs
end
mutual
theorem dp_of {G : Hp} : ∀ {v : V} {d : D}, plE d = true → At Y G v d → Dp Y.K G v (py d)
  | v, .non, _, a => by cases (show v = _ from a); exact .non
  | v, .int i, _, a => by cases (show v = _ from a); exact .int i
  | v, .str x, _, a => by cases (show v = _ from a); exact .str x
  | v, .lst xs, h, ⟨l, vs, e, s, z, q⟩ => by subst e; exact .lst (.of s) (dpL_of h q)
  | v, .tup xs, h, ⟨l, vs, e, s, z, q⟩ => by subst e; exact .tup (.of s) (dpL_of h q)
  | v, .bl _, h, _ => by cases h
  | v, .dK _, h, _ => by cases h
  | v, .dT _, h, _ => by cases h
  | v, .ob _, h, _ => by cases h
  | v, .exc _ _, h, _ => by cases h
  | v, .scr _, h, _ => by cases h
  | v, .dN _, h, _ => by cases h
theorem dpL_of {G : Hp} : ∀ {vs : List V} {ds : List D}, plL ds = true → AtL Y G vs ds → DpAll Y.K G vs (pyL ds)
  | _, [], _, a => by cases (show _ = [] from a); exact .nil
  | _, d :: ds, h, ⟨v, r, e, q, t⟩ => by
    subst e
    have h2 : plE d = true ∧ plL ds = true := Bool.and_eq_true_iff.mp h
    exact .cons (dp_of h2.1 q) (dpL_of h2.2 t)
end
mutual
theorem eqv_of : ∀ (d e : D), plE d = true → plE e = true → PyData.eqv (py d) (py e) = deq d e
  | .non, e, _, h => by cases e <;> first | rfl | cases h
  | .int i, e, _, h => by cases e <;> first | rfl | cases h
  | .str x, e, _, h => by cases e <;> first | rfl | cases h
  | .lst xs, e, g, h => by
    cases e with
    | lst ys => exact eqvL_of xs ys g h
    | non => rfl
    | int i => rfl
    | str x => rfl
    | tup ys => rfl
    | _ => cases h
  | .tup xs, e, g, h => by
    cases e with
    | tup ys => exact eqvL_of xs ys g h
    | non => rfl
    | int i => rfl
    | str x => rfl
    | lst ys => rfl
    | _ => cases h
  | .bl _, _, g, _ => by cases g
  | .dK _, _, g, _ => by cases g
  | .dT _, _, g, _ => by cases g
  | .ob _, _, g, _ => by cases g
  | .exc _ _, _, g, _ => by cases g
  | .scr _, _, g, _ => by cases g
  | .dN _, _, g, _ => by cases g
theorem eqvL_of : ∀ (d e : List D), plL d = true → plL e = true → PyData.eqvAll (pyL d) (pyL e) = deqL d e
  | [], [], _, _ => rfl
  | [], _ :: _, _, _ => rfl
  | _ :: _, [], _, _ => rfl
  | x :: xs, y :: ys, g, h => by
    have g2 : plE x = true ∧ plL xs = true := Bool.and_eq_true_iff.mp g
    have h2 : plE y = true ∧ plL ys = true := Bool.and_eq_true_iff.mp h
    show (PyData.eqv (py x) (py y) && PyData.eqvAll (pyL xs) (pyL ys)) = (deq x y && deqL xs ys)
    rw [eqv_of x y g2.1 h2.1, eqvL_of xs ys g2.2 h2.2]
end
mutual
theorem lay_of : ∀ (d : D), plE d = true → (py d).canLay0 = true
  | .non, _ => rfl
  | .int i, _ => rfl
  | .str x, h => h
  | .lst xs, h => layL_of xs h
  | .tup xs, h => layL_of xs h
  | .bl _, g => by cases g
  | .dK _, g => by cases g
  | .dT _, g => by cases g
  | .ob _, g => by cases g
  | .exc _ _, g => by cases g
  | .scr _, g => by cases g
  | .dN _, g => by cases g
theorem layL_of : ∀ (d : List D), plL d = true → PyData.canLayAll0 (pyL d) = true
  | [], _ => rfl
  | x :: xs, h => by
    have h2 : plE x = true ∧ plL xs = true := Bool.and_eq_true_iff.mp h
    show ((py x).canLay0 && PyData.canLayAll0 (pyL xs)) = true
    rw [lay_of x h2.1, layL_of xs h2.2]; rfl
end
mutual
theorem dep_of : ∀ (d : D), (py d).depth = dep d
  | .non => rfl
  | .int i => rfl
  | .str x => rfl
  | .lst xs => by show PyData.depthAll (pyL xs) + 1 = _; rw [depL_of xs]; rfl
  | .tup xs => by show PyData.depthAll (pyL xs) + 1 = _; rw [depL_of xs]; rfl
  | .bl _ => rfl
  | .dK _ => rfl
  | .dT _ => rfl
  | .ob _ => rfl
  | .exc _ _ => rfl
  | .scr _ => rfl
  | .dN _ => rfl
theorem depL_of : ∀ (d : List D), PyData.depthAll (pyL d) = depL d
  | [] => rfl
  | x :: xs => by show max (py x).depth (PyData.depthAll (pyL xs)) = _; rw [dep_of x, depL_of xs]; rfl
end
theorem shaped_of {d : D} (h : plE d = true) (z : dep d ≤ 64) : SeqAt.shaped (py d) = true := by
  unfold SeqAt.shaped
  rw [lay_of d h, dep_of d, Bool.true_and]
  exact decide_eq_true z
/-- scalars that may be compared -/
def scP : D → D → Bool
  | .non, .non => true | .non, .int _ => true | .int _, .non => true | .non, .bl _ => true | .bl _, .non => true | .non, .str _ => true | .str _, .non => true
  | .int _, .int _ => true | .bl _, .bl _ => true | .str _, .str _ => true
  | .int _, .str _ => true | .str _, .int _ => true | .bl _, .str _ => true | .str _, .bl _ => true
  | _, _ => false
def eqC (d e : D) : Bool := scP d e || (plE d && plE e && decide (dep d ≤ 64) && decide (dep e ≤ 64))
def eqD : D → D → Option D := fun d e => if eqC d e then some (.bl (deq d e)) else none
def neD : D → D → Option D := fun d e => if eqC d e then some (.bl (!deq d e)) else none
theorem scP_v {x y : V} {d e : D} {G : Hp} (h : scP d e = true) (a : At Y G x d) (b : At Y G y e) : L2.scal x y = true ∧ decide (x = y) = deq d e := by
  cases d <;> cases e <;> first | (cases h; done) | (cases (show x = _ from a); cases (show y = _ from b); exact ⟨rfl, by rw [Bool.eq_iff_iff]; simp [deq]⟩)
def rEqA (K : PySem.W.Frag) : R2 := fun x y H Q => rEq x y H Q ∨ rEqD K x y H Q
def rNeA (K : PySem.W.Frag) : R2 := fun x y H Q => rNe x y H Q ∨ rNeD K x y H Q
theorem o_eq (hu : X.A.units + 64 < cLine) : OpR X (compareOp .Eq) (rEqA X.K) := op_eq.or (op_eqD hu)
theorem o_ne (hu : X.A.units + 64 < cLine) : OpR X (compareOp .NotEq) (rNeA X.K) := op_ne.or (op_neD hu)
theorem v_eq : VOp Y (rEqA Y.K) eqD := fun hh H x y d e c Q al a b z q => by
  unfold eqD at z
  split at z
  · rename_i h
    cases z
    have q1 := q (.bl (deq d e)) H (Same.refl H) rfl
    unfold eqC at h
    rcases Bool.or_eq_true_iff.mp h with h | h
    · obtain ⟨s1, s2⟩ := scP_v h a b
      exact .inl ⟨s1, by rw [s2]; exact q1⟩
    · simp only [Bool.and_eq_true, decide_eq_true_eq] at h
      obtain ⟨⟨⟨p1, p2⟩, p3⟩, p4⟩ := h
      exact .inr ⟨py d, py e, dp_of p1 (a.same hd_le), dp_of p2 (b.same hd_le), shaped_of p1 p3, shaped_of p2 p4, by rw [eqv_of d e p1 p2]; exact q1⟩
  · cases z
theorem v_ne : VOp Y (rNeA Y.K) neD := fun hh H x y d e c Q al a b z q => by
  unfold neD at z
  split at z
  · rename_i h
    cases z
    have q1 := q (.bl (!deq d e)) H (Same.refl H) rfl
    unfold eqC at h
    rcases Bool.or_eq_true_iff.mp h with h | h
    · obtain ⟨s1, s2⟩ := scP_v h a b
      exact .inl ⟨s1, by rw [s2]; exact q1⟩
    · simp only [Bool.and_eq_true, decide_eq_true_eq] at h
      obtain ⟨⟨⟨p1, p2⟩, p3⟩, p4⟩ := h
      exact .inr ⟨py d, py e, dp_of p1 (a.same hd_le), dp_of p2 (b.same hd_le), shaped_of p1 p3, shaped_of p2 p4, by rw [eqv_of d e p1 p2]; exact q1⟩
  · cases z
/-- is None; is True, is False (of bools) -/
def isNone : D → Bool
  | .non => true
  | _ => false
def isD : D → D → Option D := fun d e => match e with
  | .non => some (.bl (isNone d))
  | .bl b => match d with
    | .bl a => some (.bl (decide (a = b)))
    | _ => none
  | _ => none
def isnD : D → D → Option D := fun d e => match e with
  | .non => some (.bl (!isNone d))
  | .bl b => match d with
    | .bl a => some (.bl (!decide (a = b)))
    | _ => none
  | _ => none
theorem isNone_v {x : V} {d : D} {G : Hp} (a : At Y G x d) : decide (x = V.non) = isNone d := by
  cases d with
  | non => cases (show x = _ from a); rfl
  | bl b => cases (show x = _ from a); rfl
  | int b => cases (show x = _ from a); rfl
  | str b => cases (show x = _ from a); rfl
  | lst ds => obtain ⟨l, vs, rfl, _⟩ := a; rfl
  | tup ds => obtain ⟨l, vs, rfl, _⟩ := a; rfl
  | dK ds => obtain ⟨l, vs, rfl, _⟩ := a; rfl
  | dT ds => obtain ⟨l, vs, rfl, _⟩ := a; rfl
  | ob fs => obtain ⟨l, vs, _, rfl, _⟩ := a; rfl
  | exc n m => obtain ⟨l, vs, rfl, _⟩ := a; rfl
  | scr n => obtain ⟨l, rfl, _⟩ := a; rfl
  | dN ds => obtain ⟨l, vs, rfl, _⟩ := a; rfl
def rIsA : R2 := fun x y H Q => (y = .non ∧ Q (.bl (decide (x = .non))) H) ∨ rIsB x y H Q
def rIsnA : R2 := fun x y H Q => (y = .non ∧ Q (.bl (!decide (x = .non))) H) ∨ rNotB x y H Q
theorem o_is : OpR X (compareOp .Is) rIsA := op_isN.or op_isBl
theorem o_isn : OpR X (compareOp .IsNot) rIsnA := op_notN.or op_notBl
theorem v_is : VOp Y rIsA isD := fun hh H x y d e c Q al a b z q => by
  cases e with
  | non => cases z; exact .inl ⟨b, by rw [isNone_v a]; exact q _ H (Same.refl H) rfl⟩
  | bl k =>
    cases d <;> first | cases z | skip
    exact .inr ⟨_, _, a, b, q _ H (Same.refl H) rfl⟩
  | _ => cases z
theorem v_isn : VOp Y rIsnA isnD := fun hh H x y d e c Q al a b z q => by
  cases e with
  | non => cases z; exact .inl ⟨b, by rw [isNone_v a]; exact q _ H (Same.refl H) rfl⟩
  | bl k =>
    cases d <;> first | cases z | skip
    exact .inr ⟨_, _, a, b, q _ H (Same.refl H) rfl⟩
  | _ => cases z
end
end PL

/-! P6: keys and dicts, subscripts, in, len, slices. -/
namespace PL
open PySem PySem.Spec L2

/-! ### keys -/
def keyD : D → Option Key
  | .int i => some (.inl i)
  | .str x => some (.inr x)
  | _ => none
def tkey : List D → Option (List Key)
  | [] => some []
  | d :: ds => (keyD d).bind fun k => (tkey ds).map fun ks => k :: ks
def kD : Key → D
  | .inl i => .int i
  | .inr x => .str x
@[simp] theorem keyD_kD (k : Key) : keyD (kD k) = some k := by cases k <;> rfl
@[simp] theorem tkey_kD : ∀ ks : List Key, tkey (ks.map kD) = some ks
  | [] => rfl
  | k :: ks => by simp [tkey, tkey_kD ks]
def lk {κ α : Type} [DecidableEq κ] (kvs : List (κ × α)) (k : κ) : Option α := (kvs.find? fun kv => decide (kv.1 = k)).map (·.2)
@[simp] theorem lk_nil {κ α : Type} [DecidableEq κ] (k : κ) : lk ([] : List (κ × α)) k = none := rfl
theorem lk_cons {κ α : Type} [DecidableEq κ] (p : κ × α) (r : List (κ × α)) (k : κ) : lk (p :: r) k = if p.1 = k then some p.2 else lk r k := by
  unfold lk
  by_cases h : p.1 = k
  · simp [h]
  · simp [h]
def pk {κ α : Type} [DecidableEq κ] (kvs : List (κ × α)) (k : κ) (v : α) : List (κ × α) := if (kvs.any fun kv => decide (kv.1 = k)) then kvs.map (fun kv => if kv.1 = k then (kv.1, v) else kv) else kvs ++ [(k, v)]
section
variable {Y : Yx} {X : Cx} {W : WX} {G : Hp}
theorem key_v {v : V} {d : D} {k : Key} (e : keyD d = some k) (a : At Y G v d) : v = kV k := by
  cases d <;> first | cases e | skip
  · exact a
  · exact a
theorem tkey_v : ∀ {vs : List V} {ds : List D} {ks : List Key}, tkey ds = some ks → AtL Y G vs ds → vs = ks.map kV
  | _, [], ks, e, a => by cases (show _ = [] from a); cases e; rfl
  | _, d :: ds, ks, e, ⟨v, r, h, q, t⟩ => by
    subst h
    unfold tkey at e
    obtain ⟨k, e1, e2⟩ := Option.bind_eq_some_iff.mp e
    obtain ⟨ks', e3, e4⟩ := Option.map_eq_some_iff.mp e2
    subst e4
    rw [key_v e1 q, tkey_v e3 t]; rfl
theorem AtK.lk : ∀ {vs : List (Key × V)} {ds : List (Key × D)} (k : Key), AtK Y G vs ds → (∀ d, PL.lk ds k = some d → ∃ v, valV vs k = some v ∧ At Y G v d) ∧ (PL.lk ds k = none → valV vs k = none)
  | _, [], k, a => by cases (show _ = [] from a); exact ⟨fun d e => (nomatch e), fun _ => rfl⟩
  | _, (k0, d0) :: ds, k, ⟨v, q, h, a, t⟩ => by
    subst h
    obtain ⟨i1, i2⟩ := AtK.lk k t
    rw [lk_cons]
    by_cases h : k0 = k
    · rw [if_pos h, valV_pos (p := (k0, v)) h]
      exact ⟨fun d e => by cases e; exact ⟨v, rfl, a⟩, fun e => (nomatch e)⟩
    · rw [if_neg h, valV_neg (p := (k0, v)) h]
      exact ⟨i1, i2⟩
theorem AtT.lk : ∀ {vs : List (List Key × V)} {ds : List (List Key × D)} (k : List Key), AtT Y G vs ds → (∀ d, PL.lk ds k = some d → ∃ v, valV vs k = some v ∧ At Y G v d) ∧ (PL.lk ds k = none → valV vs k = none)
  | _, [], k, a => by cases (show _ = [] from a); exact ⟨fun d e => (nomatch e), fun _ => rfl⟩
  | _, (k0, d0) :: ds, k, ⟨v, q, h, a, t⟩ => by
    subst h
    obtain ⟨i1, i2⟩ := AtT.lk k t
    rw [lk_cons]
    by_cases h : k0 = k
    · rw [if_pos h, valV_pos (p := (k0, v)) h]
      exact ⟨fun d e => by cases e; exact ⟨v, rfl, a⟩, fun e => (nomatch e)⟩
    · rw [if_neg h, valV_neg (p := (k0, v)) h]
      exact ⟨i1, i2⟩
theorem AtK.any : ∀ {vs : List (Key × V)} {ds : List (Key × D)} (k : Key), AtK Y G vs ds → (vs.any fun kv => decide (kv.1 = k)) = (ds.any fun kv => decide (kv.1 = k))
  | _, [], k, a => by cases (show _ = [] from a); rfl
  | _, (k0, d0) :: ds, k, ⟨v, q, h, a, t⟩ => by subst h; rw [List.any_cons, List.any_cons, AtK.any k t]
theorem AtT.any : ∀ {vs : List (List Key × V)} {ds : List (List Key × D)} (k : List Key), AtT Y G vs ds → (vs.any fun kv => decide (kv.1 = k)) = (ds.any fun kv => decide (kv.1 = k))
  | _, [], k, a => by cases (show _ = [] from a); rfl
  | _, (k0, d0) :: ds, k, ⟨v, q, h, a, t⟩ => by subst h; rw [List.any_cons, List.any_cons, AtT.any k t]
theorem AtK.append : ∀ {vs ws : List (Key × V)} {ds es : List (Key × D)}, AtK Y G vs ds → AtK Y G ws es → AtK Y G (vs ++ ws) (ds ++ es)
  | _, _, [], _, a, b => by cases (show _ = [] from a); exact b
  | _, _, (k0, d0) :: ds, _, ⟨v, q, h, a, t⟩, b => by subst h; exact ⟨v, _, rfl, a, AtK.append t b⟩
theorem AtT.append : ∀ {vs ws : List (List Key × V)} {ds es : List (List Key × D)}, AtT Y G vs ds → AtT Y G ws es → AtT Y G (vs ++ ws) (ds ++ es)
  | _, _, [], _, a, b => by cases (show _ = [] from a); exact b
  | _, _, (k0, d0) :: ds, _, ⟨v, q, h, a, t⟩, b => by subst h; exact ⟨v, _, rfl, a, AtT.append t b⟩
theorem AtK.repl {x : V} {d : D} (k : Key) (hx : At Y G x d) : ∀ {vs : List (Key × V)} {ds : List (Key × D)}, AtK Y G vs ds → AtK Y G (vs.map fun kv => if kv.1 = k then (kv.1, x) else kv) (ds.map fun kv => if kv.1 = k then (kv.1, d) else kv)
  | _, [], a => by cases (show _ = [] from a); rfl
  | _, (k0, d0) :: ds, ⟨v, q, h, a, t⟩ => by
    subst h
    rw [List.map_cons, List.map_cons]
    by_cases h : k0 = k
    · rw [if_pos h, if_pos h]; exact ⟨x, _, rfl, hx, AtK.repl k hx t⟩
    · rw [if_neg h, if_neg h]; exact ⟨v, _, rfl, a, AtK.repl k hx t⟩
theorem AtT.repl {x : V} {d : D} (k : List Key) (hx : At Y G x d) : ∀ {vs : List (List Key × V)} {ds : List (List Key × D)}, AtT Y G vs ds → AtT Y G (vs.map fun kv => if kv.1 = k then (kv.1, x) else kv) (ds.map fun kv => if kv.1 = k then (kv.1, d) else kv)
  | _, [], a => by cases (show _ = [] from a); rfl
  | _, (k0, d0) :: ds, ⟨v, q, h, a, t⟩ => by
    subst h
    rw [List.map_cons, List.map_cons]
    by_cases h : k0 = k
    · rw [if_pos h, if_pos h]; exact ⟨x, _, rfl, hx, AtT.repl k hx t⟩
    · rw [if_neg h, if_neg h]; exact ⟨v, _, rfl, a, AtT.repl k hx t⟩
theorem AtK.put {x : V} {d : D} {vs : List (Key × V)} {ds : List (Key × D)} (a : AtK Y G vs ds) (k : Key) (hx : At Y G x d) : AtK Y G (putK vs k x) (pk ds k d) := by
  unfold putK pk
  rw [a.any k]
  split
  · exact a.repl k hx
  · exact a.append ⟨x, [], rfl, hx, rfl⟩
theorem AtT.put {x : V} {d : D} {vs : List (List Key × V)} {ds : List (List Key × D)} (a : AtT Y G vs ds) (k : List Key) (hx : At Y G x d) : AtT Y G (putK vs k x) (pk ds k d) := by
  unfold putK pk
  rw [a.any k]
  split
  · exact a.repl k hx
  · exact a.append ⟨x, [], rfl, hx, rfl⟩
/-- what a dict says of a key: nothing is known, it is not there, it is there -/
def dk : D → D → Option (Option D)
  | .dK kvs, k => (keyD k).map (lk kvs)
  | .dT kvs, .tup ks => (tkey ks).map (lk kvs)
  | _, _ => none
theorem dk_v {h : Addr → Prop} {H : Hp} {x y : V} {d e : D} {o : Option D} (a : At Y (hd h H) x d) (b : At Y (hd h H) y e) (z : dk d e = some o) : ∃ (p : Addr) (r : Option V), x = .ref p ∧ IsD H p ∧ DGet H p y r ∧ (∀ c, o = some c → ∃ v, r = some v ∧ At Y (hd h H) v c) ∧ (o = none → r = none) := by
  cases d <;> first | cases z | skip
  · rename_i kvs
    obtain ⟨p, xs, rfl, rd, q⟩ := a
    obtain ⟨k, e1, e2⟩ := Option.map_eq_some_iff.mp z
    obtain ⟨l1, l2⟩ := q.lk k
    have rd' := (RLe.of_same hd_le).rd (u := .dK xs) (fun _ _ e => (nomatch e)) rd
    refine ⟨p, valV xs k, rfl, .inl ⟨xs, rd'⟩, .inl ⟨xs, k, rd', key_v e1 b, rfl⟩, fun c ec => ?_, fun ec => ?_⟩
    · exact l1 c (by rw [e2]; exact ec)
    · exact l2 (by rw [e2]; exact ec)
  · rename_i kvs
    cases e <;> first | cases z | skip
    rename_i ks
    obtain ⟨p, xs, rfl, rd, q⟩ := a
    obtain ⟨m, ws, rfl, hM, _, aw⟩ := b
    obtain ⟨k, e1, e2⟩ := Option.map_eq_some_iff.mp z
    obtain ⟨l1, l2⟩ := q.lk k
    have rd' := (RLe.of_same hd_le).rd (u := .dT xs) (fun _ _ e => (nomatch e)) rd
    refine ⟨p, valV xs k, rfl, .inr ⟨xs, rd'⟩, .inr ⟨xs, k, m, rd', rfl, by rw [← tkey_v e1 aw]; exact hd_le _ _ hM, rfl⟩, fun c ec => ?_, fun ec => ?_⟩
    · exact l1 c (by rw [e2]; exact ec)
    · exact l2 (by rw [e2]; exact ec)

/-! ### subscripts -/
def rIxD : R2 := fun x y H Q => ∃ a v, x = .ref a ∧ DGet H a y (some v) ∧ Q v H
theorem ix_dict (hu : X.A.units + 1 < cLine) : IxR X rIxD := by
  intro value slice pins s σ H x y v u Q I rx ry h hs
  obtain ⟨a, z, rfl, g, q⟩ := h
  cases rx
  exact PyProof.Rows.tail_any (dict_typeIs I g) PySem.F.slot_dict_getitem.lookup (d_getItem hu I g ry fun w' s' I' r => ⟨z, H, I', r, q⟩) hs
def rIxA (K : PySem.W.Frag) : R2 := fun x y H Q => rIx K x y H Q ∨ rIxD x y H Q
theorem o_idx (hu : X.A.units + 1 < cLine) : IxR X (rIxA X.K) := ix_seq.or (ix_dict hu)
def idxD : D → D → Option D := fun d e => match d, e with
  | .lst xs, .int i => atI xs i
  | .tup xs, .int i => atI xs i
  | .scr xs, .int i => (atI xs i).map .int
  | .str z, .int i => if z.length ≤ cap then (atI z.cps.toList i).map fun c => .str ⟨#[c]⟩ else none
  | d, e => (dk d e).bind id
theorem atI_at {vs : List V} {ds : List D} {i : Int} {c : D} (a : AtL Y G vs ds) (e : atI ds i = some c) : ∃ v, atI vs i = some v ∧ At Y G v c := by
  unfold atI at e ⊢
  rw [a.length]
  obtain ⟨j, e1, e2⟩ := Option.bind_eq_some_iff.mp e
  obtain ⟨v, h1, h2⟩ := a.get e2
  exact ⟨v, by rw [e1]; exact h1, h2⟩
theorem idx_d {d e c : D} (z : (dk d e).bind id = some c) : dk d e = some (some c) := by
  cases h : dk d e with
  | none => rw [h] at z; cases z
  | some o => rw [h] at z; cases o with
    | none => cases z
    | some x => cases z; rfl
theorem v_idx : VOp Y (rIxA Y.K) idxD := fun hh H x y d e c Q al a b z q => by
  have viaD : (dk d e).bind id = some c → rIxA Y.K x y H Q := fun z => by
    obtain ⟨p, r, e1, _, g, k, _⟩ := dk_v a b (idx_d z)
    obtain ⟨v, e2, av⟩ := k c rfl
    subst e2
    exact .inr ⟨p, v, e1, g, q v H (Same.refl H) av⟩
  cases d with
  | lst xs =>
    cases e with
    | int i =>
      obtain ⟨p, vs, rfl, hL, _, al'⟩ := a
      obtain ⟨v, e1, av⟩ := atI_at al' z
      exact .inl (.inl ⟨p, vs, i, v, rfl, b, .of (hd_le _ _ hL), e1, q v H (Same.refl H) av⟩)
    | _ => exact viaD z
  | tup xs =>
    cases e with
    | int i =>
      obtain ⟨p, vs, rfl, hL, _, al'⟩ := a
      obtain ⟨v, e1, av⟩ := atI_at al' z
      exact .inl (.inr (.inl ⟨p, vs, i, v, rfl, b, .of (hd_le _ _ hL), e1, q v H (Same.refl H) av⟩))
    | _ => exact viaD z
  | scr ns =>
    cases e with
    | int i =>
      obtain ⟨p, rfl, hL⟩ := a
      obtain ⟨n, e1, e2⟩ := Option.map_eq_some_iff.mp z
      refine .inl (.inl ⟨p, ns.map V.int, i, .int n, rfl, b, (RLe.of_same hd_le).seqL hL, ?_, q _ H (Same.refl H) (by rw [← e2]; rfl)⟩)
      unfold atI at e1 ⊢
      rw [List.length_map]
      obtain ⟨j, e3, e4⟩ := Option.bind_eq_some_iff.mp e1
      rw [e3]
      show (ns.map V.int)[j]? = _
      rw [List.getElem?_map, e4]; rfl
    | _ => exact viaD z
  | str s =>
    cases e with
    | int i =>
      have z2 : (if s.length ≤ cap then (atI s.cps.toList i).map fun c => D.str ⟨#[c]⟩ else none) = some c := z
      by_cases hl : s.length ≤ cap
      · rw [if_pos hl] at z2
        obtain ⟨n, e1, e2⟩ := Option.map_eq_some_iff.mp z2
        exact .inl (.inr (.inr ⟨s, i, n, a, b, by rw [← cap_eq]; exact hl, e1, q _ H (Same.refl H) (by rw [← e2]; rfl)⟩))
      · rw [if_neg hl] at z2; cases z2
    | _ => exact viaD z
  | _ => exact viaD z
variable {a b : Expr} {f g : EF D} {pos : Pos}
theorem px_idx (hu : X.A.units + 1 < cLine) (ha : PE X a (tE Y W f)) (hb : PE X b (tE Y W g)) (hs : PlainIx b) (hK : X.K = Y.K := by rfl) : PE X (.Subscript a b pos) (tE Y W (bin f g idxD)) := by
  have h := pe_ix (pos := pos) (o_idx hu) ha hb hs
  rw [hK] at h
  exact PE.imp h fun σ H Q q => bin_rd v_idx q
/-- the item of an owned list -/
def intD : D → Option Int
  | .int i => some i
  | _ => none
def ixoE (i : Nat) (g : EF D) : EF D := fun ρ => match ρ[i]? with
  | some (.ol xs) => (g ρ).bind fun k => ofO ((intD k).bind (atI xs))
  | _ => .bad
theorem px_ixo {i : Nat} (ha : PE X a (tVar i)) (hb : PE X b (tE Y W g)) (hs : PlainIx b) : PE X (.Subscript a b pos) (tE Y W (ixoE i g)) := by
  refine PE.imp (pe_ix ix_list ha hb hs) fun σ H Q ⟨fo, at_, B, ρ, E, h⟩ => ?_
  unfold ixoE at h
  cases es : ρ[i]? with
  | none => rw [es] at h; exact h.elim
  | some s =>
    rw [es] at h
    cases s with
    | ol xs =>
      obtain ⟨p, vs, e1, e2, hp, _, al⟩ := E.sl i _ es
      refine ⟨.ref p, join_some e2, fo, at_, B, ρ, E, (Post.bind h).mono fun k H1 s1 h1 v q => ?_⟩
      obtain ⟨c, e3, h2⟩ := Post.op h1
      obtain ⟨j, e4, e5⟩ := Option.bind_eq_some_iff.mp e3
      have ek : k = .int j := by cases k <;> first | (cases e4; done) | (cases e4; rfl)
      subst ek
      obtain ⟨w, e6, aw⟩ := atI_at al e5
      exact ⟨p, vs, j, w, rfl, q, .of (s1 _ _ hp), e6, h2 H1 (Same.refl H1) w (aw.same (hd_same s1))⟩
    | _ => exact h.elim
/-! ### in, not in -/
def scF : D → Bool
  | .non => true | .bl _ => true | .int _ => true | .str _ => true | _ => false
def inD : D → D → Option Bool := fun d e => match e with
  | .str z => match d with
    | .str x => match x.cps.toList with
      | [c] => some (decide (c ∈ z.cps.toList))
      | _ => none
    | _ => none
  | .lst xs => if (scF d && xs.all fun y => scP y d) || (plE d && decide (dep d ≤ 64) && plL xs && decide (depL xs < 64)) then some (xs.any fun y => deq y d) else none
  | .tup xs => if (scF d && xs.all fun y => scP y d) then some (xs.any fun y => deq y d) else none
  | e => (dk e d).map Option.isSome
def inV : D → D → Option D := fun d e => (inD d e).map .bl
def ninV : D → D → Option D := fun d e => (inD d e).map fun b => .bl (!b)
def rInA (K : PySem.W.Frag) (neg : Bool) : R2 := fun x y H Q => (fun x y H Q => ∃ (c : Nat) (z : Str), x = .str ⟨#[c]⟩ ∧ y = .str z ∧ Q (.bl (if neg then !decide (c ∈ z.cps.toList) else decide (c ∈ z.cps.toList))) H) x y H Q ∨ (rIn K neg x y H Q ∨
  ((fun x y H Q => ∃ d ds, Dp K H x d ∧ Dp K H y (.list ds) ∧ SeqAt.shaped d = true ∧ SeqAt.shaped (.list ds) = true ∧ Q (.bl (if neg then !(ds.any fun z => PyData.eqv z d) else (ds.any fun z => PyData.eqv z d))) H) x y H Q ∨
    (fun x y H Q => ∃ a o, y = .ref a ∧ DGet H a x o ∧ Q (.bl (if neg then !o.isSome else o.isSome)) H) x y H Q))
theorem o_inDict (hu : X.A.units + 1 < cLine) : OpR X (compareOp .In) (fun x y H Q => ∃ a o, y = .ref a ∧ DGet H a x o ∧ Q (.bl o.isSome) H) := by
  intro pins s σ H x y v u Q I rx ry h
  obtain ⟨a, o, rfl, g, q⟩ := h
  cases ry
  exact d_in hu I g rx fun s' I' => ⟨.bl o.isSome, H, I', rfl, q⟩
theorem o_ninDict (hu : X.A.units + 1 < cLine) : OpR X (compareOp .NotIn) (fun x y H Q => ∃ a o, y = .ref a ∧ DGet H a x o ∧ Q (.bl (!o.isSome)) H) := by
  intro pins s σ H x y v u Q I rx ry h
  obtain ⟨a, o, rfl, g, q⟩ := h
  cases ry
  exact d_notIn hu I g rx fun s' I' => ⟨.bl (!o.isSome), H, I', rfl, q⟩
theorem o_in (hu : X.A.units + 65 < cLine) : OpR X (compareOp .In) (rInA X.K false) := op_in_sign.or (op_in_seq.or ((op_inD hu).or (o_inDict (by omega))))
theorem o_nin (hu : X.A.units + 65 < cLine) : OpR X (compareOp .NotIn) (rInA X.K true) := op_notIn_sign.or (op_notIn_seq.or ((op_notInD hu).or (o_ninDict (by omega))))
theorem scP_flat {x y : V} {d e : D} {G : Hp} (h : scP d e = true) (a : At Y G x d) (b : At Y G y e) : flatV x = true ∧ flatV y = true ∧ eqV x y = deq d e := by
  cases d <;> cases e <;> first | (cases h; done) | (cases (show x = _ from a); cases (show y = _ from b); exact ⟨rfl, rfl, by simp [deq, eqV]⟩)
theorem inL_v {x : V} {d : D} (a : At Y G x d) : ∀ {vs : List V} {xs : List D}, (xs.all fun y => scP y d) = true → AtL Y G vs xs → vs.all flatV = true ∧ L2.inV x vs = xs.any fun y => deq y d
  | _, [], _, q => by cases (show _ = [] from q); exact ⟨rfl, rfl⟩
  | _, e :: xs, h, ⟨v, r, e1, q, t⟩ => by
    subst e1
    rw [List.all_cons, Bool.and_eq_true] at h
    obtain ⟨i1, i2⟩ := inL_v a h.2 t
    obtain ⟨s1, s2, s3⟩ := scP_flat h.1 q a
    refine ⟨by rw [List.all_cons, s1, i1]; rfl, ?_⟩
    unfold L2.inV at i2 ⊢
    rw [List.any_cons, List.any_cons, s3, i2]
theorem flat_of {x : V} {d : D} (a : At Y G x d) (h : scF d = true) : flatV x = true := by
  cases d <;> first | (cases h; done) | (cases (show x = _ from a); rfl)
theorem inP_v {d : D} (pd : plE d = true) : ∀ {xs : List D}, plL xs = true → ((pyL xs).any fun z => PyData.eqv z (py d)) = xs.any fun y => deq y d
  | [], _ => rfl
  | e :: xs, h => by
    have h2 : plE e = true ∧ plL xs = true := Bool.and_eq_true_iff.mp h
    show (PyData.eqv (py e) (py d) || (pyL xs).any fun z => PyData.eqv z (py d)) = _
    rw [eqv_of e d h2.1 pd, inP_v pd h2.2]; rfl
theorem inA_v {neg : Bool} {hh : Addr → Prop} {H : Hp} {x y : V} {d e : D} {r : Bool} {Q : VK} (a : At Y (hd hh H) x d) (b : At Y (hd hh H) y e) (z : inD d e = some r) (q : Q (.bl (if neg then !r else r)) H) : rInA Y.K neg x y H Q := by
  have viaD : (dk e d).map Option.isSome = some r → rInA Y.K neg x y H Q := fun z => by
    obtain ⟨o, e1, e2⟩ := Option.map_eq_some_iff.mp z
    obtain ⟨p, rr, e3, _, g, k1, k2⟩ := dk_v b a e1
    refine .inr (.inr (.inr ⟨p, rr, e3, g, ?_⟩))
    have e4 : rr.isSome = r := by
      rw [← e2]
      cases o with
      | none => rw [k2 rfl]; rfl
      | some c => obtain ⟨v, e5, _⟩ := k1 c rfl; rw [e5]; rfl
    rw [e4]; exact q
  cases e with
  | str z' =>
    cases d <;> first | cases z | skip
    rename_i xs
    have z2 : (match xs.cps.toList with
      | [c] => some (decide (c ∈ z'.cps.toList))
      | _ => none) = some r := z
    cases hc : xs.cps.toList with
    | nil => rw [hc] at z2; cases z2
    | cons c t =>
      rw [hc] at z2
      cases t with
      | nil =>
        have ex : xs = ⟨#[c]⟩ := by cases xs with | mk cp => simp only at hc; congr; exact Array.toList_inj.mp (by simpa using hc)
        cases z2
        exact .inl ⟨c, z', by rw [← ex]; exact a, b, q⟩
      | cons c2 t2 => cases z2
  | lst xs =>
    have z2 : (if (scF d && xs.all fun y => scP y d) || (plE d && decide (dep d ≤ 64) && plL xs && decide (depL xs < 64)) then some (xs.any fun y => deq y d) else none) = some r := z
    split at z2
    · rename_i hc
      cases z2
      obtain ⟨p, vs, rfl, hp, _, al⟩ := b
      by_cases hs : (scF d && xs.all fun y => scP y d) = true
      · have hs2 := Bool.and_eq_true_iff.mp hs
        obtain ⟨f1, f2⟩ := inL_v a hs2.2 al
        exact .inr (.inl ⟨p, vs, rfl, .inl (.of (hd_le _ _ hp)), flat_of a hs2.1, f1, by rw [f2]; exact q⟩)
      · have hs1 : (scF d && xs.all fun y => scP y d) = false := by
          cases e : (scF d && xs.all fun y => scP y d) with
          | false => rfl
          | true => exact absurd e hs
        rw [hs1, Bool.false_or] at hc
        simp only [Bool.and_eq_true, decide_eq_true_eq] at hc
        obtain ⟨⟨⟨p1, p2⟩, p3⟩, p4⟩ := hc
        refine .inr (.inr (.inl ⟨py d, pyL xs, dp_of p1 (a.same hd_le), .lst (.of (hd_le _ _ hp)) (dpL_of p3 (al.same hd_le)), shaped_of p1 p2, ?_, by rw [inP_v p1 p3]; exact q⟩))
        have := shaped_of (d := .lst xs) p3 (by show depL xs + 1 ≤ 64; omega)
        exact this
    · cases z2
  | tup xs =>
    have z2 : (if (scF d && xs.all fun y => scP y d) then some (xs.any fun y => deq y d) else none) = some r := z
    split at z2
    · rename_i hc
      cases z2
      obtain ⟨p, vs, rfl, hp, _, al⟩ := b
      have hs2 := Bool.and_eq_true_iff.mp hc
      obtain ⟨f1, f2⟩ := inL_v a hs2.2 al
      exact .inr (.inl ⟨p, vs, rfl, .inr (.of (hd_le _ _ hp)), flat_of a hs2.1, f1, by rw [f2]; exact q⟩)
    · cases z2
  | _ => exact viaD z
theorem v_in : VOp Y (rInA Y.K false) PL.inV := fun hh H x y d e c Q al a b z q => by
  obtain ⟨r, e1, e2⟩ := Option.map_eq_some_iff.mp z
  subst e2
  exact inA_v (neg := false) a b e1 (q _ H (Same.refl H) rfl)
theorem v_nin : VOp Y (rInA Y.K true) ninV := fun hh H x y d e c Q al a b z q => by
  obtain ⟨r, e1, e2⟩ := Option.map_eq_some_iff.mp z
  subst e2
  exact inA_v (neg := true) a b e1 (q _ H (Same.refl H) rfl)
/-! ### len -/
def lenD : List D → Option D
  | [.lst xs] => some (.int xs.length)
  | [.tup xs] => some (.int xs.length)
  | [.scr xs] => some (.int xs.length)
  | [.str z] => if z.length ≤ cap then some (.int z.length) else none
  | [.dK kvs] => some (.int kvs.length)
  | [.dT kvs] => some (.int kvs.length)
  | _ => none
theorem cr_lenK : CallR X (.builtin "len") (fun xs H Q => ∃ a kvs, xs = [V.ref a] ∧ Rd H a (.dK kvs) ∧ Q (.int kvs.length) H) := by
  intro pins s σ H xs us Q I r h
  obtain ⟨a, kvs, rfl, ha, q⟩ := h
  obtain ⟨u, rfl, ru⟩ := vals1 r
  cases ru
  exact d_len I ha fun t s' I' => ⟨.int kvs.length, H, I', ⟨t, rfl⟩, q⟩
theorem cr_lenT : CallR X (.builtin "len") (fun xs H Q => ∃ a kvs, xs = [V.ref a] ∧ Rd H a (.dT kvs) ∧ Q (.int kvs.length) H) := by
  intro pins s σ H xs us Q I r h
  obtain ⟨a, kvs, rfl, ha, q⟩ := h
  obtain ⟨u, rfl, ru⟩ := vals1 r
  cases ru
  obtain ⟨z, hd, ys, rel, dd⟩ := dt_rd I.hok ha
  have hl : kvs.length = ys.length := Paired.length rel
  refine call_len_dictH hd dd (by rw [← hl]; rw [sizeLine_eq] at z; omega) ?_
  rw [← hl]
  exact ⟨.int ((kvs.length : Nat) : Int), H, I.tok _, ⟨_, rfl⟩, q⟩
def rLenA (K : PySem.W.Frag) : List V → Hp → VK → Prop := fun xs H Q => (fun xs H Q => ∃ x n, xs = [x] ∧ LenV K x H n ∧ Q (.int n) H) xs H Q ∨ ((fun xs H Q => ∃ a kvs, xs = [V.ref a] ∧ Rd H a (.dK kvs) ∧ Q (.int kvs.length) H) xs H Q ∨ (fun xs H Q => ∃ a kvs, xs = [V.ref a] ∧ Rd H a (.dT kvs) ∧ Q (.int kvs.length) H) xs H Q)
theorem o_len : CallR X (.builtin "len") (rLenA X.K) := call_len.or (cr_lenK.or cr_lenT)
theorem args1 {hh : Addr → Prop} {H : Hp} {xs : List V} {d : D} (a : AtL Y (hd hh H) xs [d]) : ∃ x, xs = [x] ∧ At Y (hd hh H) x d := by
  obtain ⟨x, r, e, q, t⟩ := a
  cases (show r = [] from t)
  exact ⟨x, e, q⟩
theorem args2 {hh : Addr → Prop} {H : Hp} {xs : List V} {d e : D} (a : AtL Y (hd hh H) xs [d, e]) : ∃ x y, xs = [x, y] ∧ At Y (hd hh H) x d ∧ At Y (hd hh H) y e := by
  obtain ⟨x, r, h, q, t⟩ := a
  obtain ⟨y, h2, q2⟩ := args1 t
  exact ⟨x, y, by rw [h, h2], q, q2⟩
theorem v_len : VCa Y (rLenA Y.K) lenD := fun hh H xs ds c Q al a z q => by
  match ds, z, a with
  | [.lst ys], z, a =>
    cases z
    obtain ⟨x, rfl, p, vs, rfl, hp, _, al'⟩ := args1 a
    exact .inl ⟨.ref p, vs.length, rfl, .inl ⟨vs, .of (hd_le _ _ hp), rfl⟩, by rw [al'.length]; exact q _ H (Same.refl H) rfl⟩
  | [.tup ys], z, a =>
    cases z
    obtain ⟨x, rfl, p, vs, rfl, hp, _, al'⟩ := args1 a
    exact .inl ⟨.ref p, vs.length, rfl, .inr ⟨vs, .of (hd_le _ _ hp), rfl⟩, by rw [al'.length]; exact q _ H (Same.refl H) rfl⟩
  | [.scr ys], z, a =>
    cases z
    obtain ⟨x, rfl, p, rfl, hp⟩ := args1 a
    exact .inl ⟨.ref p, ys.length, rfl, .inl ⟨_, (RLe.of_same hd_le).seqL hp, by simp⟩, q _ H (Same.refl H) rfl⟩
  | [.str s], z, a =>
    have z2 : (if s.length ≤ cap then some (D.int s.length) else none) = some c := z
    split at z2
    · rename_i hl
      cases z2
      obtain ⟨x, rfl, e⟩ := args1 a
      cases (show x = _ from e)
      exact .inl ⟨_, _, rfl, ⟨by rw [← cap_eq]; exact hl, rfl⟩, q _ H (Same.refl H) rfl⟩
    · cases z2
  | [.dK kvs], z, a =>
    cases z
    obtain ⟨x, rfl, p, vs, rfl, hp, al'⟩ := args1 a
    exact .inr (.inl ⟨p, vs, rfl, (RLe.of_same hd_le).rd (fun _ _ e => nomatch e) hp, by rw [al'.length]; exact q _ H (Same.refl H) rfl⟩)
  | [.dT kvs], z, a =>
    cases z
    obtain ⟨x, rfl, p, vs, rfl, hp, al'⟩ := args1 a
    exact .inr (.inr ⟨p, vs, rfl, (RLe.of_same hd_le).rd (fun _ _ e => nomatch e) hp, by rw [al'.length]; exact q _ H (Same.refl H) rfl⟩)
end
end PL

/-! P7: sets of whole numbers that are made of lists. -/
namespace PL
open PySem L2
section
open PyProof.Rows
variable {P : Program} {w : World} {A : Around} {E : Value → Shared → Prop} {s : Shared}
/-- a set just made -/
abbrev nset (w : World) : Obj := { cls := .type "set", dict := none, data := .set #[] 0 (.fresh 0 0 (!w.params.followText "set-order")) }
/-- a list's iterator just made -/
abbrev nlit (l : Addr) : Obj := { cls := .type "list_iterator", data := .fields #[.ref l, .int 0 0] }
set_option maxHeartbeats 3200000 in
/-- set(l) of a list of whole numbers -/
theorem set_of_ints {l : Addr} {items : Array Value} (ns : List Int) {Q : Value → Shared → Prop} (hh : A.handled = none) (hl : s.heap.IsList l items) (hit : IntsAre items.toList ns) (hb : ns.length + 1 < scanBound)
    (h : ∀ (g : Heap) (tk c : Nat), SetR w g s.heap.objs.size (fun j => decide (j ∈ ns)) c → c ≤ ns.length → (∀ b o, s.heap.get? b = some o → g.get? b = some o) → Q (.ref s.heap.objs.size) { s with heap := g, toks := tk }) :
    wpAny (model P w) A (call (.type "set") [.ref l]) Q E s := by
  have many : items.size = ns.length := by
    have q := hit.length
    rw [Array.length_toList] at q; exact q
  obtain ⟨c0, tl0, hmro0⟩ := F.called_set.mro
  have made0 := F.called_set.made
  have sub0 := F.called_set.sub
  refine wpAny_call (codeAny_of_tree (show wpAny _ _ (callAny (.type "set") _) _ _ _ from wpAny_pure ⟨Code.quiet_builtin _ (by decide +kernel), codeAny_builtin F.entry_type_call ?_⟩))
  rw [Around.under_plain (weight_type_call_type "set" [.ref l] []) rfl]
  have ty0 := F.called_set.notType
  have cr0 := F.called_set.canCreate
  have ct0 := F.typeCall_set_1 (.ref l)
  repeat (any_goals (first | assumption | wp_step))
  refine codeAny_mono (code_set_led1 (.ref l) (E := E) (Q₁ := fun x t => x = .ref s.heap.objs.size ∧ t = { s with heap := s.heap.push (nset w) }) ⟨rfl, rfl⟩) fun r t hr => ?_
  cases r with
  | error e => exact hr
  | ok fl =>
    cases fl with
    | ret x =>
      obtain ⟨rfl, rfl⟩ := hr
      have gS : (s.heap.push (nset w)).get? s.heap.objs.size = some (nset w) := Heap.get?_push_size _ rfl
      have tS : Shared.TypeIs { s with heap := s.heap.push (nset w) } (.ref s.heap.objs.size) "set" := ⟨_, gS, rfl⟩
      have li0 := F.called_set.init.lookup
      have bi0 := F.called_set.init.bind (.ref s.heap.objs.size)
      repeat (any_goals (first | assumption | wp_step))
      refine codeAny_mono (codeAny_call_builtin (R := wants (fun r t => r = .none ∧ ∃ g tk c, t = { s with heap := g, toks := tk } ∧ SetR w g s.heap.objs.size (fun j => decide (j ∈ ns)) c ∧ c ≤ ns.length ∧ (∀ b o, s.heap.get? b = some o → g.get? b = some o)) E)
        F.called_set.init.plain F.entry_set_init (check_set_init_1 tS ?_)) fun r2 t2 hr2 => ?_
      · obtain ⟨ol, hol, hcl, nl, hdl⟩ := hl
        obtain ⟨ocls, odict, odata, oslots⟩ := ol
        simp only at hcl hdl
        subst hcl; subst hdl
        have gl : (s.heap.push (nset w)).get? l = some { cls := .type "list", dict := odict, data := .seq items nl, slots := oslots } := Heap.get?_push_of_some _ hol
        have nls := F.sub_list_set
        have nlf := F.sub_list_frozenset
        have nld : (Value.type "list" == Value.type "dict") = false := by decide
        have isl : (s.heap.push (nset w)).IsList l items := ⟨_, gl, rfl, nl, rfl⟩
        unfold Builtin.«set.__init__» noKeywords Builtin.Frozenset.updateFrom
        generalize hPI : pyIter = PI
        wp_walk
        subst hPI
        refine wpAny_pyIter_list isl (wpAny_bind (wpAny_runValue ?_))
        have lS : l < s.heap.objs.size := Heap.lt_size hol
        have lS1 : l < s.heap.objs.size + 1 := Nat.lt_succ_of_lt lS
        have nI : l ≠ (s.heap.push (nset w)).objs.size := by rw [Heap.size_push]; exact Nat.ne_of_lt lS1
        have nS : s.heap.objs.size ∉ [(s.heap.push (nset w)).objs.size, l] := by
          rw [Heap.size_push]; simp only [List.mem_cons, List.not_mem_nil, or_false, not_or]
          exact ⟨Nat.ne_of_lt (Nat.lt_succ_self _), Nat.ne_of_gt lS⟩
        have val : ∀ (i : Nat) (v : Value), items[i]? = some v → ∃ k t, ns[i]? = some k ∧ v = .int k t := fun i v hv => by
          have hi : i < ns.length := by rw [← many]; exact (Array.getElem?_eq_some_iff.mp hv).1
          obtain ⟨t, e⟩ := hit.int_at i v (by rw [Array.getElem?_toList]; exact hv)
          refine ⟨ns[i], t, List.getElem?_eq_getElem hi, ?_⟩
          rw [e, List.getD_eq_getElem?_getD, List.getElem?_eq_getElem hi] <;> rfl
        refine set_update_ints ((Walks.list (by simp [hh]) _ l nI items).toS) s.heap.objs.size nS ns many hb val (items.size - 0) 0 _ (by omega) (Nat.zero_le _) ⟨⟨_, Heap.get?_push_size _ rfl, rfl, rfl⟩, isl.push _⟩ ?start ?done
        case start =>
          have g2 : ((s.heap.push (nset w)).push (nlit l)).get? s.heap.objs.size = some (nset w) := Heap.get?_push_of_some _ gS
          exact ⟨0, Nat.le_refl 0, setR_new_at g2⟩
        case done =>
          intro s' c' hm hc' hS'
          obtain ⟨g, gn, dr, tk', os'⟩ := s'
          have eg : gn = s.gens := hm.gens
          have ed : dr = s.drawn := hm.drawn
          have eo : os' = s.os := hm.os
          subst eg; subst ed; subst eo
          refine wpAny_pure (show wpAny _ _ (ret Value.none) _ _ _ from ?_)
          rw [many] at hc'
          refine wpAny_pure ⟨rfl, g, tk', c', rfl, hS', hc', fun b o e => ?_⟩
          have b0 : b < s.heap.objs.size := Heap.lt_size e
          have b2 : b ≠ (s.heap.push (nset w)).objs.size := by rw [Heap.size_push]; exact Nat.ne_of_lt (Nat.lt_succ_of_lt b0)
          exact hm.heap b o (by simp only [List.mem_cons, List.not_mem_nil, or_false, not_or]; exact ⟨Nat.ne_of_lt b0, b2⟩) (Heap.get?_push_of_some _ (Heap.get?_push_of_some _ e))
      · cases r2 with
        | error e => exact hr2
        | ok fl2 =>
          cases fl2 with
          | ret r =>
            obtain ⟨rfl, g, tk, c, rfl, hS', hc', hk'⟩ := hr2
            repeat (any_goals (first | assumption | wp_step))
            exact h _ _ _ hS' hc' hk'
          | _ => exact hr2.elim
    | _ => exact hr.elim
end
end PL

/-! P8: promises of defs where nothing is guarded (repr wants it); calls by name, methods, instances. -/
namespace PL
open PySem PySem.Spec L2

/-- a def's promise, called where nothing is guarded -/
structure FnG (Y : Yx) (P : Program) (w : World) (mg : Str → Option Value) (base : Heap) (k : Nat) (f : Addr) (fd : FuncData) (ps : List Str) (sp : Sp) : Prop where
  ln : ∀ vs H Q E, sp vs H Q E → vs.length = ps.length
  go : ∀ (A : Around) (outer : List Env) (s : Shared) (H : Hp) (ar : Args) (us : List Value) (vs : List V) (Q : VK) (E : XK), A.guards = some [] → Room k A → Env0 P w Y.K mg base A outer s H → BindsTo s fd ar (ps.zip us) → Vals vs us → sp vs H Q E →
    codeAny (model P w) A (.call (.ref f) ar) (CR (L2.CX P w) outer P w H s Q E) s
section
variable {Y : Yx} {P : Program} {w : World} {mg : Str → Option Value} {base : Heap} {k : Nat} {f : Addr} {fd : FuncData} {ps : List Str} {sp sp' : Sp}
theorem FnG.up {j : Nat} (F : FnG Y P w mg base j f fd ps sp) (h : j ≤ k) : FnG Y P w mg base k f fd ps sp := ⟨F.ln, fun A outer s H ar us vs Q E g r => F.go A outer s H ar us vs Q E g (r.mono h)⟩
theorem FnG.imp (F : FnG Y P w mg base k f fd ps sp) (h : ∀ vs H Q E, sp' vs H Q E → sp vs H Q E) : FnG Y P w mg base k f fd ps sp' :=
  ⟨fun vs H Q E q => F.ln vs H Q E (h _ _ _ _ q), fun A outer s H ar us vs Q E g r e b v q => F.go A outer s H ar us vs Q E g r e b v (h _ _ _ _ q)⟩
theorem body_ends {CX : CXT} {outer : List Env} {s s' : Shared} {H H' : Hp} {Q : VK} {E : XK} {fl : Fl} {v : V} {u : Value} (h : CE outer P w H s Q u s') : CR CX outer P w H s Q E (.ok (.ret u)) s' := h
/-- the rule for a def -/
theorem fnG_of {x qual : Str} {st : Stmt} {N : List Str} (Fd : FnP Y.K x qual st f fd) (S : FnScope N ps (defScope st)) (ln : ∀ vs H Q E, sp vs H Q E → vs.length = ps.length)
    (hbody : ∀ (cdv : Value) (A : Around) (outer : List Env) (s : Shared) (H : Hp) (vs : List V) (Q : VK) (E : XK), (A.deeper (PyProof.Rows.envOfC qual (defScope st) s.heap.objs.size f cdv)).guards = some [] → Room k (A.deeper (PyProof.Rows.envOfC qual (defScope st) s.heap.objs.size f cdv)) → sp vs H Q E →
      ∃ t, PSs (cxOf (L2.CX P w) P w Y.K mg base N qual (defScope st) f cdv A outer s H E) (defBody st) t ∧ t { nx := fun _ H' => Q .non H', rt := Q } (start N vs) H) : FnG Y P w mg base (k + 1) f fd ps sp := by
  obtain ⟨oc, od, dV, kV, doc, pm, an, cdv, ct, osl, rfl, lk, hcd, _, _⟩ := Fd.ex
  refine ⟨ln, fun A outer s H ar us vs Q E gd room e0 bd rv q => ?_⟩
  have inK : Y.K.In s.heap := e0.mod.kin.keeps fun b o e => (e0.bs b o e).1
  have nolim : s.heap.NoLimit := e0.mod.nolimit.keeps fun b o e => (e0.bs b o e).1
  refine codeAny_call_function room.depth (inK _ _ lk) rfl S.co S.gen rfl (PySem.W.codeRec_of inK hcd) (bd _ _ _ _ ?_)
  refine wpAny_newFunctionEnv_cells S.kind (fun ⟨n, v⟩ hy => ?_) fun env he s1 x => ?_
  · rcases S.par n (List.of_mem_zip hy).1 with z | z
    · exact .inl z
    · exact .inr ⟨z, PySem.W.cellsFrom_some _ _ _ (.inl z)⟩
  subst he
  refine ⟨nolim.keeps x.toInCall.keep, codeAny_func ?_⟩
  obtain ⟨t, ht, hq⟩ := hbody cdv A outer s H vs Q E gd (room.deeper _) q
  have I : Inv (cxOf (L2.CX P w) P w Y.K mg base N qual (defScope st) f cdv A outer s H E) [] (start N vs) H s1 := inv_start S room.hd e0 (ln _ _ _ _ q) rv x
  refine wpAny_mono (ht.run [] s1 (start N vs) H _ I hq) (fun fl s' z => ?_) fun e s' z => z
  cases fl with
  | ret u => obtain ⟨v, σ', H', J, r, q⟩ := z; exact ⟨v, H', J.os, J.bare, J.base, J.hok, r, q⟩
  | next => obtain ⟨σ', H', J, q⟩ := z; exact ⟨V.non, H', J.os, J.bare, J.base, J.hok, rfl, q⟩
  | brk => obtain ⟨_, _, _, q⟩ := z; exact q.elim
  | cont => obtain ⟨_, _, _, q⟩ := z; exact q.elim
/-- the rule for a def with a mirror -/
theorem fnM_of {x qual : Str} {st : Stmt} {N : List Str} {F : SF} (Fd : FnP Y.K x qual st f fd) (S : FnScope N ps (defScope st))
    (hbody : ∀ (cdv : Value) (A : Around) (outer : List Env) (s : Shared) (H : Hp) (E : XK), (A.deeper (PyProof.Rows.envOfC qual (defScope st) s.heap.objs.size f cdv)).guards = some [] → Room k (A.deeper (PyProof.Rows.envOfC qual (defScope st) s.heap.objs.size f cdv)) →
      PSs (cxOf (L2.CX P w) P w Y.K mg base N qual (defScope st) f cdv A outer s H E) (defBody st) (tS Y (fun cls d _ H => E cls d H) F)) : FnG Y P w mg base (k + 1) f fd ps (spM Y ps.length (bodyM N.length F)) := by
  refine fnG_of Fd S (fun vs H Q E h => ?_) (fun cdv A outer s H vs Q E hg hr h => ⟨_, hbody cdv A outer s H E hg hr, ?_⟩)
  · obtain ⟨fo, ds, hn, al, a, _⟩ := h
    rw [← hn]; exact a.length
  · obtain ⟨fo, ds, hn, al, a, p⟩ := h
    have hl : ps.length ≤ N.length := by have := congrArg List.length S.pre; rw [List.length_take] at this; omega
    refine ⟨fo, _, H, _, env_start al a (by omega), ?_⟩
    unfold bodyM at p
    cases e : F (ds.map .dat ++ List.replicate (N.length - ds.length) .no) with
    | none => rw [e] at p; exact p.elim
    | some o =>
      rw [e] at p
      cases o with
      | nx ρ' => exact fun a σ' H' E' => p .non H' none E'.same (fun _ e => nomatch e) ⟨rfl, _, rfl, rfl⟩ (fun z => nomatch z)
      | ret s => exact p
      | rs ρ' c ps => exact fun a σ' H' H2 dd E' s x => p dd H2 (E'.same.trans s) (x.base E'.same)
      | brk ρ' => exact p.elim
      | cnt ρ' => exact p.elim
end
/-- a def by name, and all that a caller wants -/
def Fok (Y : Yx) (P : Program) (w : World) (mg : Str → Option Value) (base : Heap) (k : Nat) (x : Str) (n : Nat) (M : Mi) : Prop :=
  ∃ (f : Addr) (fd : FuncData) (ps : List Str), ps.length = n ∧ mg x = some (.ref f) ∧ PySem.W.keepIn Y.K (.ref f) = true ∧ Binds Y.K fd ps [] ∧ FnG Y P w mg base k f fd ps (spM Y n M)
theorem Fok.up {Y : Yx} {P : Program} {w : World} {mg : Str → Option Value} {base : Heap} {j k : Nat} {x : Str} {n : Nat} {M : Mi} (F : Fok Y P w mg base j x n M) (h : j ≤ k) : Fok Y P w mg base k x n M :=
  let ⟨f, fd, ps, a, b, c, d, e⟩ := F; ⟨f, fd, ps, a, b, c, d, e.up h⟩
/-- a method of the class -/
def Mok (Y : Yx) (P : Program) (w : World) (mg : Str → Option Value) (base : Heap) (k : Nat) (x : Str) (n : Nat) (M : Mi) : Prop :=
  ∃ (f : Addr) (fd : FuncData) (ps : List Str), ps.length = n ∧ Cls Y.K Y.C ∧ Meth Y.K Y.C x f ∧ Binds Y.K fd ps [] ∧ FnG Y P w mg base k f fd ps (spM Y n M)
theorem Mok.up {Y : Yx} {P : Program} {w : World} {mg : Str → Option Value} {base : Heap} {j k : Nat} {x : Str} {n : Nat} {M : Mi} (F : Mok Y P w mg base j x n M) (h : j ≤ k) : Mok Y P w mg base k x n M :=
  let ⟨f, fd, ps, a, b, c, d, e⟩ := F; ⟨f, fd, ps, a, b, c, d, e.up h⟩

section
variable {X : Cx} {Y : Yx} {W : WX} {k n : Nat} {x m : Str} {M : Mi} {l : EF (List D)} {e o : Expr} {es : List Expr} {p pos apos : Pos} {f : EF D}
/-- the callee runs -/
theorem runG {pins : List (Addr × Obj)} {σ : L2.St} {H : Hp} {s : Shared} {Q : VK} {us : List Value} {vs : List V} {fa : Addr} {fd : FuncData} {ps : List Str} {sp : Sp} (F : FnG Y X.prog X.w X.mg X.base k fa fd ps sp) (hK : X.K = Y.K) (gd : X.A.guards = some []) (hr : Room k X.A) (hb : Binds Y.K fd ps []) (tk : Takes X W)
    (I : Inv X pins σ H s) (r : Vals vs us) (h : sp vs H Q (WE W σ)) : wpAny (model X.prog X.w) X.A (call (.ref fa) us) (EP X pins σ Q) X.xe s := by
  have hl : us.length = ps.length := by rw [← r.length]; exact F.ln _ _ _ _ h
  have b := hb s us (by rw [← hK]; exact I.kIn) (by rw [List.append_nil]; exact hl)
  rw [List.append_nil] at b
  have e0 := I.env0
  rw [hK] at e0
  refine wpAny_call (codeAny_mono (F.go X.A X.stack s H ⟨us, []⟩ us vs Q (WE W σ) gd hr e0 b r h) fun r s' q => ?_)
  cases r with
  | error e => exact passAt tk σ pins H s e s' I q
  | ok fl =>
    cases fl with
    | ret u => exact I.after q
    | next => exact q.elim
    | brk => exact q.elim
    | cont => exact q.elim
/-- a call's arguments meet the promise -/
theorem call_rd {σ : L2.St} {H : Hp} {Q : VK} (hn : ∀ ρ ds, l ρ = .ok ds → ds.length = n) (h : tO Y W (mcO M l) σ H Q) : tL Y W l σ H fun vs H1 => spM Y n M vs H1 Q (WE W σ) := mc_rd hn h
theorem po_call (F : Fok Y X.prog X.w X.mg X.base k x n M) (hK : X.K = Y.K) (gd : X.A.guards = some []) (hr : Room k X.A) (tk : Takes X W) (hg : Gl X x) (ha : PA X (e :: es) (tL Y W l)) (hn : ∀ ρ ds, l ρ = .ok ds → ds.length = n)
    (hdb : (x == ("__debug__" : Str)) = false := by decide) (he : starEach (e :: es) X.env = (false, eval e X.env) :: starEach es X.env := by rfl) (hpl : (backTo pos (starEach es X.env)).any (·.1) = false := by rfl) :
    PE X (.Call (.Name x p) (e :: es) [] pos) (tO Y W (mcO M l)) := by
  obtain ⟨fa, fd, ps, hps, hm, hk, hb, F⟩ := F
  refine ⟨fun pins s σ H Q I h => ?_⟩
  refine wpAny_Call_Name_kw (ld_glob I hg hm ?_ hdb)
  exact PySem.W.callWith_K (h₀ := X.base) I.ok.mod.kin (by rw [hK]; exact hk) (thn (ha.run pos pins s σ H _ I (call_rd hn h)) fun us s1 ⟨vs, H1, I1, r, q⟩ => ⟨I1.kIn, runG F hK gd hr hb tk I1 r q⟩) he hpl
theorem po_call0 (F : Fok Y X.prog X.w X.mg X.base k x 0 M) (hK : X.K = Y.K) (gd : X.A.guards = some []) (hr : Room k X.A) (tk : Takes X W) (hg : Gl X x) (hdb : (x == ("__debug__" : Str)) = false := by decide) :
    PE X (.Call (.Name x p) [] [] pos) (tO Y W (mcO M nilL)) := by
  obtain ⟨fa, fd, ps, hps, hm, hk, hb, F⟩ := F
  refine ⟨fun pins s σ H Q I h => ?_⟩
  refine wpAny_Call_Name_kw (ld_glob I hg hm ?_ hdb)
  have q := (call_rd (l := nilL) (n := 0) (fun ρ ds e => by cases e; rfl) h)
  obtain ⟨fo, at_, B, ρ, E, q⟩ := q
  exact PySem.W.callWith_K0 I.kIn (by rw [hK]; exact hk) (runG (us := []) F hK gd hr hb tk I .nil ((q : Post Y W σ H (.ok []) _).now [] rfl))
theorem AtF.look {G : Hp} {z : Str} : ∀ {vs : List (Str × V)} {ds : List (Str × D)}, AtF Y G vs ds → (∀ d, ds.lookup z = some d → ∃ v, vs.lookup z = some v ∧ At Y G v d) ∧ (ds.lookup z = none → vs.lookup z = none)
  | _, [], a => by cases (show _ = [] from a); exact ⟨fun d e => (nomatch e), fun _ => rfl⟩
  | _, (k, d) :: ds, ⟨v, r, e, q, t⟩ => by
    subst e
    rw [List.lookup_cons, List.lookup_cons]
    cases h : (z == k) with
    | true => exact ⟨fun d' e => by cases e; exact ⟨v, rfl, q⟩, fun e => nomatch e⟩
    | false => exact AtF.look t
/-- the object and the arguments -/
@[simp] def obE (m : Str) (f : EF D) (l : EF (List D)) : EF (List D) := fun ρ => (f ρ).bind fun d => match d with
  | .ob fs => if (fs.lookup m).isNone then (l ρ).bind fun ds => .ok (.ob fs :: ds) else .bad
  | _ => .bad
theorem obE_len {n : Nat} (hn : ∀ ρ ds, l ρ = .ok ds → ds.length = n) : ∀ ρ ds, obE m f l ρ = .ok ds → ds.length = n + 1 := fun ρ ds h => by
  unfold obE at h
  cases e : f ρ with
  | ex c ps => rw [e] at h; cases h
  | bad => rw [e] at h; cases h
  | ok d =>
    rw [e, bind_ok] at h
    cases d with
    | ob fs =>
      dsimp only at h
      split at h
      · cases el : l ρ with
        | ex c ps => rw [el] at h; cases h
        | bad => rw [el] at h; cases h
        | ok ds' => rw [el, bind_ok] at h; cases h; rw [List.length_cons, hn ρ ds' el]
      · cases h
    | _ => cases h
theorem meth_rd {σ : L2.St} {H : Hp} {Q : VK} (hn : ∀ ρ ds, l ρ = .ok ds → ds.length + 1 = n) (h : tO Y W (mcO M (obE m f l)) σ H Q) :
    tE Y W f σ H fun x H1 => ∃ a dx fs, x = .ref a ∧ H1 a = some (.ins Y.C dx fs) ∧ fs.lookup m = none ∧ tL Y W l σ H1 fun vs H2 => spM Y n M (x :: vs) H2 Q (WE W σ) := by
  obtain ⟨fo, at_, B, ρ, E, h⟩ := h
  refine ⟨fo, at_, B, ρ, E, ?_⟩
  unfold mcO obE at h
  cases ef : f ρ with
  | bad => rw [ef] at h; exact h.elim
  | ex c ps => rw [ef] at h; exact h
  | ok d =>
    rw [ef, bind_ok] at h
    cases d with
    | ob fs =>
      dsimp only at h
      split at h
      · rename_i hl
        intro H1 s1 v a
        obtain ⟨ad, dx, xs, ev, g, af⟩ := a
        subst ev
        refine ⟨ad, dx, xs, rfl, (hd_some g).2, af.look.2 (Option.isNone_iff_eq_none.mp hl), fo, at_, B, ρ, E.ext s1, ?_⟩
        cases el : l ρ with
        | bad => rw [el] at h; exact h.elim
        | ex c ps => rw [el] at h; exact fun dd H' s2 x => h dd H' (s1.trans s2) (x.base s1)
        | ok ds =>
          rw [el, bind_ok, bind_ok] at h
          intro H2 s2 vs av
          refine ⟨hid fo at_, .ob fs :: ds, by rw [List.length_cons]; exact hn ρ ds el, ((E.ext s1).ext s2).al, ⟨.ref ad, vs, rfl, ⟨ad, dx, xs, rfl, hd_same s2 _ _ g, af.same (hd_same s2)⟩, av⟩, ?_⟩
          cases em : M (.ob fs :: ds) with
          | bad => rw [em] at h; exact h.elim
          | ok s => rw [em] at h; exact fun v H3 oa s3 new r hn => h H3 (s1.trans (s2.trans s3)) v oa (fun a e => s1.free (s2.free (new a e))) r hn
          | ex c ps => rw [em] at h; exact fun dd H3 s3 x => h dd H3 (s1.trans (s2.trans s3)) (x.base (s1.trans s2))
      · exact h.elim
    | _ => exact h.elim
theorem po_meth {pl : Sem Bool} (F : Mok Y X.prog X.w X.mg X.base k m n M) (hK : X.K = Y.K) (gd : X.A.guards = some []) (hr : Room k X.A) (tk : Takes X W) (ho : PE X o (tE Y W f)) (ha : PA X (e :: es) (tL Y W l)) (hn : ∀ ρ ds, l ρ = .ok ds → ds.length + 1 = n)
    (he : starEach (e :: es) X.env = (false, eval e X.env) :: starEach es X.env := by rfl) (hpl : (backTo pos (starEach es X.env)).any (·.1) = false := by rfl)
    (ht : eval (.Call (.Attribute o m apos) (e :: es) [] pos) X.env = (do
      let ov ← eval o X.env
      standAt apos.atName
      let (f, first) ← holding [ov] (getMethod ov m pl)
      callWith pos f first (backTo pos (starEach (e :: es) X.env)) (backToKw pos (keywordEach [] X.env))) := by rfl) :
    PE X (.Call (.Attribute o m apos) (e :: es) [] pos) (tO Y W (mcO M (obE m f l))) := by
  obtain ⟨fa, fd, ps, hps, hc, hm, hb, F⟩ := F
  rw [← hK] at hc hm
  refine ⟨fun pins s σ H Q I h => ?_⟩
  refine PySem.W.methodCall_KW (pl := pl) (thn (ho.run pins s σ H _ I (meth_rd hn h)) fun u s1 ⟨x, H1, I1, rx, a, dx, fs, ex, ea, lo, q⟩ => ?_) ht
  subst ex
  obtain rfl : u = Value.ref a := rx
  refine getmeth_ok I1 ea hc hm lo ?_
  exact PySem.W.callWith_K (first := [.ref a]) (h₀ := X.base) I.ok.mod.kin hm.kp (thn (ha.run pos pins s1 σ H1 _ I1 q) fun us s2 ⟨vs, H2, I2, r, q2⟩ => ⟨I2.kIn, runG (us := .ref a :: us) (vs := .ref a :: vs) F hK gd hr hb tk I2 (.cons rfl r) q2⟩) he hpl
theorem po_meth0 {pl : Sem Bool} (F : Mok Y X.prog X.w X.mg X.base k m 1 M) (hK : X.K = Y.K) (gd : X.A.guards = some []) (hr : Room k X.A) (tk : Takes X W) (ho : PE X o (tE Y W f))
    (ht : eval (.Call (.Attribute o m apos) [] [] pos) X.env = (do
      let ov ← eval o X.env
      standAt apos.atName
      let (f, first) ← holding [ov] (getMethod ov m pl)
      callWith pos f first (backTo pos (starEach [] X.env)) (backToKw pos (keywordEach [] X.env))) := by rfl) :
    PE X (.Call (.Attribute o m apos) [] [] pos) (tO Y W (mcO M (obE m f nilL))) := by
  obtain ⟨fa, fd, ps, hps, hc, hm, hb, F⟩ := F
  rw [← hK] at hc hm
  refine ⟨fun pins s σ H Q I h => ?_⟩
  refine PySem.W.methodCall_KW (pl := pl) (thn (ho.run pins s σ H _ I (meth_rd (n := 1) (l := nilL) (fun ρ ds e => by cases e; rfl) h)) fun u s1 ⟨x, H1, I1, rx, a, dx, fs, ex, ea, lo, q⟩ => ?_) ht
  subst ex
  obtain rfl : u = Value.ref a := rx
  refine getmeth_ok I1 ea hc hm lo ?_
  obtain ⟨fo, at_, B, ρ, E, q⟩ := q
  exact PySem.W.callWith_K0 (first := [.ref a]) I1.kIn hm.kp (runG (us := [.ref a]) (vs := [.ref a]) F hK gd hr hb tk I1 (.cons rfl .nil) ((q : Post Y W σ H1 (.ok []) _).now [] rfl))
/-- a field -/
@[simp] def fldE (m : Str) (f : EF D) : EF D := fun ρ => (f ρ).bind fun d => match d with
  | .ob fs => ofO (fs.lookup m)
  | _ => .bad
theorem px_fldP (hK : X.K = Y.K) (hc : Cls Y.K Y.C) (hn : NoAttr Y.K Y.C m) (ho : PE X o (tE Y W f)) (hb : attributeBase o m X.env (eval o X.env) = eval o X.env) : PE X (.Attribute o m pos) (tE Y W (fldE m f)) := PE.imp (pe_fld ho hb) fun σ H Q ⟨fo, at_, B, ρ, E, h⟩ => by
  rw [hK]
  exact ⟨fo, at_, B, ρ, E, (Post.bind h).mono fun d H1 s1 h1 v a => by
    cases d with
    | ob fs =>
      obtain ⟨ad, dx, xs, ev, g, af⟩ := a
      obtain ⟨c, ec, hc2⟩ := Post.op h1
      obtain ⟨w, ew, aw⟩ := af.look.1 c ec
      exact ⟨ad, _, dx, xs, w, ev, (hd_some g).2, hc, hn, ew, hc2 H1 (Same.refl H1) w aw⟩
    | _ => exact h1.elim⟩
end
/-! ### instances made -/
/-- the promise of an __init__: the fields in the end -/
abbrev MiI := Addr → List D → R (List (Str × D))
def spI (Y : Yx) (n : Nat) (M : MiI) : Sp := fun vs H Q E => ∃ (fo : Addr → Prop) (x dx : Addr) (ws : List V) (ds : List D), vs = .ref x :: ws ∧ ds.length + 1 = n ∧ ¬ fo x ∧ H x = some (.ins Y.C dx []) ∧ Al fo H ∧ AtL Y (hd (fun a => fo a ∨ a = x) H) ws ds ∧
  match M x ds with
  | .ok fs => ∀ H' dx xs, Same (hd (fun a => a = x) H) H' → H' x = some (.ins Y.C dx xs) → AtF Y (hd (fun a => fo a ∨ a = x) H') xs fs → Q .non H'
  | .ex c ps => ∀ dd H', Same (hd (fun a => a = x) H) H' → ExD Y (hd (fun a => a = x) H) H' dd ps → E (.ref (Y.cx c)) dd H'
  | .bad => False
def bodyI (n : Nat) (F : SF) : MiI := fun x ds => match F (.oI x [] :: (ds.map .dat ++ List.replicate (n - 1 - ds.length) .no)) with
  | some (Fl.nx ρ) => (match (ρ[0]? : Option Sl) with
    | some (Sl.oI y fs) => if y = x then .ok fs else .bad
    | _ => .bad)
  | some (.rs _ c ps) => .ex c ps
  | _ => .bad
def at0 (x : Addr) : Nat → Option Addr := fun i => match i with
  | 0 => some x
  | _ => none
theorem at0_some {x b : Addr} {i : Nat} (h : at0 x i = some b) : i = 0 ∧ b = x := by
  cases i with
  | zero => cases h; exact ⟨rfl, rfl⟩
  | succ i => cases h
section
variable {Y : Yx} {P : Program} {w : World} {mg : Str → Option Value} {base : Heap} {k : Nat} {f : Addr} {fd : FuncData} {ps : List Str}
theorem env_init {fo : Addr → Prop} {x dx : Addr} {H : Hp} {ws : List V} {ds : List D} {N : List Str} (nx : ¬ fo x) (hx : H x = some (.ins Y.C dx [])) (al : Al fo H) (a : AtL Y (hd (fun a => fo a ∨ a = x) H) ws ds) (hl : ds.length + 1 ≤ N.length) :
    EnvO Y fo (at0 x) (hd (fun a => a = x) H) (L2.start N (.ref x :: ws)) H (.oI x [] :: (ds.map .dat ++ List.replicate (N.length - 1 - ds.length) .no)) := by
  have eh : hid fo (at0 x) = fun a => fo a ∨ a = x := by
    funext b
    refine propext ⟨fun m => m.elim .inl fun ⟨i, m⟩ => .inr (at0_some m).2, fun m => m.elim .inl fun m => .inr ⟨0, by rw [m]; rfl⟩⟩
  have lv := a.length
  refine ⟨hd_le, al, fun i j b h1 h2 => ?_, fun i b h1 => ?_, fun i b h1 => ?_, ?_, fun i b h1 => ?_, fun i s e => ?_⟩
  · rw [(at0_some h1).1, (at0_some h2).1]
  · rw [(at0_some h1).2]; exact nx
  · unfold hd; rw [if_pos (at0_some h1).2]
  · unfold L2.start; simp; omega
  · intro hl; rw [(at0_some h1).1] at hl; exact absurd hl (Nat.not_succ_le_zero _)
  · rw [eh]
    cases i with
    | zero => cases e; exact ⟨dx, [], rfl, rfl, hx, rfl⟩
    | succ i =>
      rw [List.getElem?_cons_succ] at e
      unfold L2.start
      by_cases hi : i < ds.length
      · rw [List.getElem?_append_left (by simpa using hi), List.getElem?_map, List.getElem?_eq_getElem hi] at e
        cases e
        obtain ⟨v, ev, av⟩ := a.get (List.getElem?_eq_getElem hi)
        rw [List.getElem?_append_left (by simp; omega), List.getElem?_map, List.getElem?_cons_succ, ev]
        exact ⟨rfl, v, rfl, av⟩
      · rw [List.getElem?_append_right (by simpa using hi), List.getElem?_replicate] at e
        split at e
        · cases e; exact rfl
        · cases e
theorem initM_of {x qual : Str} {st : Stmt} {N : List Str} {F : SF} (Fd : FnP Y.K x qual st f fd) (S : FnScope N ps (defScope st))
    (hbody : ∀ (cdv : Value) (A : Around) (outer : List Env) (s : Shared) (H : Hp) (E : XK), (A.deeper (PyProof.Rows.envOfC qual (defScope st) s.heap.objs.size f cdv)).guards = some [] → Room k (A.deeper (PyProof.Rows.envOfC qual (defScope st) s.heap.objs.size f cdv)) →
      PSs (cxOf (L2.CX P w) P w Y.K mg base N qual (defScope st) f cdv A outer s H E) (defBody st) (tS Y (fun cls d _ H => E cls d H) F)) : FnG Y P w mg base (k + 1) f fd ps (spI Y ps.length (bodyI N.length F)) := by
  refine fnG_of Fd S (fun vs H Q E h => ?_) (fun cdv A outer s H vs Q E hg hr h => ⟨_, hbody cdv A outer s H E hg hr, ?_⟩)
  · obtain ⟨fo, x, dx, ws, ds, rfl, hn, _, _, _, a, _⟩ := h
    rw [← hn, List.length_cons, a.length]
  · obtain ⟨fo, x, dx, ws, ds, rfl, hn, nx, hx, al, a, p⟩ := h
    have hl : ps.length ≤ N.length := by have := congrArg List.length S.pre; rw [List.length_take] at this; omega
    refine ⟨fo, at0 x, hd (fun a => a = x) H, _, env_init nx hx al a (by omega), ?_⟩
    unfold bodyI at p
    cases e : F (.oI x [] :: (ds.map .dat ++ List.replicate (N.length - 1 - ds.length) .no)) with
    | none => rw [e] at p; exact p.elim
    | some o =>
      rw [e] at p
      cases o with
      | nx ρ' =>
        intro at2 σ' H' E'
        dsimp only at p
        cases e0 : ρ'[0]? with
        | none => rw [e0] at p; exact p.elim
        | some s =>
          rw [e0] at p
          cases s with
          | oI y fs =>
            dsimp only at p
            by_cases hy : y = x
            · rw [if_pos hy] at p
              obtain ⟨dx', vs, h0, _, hH, af⟩ := E'.sl 0 _ e0
              rw [hy] at h0 hH
              exact p H' dx' vs E'.same hH (af.same (hd_sub fun b m => m.elim .inl fun m => .inr ⟨0, by rw [h0, m]⟩))
            · rw [if_neg hy] at p; exact p.elim
          | _ => exact p.elim
      | ret s => exact p.elim
      | rs ρ' c ps => exact fun a σ' H' H2 dd E' s x => p dd H2 (E'.same.trans s) (x.base E'.same)
      | brk ρ' => exact p.elim
      | cnt ρ' => exact p.elim
end
/-- a class by name, made -/
def Cok (Y : Yx) (P : Program) (w : World) (mg : Str → Option Value) (base : Heap) (k : Nat) (x : Str) (n : Nat) (M : MiI) : Prop :=
  ∃ (f : Addr) (fd : FuncData) (ps : List Str), ps.length = n ∧ mg x = some (.ref Y.C) ∧ Mk Y.K Y.C f ∧ Binds Y.K fd ps [] ∧ FnG Y P w mg base k f fd ps (spI Y n M)
theorem Cok.up {Y : Yx} {P : Program} {w : World} {mg : Str → Option Value} {base : Heap} {j k : Nat} {x : Str} {n : Nat} {M : MiI} (F : Cok Y P w mg base j x n M) (h : j ≤ k) : Cok Y P w mg base k x n M :=
  let ⟨f, fd, ps, a, b, c, d, e⟩ := F; ⟨f, fd, ps, a, b, c, d, e.up h⟩
section
variable {X : Cx} {Y : Yx} {W : WX} {k n : Nat} {x m : Str} {M : MiI} {l : EF (List D)} {e o : Expr} {es : List Expr} {p pos apos : Pos} {f : EF D}
/-- what __init__ does hangs on no address -/
def Even (M : MiI) (ds : List D) : Prop := ∀ x, M x ds = M 0 ds
open Classical in
@[simp] noncomputable def mkE (M : MiI) (l : EF (List D)) : EF D := fun ρ => (l ρ).bind fun ds => if Even M ds then (M 0 ds).bind fun fs => .ok (.ob fs) else .bad
theorem make_guards {A : Around} {C : Addr} {us : List Value} {kw : List (Str × Value)} (h : A.guards = some []) : (A.under (.builtin "type.__call__" ⟨.ref C :: us, kw⟩)).guards = some [] := by
  first | exact h | (simp [Around.under, Code.guards, Code.isGuard, guardIds, pushGuards, h])
theorem px_make (F : Cok Y X.prog X.w X.mg X.base k x (n + 1) M) (hK : X.K = Y.K) (gd : X.A.guards = some []) (hr : Room (k + 1) X.A) (tk : Takes X W) (hg : Gl X x) (ha : PA X (e :: es) (tL Y W l)) (hn : ∀ ρ ds, l ρ = .ok ds → ds.length = n)
    (hdb : (x == ("__debug__" : Str)) = false := by decide) (he : starEach (e :: es) X.env = (false, eval e X.env) :: starEach es X.env := by rfl) (hpl : (backTo pos (starEach es X.env)).any (·.1) = false := by rfl) :
    PE X (.Call (.Name x p) (e :: es) [] pos) (tE Y W (mkE M l)) := by
  obtain ⟨fa, fd, ps, hps, hm, mk, hb, F⟩ := F
  refine ⟨fun pins s σ H Q I h => ?_⟩
  refine wpAny_Call_Name_kw (ld_glob I hg hm ?_ hdb)
  obtain ⟨fo, at_, B, ρ, E, h⟩ := h
  have key : tL Y W l σ H fun vs H1 => ∀ x dx, H1 x = none → H1 dx = none → dx ≠ x → spI Y (n + 1) M (.ref x :: vs) (upd (upd H1 dx (.own x)) x (.ins Y.C dx [])) (fun v H2 => v = .non ∧ Q (.ref x) H2) (WE W σ) := by
    refine ⟨fo, at_, B, ρ, E, ?_⟩
    unfold mkE at h
    cases el : l ρ with
    | bad => rw [el] at h; exact h.elim
    | ex c ps => rw [el] at h; exact h
    | ok ds =>
      rw [el, bind_ok] at h
      by_cases ev : Even M ds
      case neg => rw [if_neg ev] at h; exact h.elim
      rw [if_pos ev] at h
      intro H1 s1 vs a x dx nx nd hne
      have E1 := E.ext s1
      have nhx : ¬ hid fo at_ x := fun m => E1.al x m nx
      have nhd : ¬ hid fo at_ dx := fun m => E1.al dx m nd
      have S2 : Same H1 (upd (upd H1 dx (.own x)) x (.ins Y.C dx [])) := fun b u e => by
        rw [upd_ne (ne_of_none e nx), upd_ne (ne_of_none e nd)]; exact e
      have base : ∀ H', Same (hd (fun a => a = x) (upd (upd H1 dx (.own x)) x (.ins Y.C dx []))) H' → Same H1 H' := fun H' s b u e => s b u ((hd_not (h := fun a => a = x) (ne_of_none e nx)).trans (S2 b u e))
      refine ⟨hid fo at_, x, dx, vs, ds, rfl, by rw [hn ρ ds el], nhx, upd_same, E1.al.same S2, a.same fun b u e => ?_, ?_⟩
      · obtain ⟨n1, e1⟩ := hd_some e
        exact (hd_not fun m => m.elim n1 (ne_of_none e1 nx)).trans (S2 b u e1)
      · rw [ev x]
        cases em : M 0 ds with
        | bad => rw [em] at h; exact h.elim
        | ex c ps => rw [em] at h; exact fun dd H' s q => h dd H' (s1.trans (base H' s)) (q.base (s1.trans (base _ (Same.refl _))))
        | ok fs =>
          rw [em, bind_ok] at h
          exact fun H' dx' xs s hx af => ⟨rfl, h H' (s1.trans (base H' s)) (.ref x) ⟨x, dx', xs, rfl, (hd_not nhx).trans hx, af.same (hd_sub fun b m => .inl m)⟩⟩
  refine PySem.W.callWith_K (h₀ := X.base) I.ok.mod.kin (by rw [hK]; exact mk.kp) (thn (ha.run pos pins s σ H _ I key) fun us s1 ⟨vs, H1, I1, r, q⟩ => ⟨I1.kIn, ?_⟩) he hpl
  have hq := q (s1.heap.objs.size + 1) s1.heap.objs.size (I1.hok.fresh (Nat.le_succ _)) (I1.hok.fresh (Nat.le_refl _)) (Nat.ne_of_lt (Nat.lt_succ_self _))
  have I2 := Inv.made (C := Y.C) I1
  have r2 : Vals (V.ref (s1.heap.objs.size + 1) :: vs) (Value.ref (s1.heap.objs.size + 1) :: us) := .cons rfl r
  have hl : (Value.ref (s1.heap.objs.size + 1) :: us).length = ps.length := by rw [← r2.length]; exact F.ln _ _ _ _ hq
  have e0 := I2.env0.make Y.C us []
  rw [hK] at e0
  have b := hb _ (Value.ref (s1.heap.objs.size + 1) :: us) (by rw [← hK]; exact I2.kIn) (by rw [List.append_nil]; exact hl)
  rw [List.append_nil] at b
  refine wpAny_call (make_map (f := fa) (by rw [← hK]; exact I1.kIn) mk.makes mk.init (beq_iff_eq.mp mk.fn) (codeAny_mono (F.go _ X.stack _ _ ⟨Value.ref (s1.heap.objs.size + 1) :: us, []⟩ (Value.ref (s1.heap.objs.size + 1) :: us) _ _ (WE W σ) (make_guards gd) (hr.make Y.C us []) e0 b r2 hq) fun r s' z => ?_))
  cases r with
  | error e => exact passAt tk σ pins _ _ e s' I2 z
  | ok fl =>
    cases fl with
    | ret u =>
      obtain ⟨v, H', I3, rv, ev, q3⟩ := I2.after z
      subst ev
      exact ⟨rv, ⟨V.ref (s1.heap.objs.size + 1), H', I3, rfl, q3⟩⟩
    | next => exact z.elim
    | brk => exact z.elim
    | cont => exact z.elim
end
end PL

/-! P9: calls of what is built in, methods, slices. -/
namespace PL
open PySem PySem.Spec L2

section
variable {X : Cx} {Y : Yx} {W : WX} {a b e o : Expr} {es : List Expr} {f g : EF D} {l : EF (List D)} {p p2 pos apos : Pos} {x : Str}
/-! ### calls that give an owned thing -/
def VCo (Y : Yx) (r : List V → Hp → VK → Prop) (op : List D → Option Sl) : Prop := ∀ (h : Addr → Prop) (H : Hp) (xs : List V) (ds : List D) (s : Sl) (Q : VK), Al h H → AtL Y (hd h H) xs ds → op ds = some s →
  (∀ v H' oa, Same H H' → (∀ a, oa = some a → H a = none) → SlR Y noG (hd (fun a => h a ∨ oa = some a) H') H' (some v) s oa → s ≠ .no → Q v H') → r xs H Q
@[simp] def cao (l : EF (List D)) (op : List D → Option Sl) : EF Sl := fun ρ => (l ρ).bind fun ds => ofO (op ds)
theorem Post.opS {σ : L2.St} {H : Hp} {m : Option Sl} {K : Sl → Hp → Prop} (h : Post Y W σ H (ofO m) K) : ∃ c, m = some c ∧ ∀ H', Same H H' → K c H' := by
  cases m with
  | none => exact h.elim
  | some c => exact ⟨c, rfl, h⟩
theorem cao_rd {r : List V → Hp → VK → Prop} {op : List D → Option Sl} (v : VCo Y r op) {σ : L2.St} {H : Hp} {Q : VK} (h : tO Y W (cao l op) σ H Q) : tCB r (tL Y W l) σ H Q := by
  obtain ⟨fo, at_, B, ρ, E, h⟩ := h
  refine ⟨fo, at_, B, ρ, E, (Post.bind h).mono fun ds H1 s1 h1 xs a => ?_⟩
  obtain ⟨c, e1, h2⟩ := Post.opS h1
  exact v _ H1 xs ds c Q (E.ext s1).al a e1 fun w H' oa s' n q => h2 H' s' w oa (fun a e => s1.free (n a e)) q
theorem po_callTy {id : String} {r : List V → Hp → VK → Prop} {op : List D → Option Sl} (hc : CallR X (.type id) r) (v : VCo Y r op) (hg : Gl X x) (hm : X.mg x = none) (hv : bootBuiltins x = some (.type id)) (ha : PA X (a :: es) (tL Y W l))
    (hn : x ≠ "__name__" := by decide) (hdb : (x == ("__debug__" : Str)) = false := by decide) (he : starEach (a :: es) X.env = (false, eval a X.env) :: starEach es X.env := by rfl) (hpl : (backTo pos (starEach es X.env)).any (·.1) = false := by rfl) :
    PE X (.Call (.Name x p) (a :: es) [] pos) (tO Y W (cao l op)) := PE.imp (pe_callTy hc hg hm hv ha hn hdb he hpl) fun σ H Q h => cao_rd v h
theorem po_callB {id : String} {r : List V → Hp → VK → Prop} {op : List D → Option Sl} (hc : CallR X (.builtin id) r) (v : VCo Y r op) (hg : Gl X x) (hm : X.mg x = none) (hv : bootBuiltins x = some (.builtin id)) (ha : PA X (a :: es) (tL Y W l))
    (hn : x ≠ "__name__" := by decide) (hdb : (x == ("__debug__" : Str)) = false := by decide) (he : starEach (a :: es) X.env = (false, eval a X.env) :: starEach es X.env := by rfl) (hpl : (backTo pos (starEach es X.env)).any (·.1) = false := by rfl) :
    PE X (.Call (.Name x p) (a :: es) [] pos) (tO Y W (cao l op)) := PE.imp (pe_callB hc hg hm hv ha hn hdb he hpl) fun σ H Q h => cao_rd v h
/-- a new list -/
theorem sl_newL {h : Addr → Prop} {H : Hp} {q : Addr} {vs : List V} {ds : List D} (al : Al h H) (np : H q = none) (z : ds.length ≤ cap) (a : AtL Y (hd h H) vs ds) : SlR Y noG (hd (fun b => h b ∨ some q = some b) (upd H q (.lst vs))) (upd H q (.lst vs)) (some (.ref q)) (.ol ds) (some q) := by
  refine ⟨q, vs, rfl, rfl, upd_same, by rw [a.length]; exact z, a.same fun b o e => ?_⟩
  obtain ⟨n, e⟩ := hd_some e
  have nb : b ≠ q := ne_of_none e np
  refine (hd_not ?_).trans ((upd_ne nb).trans e)
  rintro (m | m)
  · exact n m
  · cases m; exact nb rfl
/-! ### items of sequences -/
theorem at_seqL {h : Addr → Prop} {H : Hp} {v : V} {ds : List D} (a : At Y (hd h H) v (.lst ds)) : ∃ q vs, v = .ref q ∧ H q = some (.lst vs) ∧ SqL Y.K H q vs ∧ vs.length = ds.length ∧ vs.length ≤ cap ∧ AtL Y (hd h H) vs ds := by
  obtain ⟨q, vs, e, g, z, al⟩ := a
  exact ⟨q, vs, e, hd_le _ _ g, SqL.of (hd_le _ _ g), al.length, z, al⟩
theorem at_seqT {h : Addr → Prop} {H : Hp} {v : V} {ds : List D} (a : At Y (hd h H) v (.tup ds)) : ∃ q vs, v = .ref q ∧ H q = some (.tup vs) ∧ SqT Y.K H q vs ∧ vs.length = ds.length ∧ vs.length ≤ cap ∧ AtL Y (hd h H) vs ds := by
  obtain ⟨q, vs, e, g, z, al⟩ := a
  exact ⟨q, vs, e, hd_le _ _ g, SqT.of (hd_le _ _ g), al.length, z, al⟩
theorem at_K {h : Addr → Prop} {H : Hp} {v : V} {ds : List (Key × D)} (a : At Y (hd h H) v (.dK ds)) : ∃ q xs, v = .ref q ∧ Rd H q (.dK xs) ∧ AtK Y (hd h H) xs ds := by
  obtain ⟨q, xs, e, g, al⟩ := a
  exact ⟨q, xs, e, (RLe.of_same hd_le).rd (fun _ _ e => nomatch e) g, al⟩
/-! ### list(..) -/
def keysV : List (Key × D) → List D := fun kvs => kvs.map fun kv => kD kv.1
theorem AtK.keys {G : Hp} : ∀ {vs : List (Key × V)} {ds : List (Key × D)}, AtK Y G vs ds → AtL Y G (vs.map fun kv => kV kv.1) (keysV ds)
  | _, [], a => by cases (show _ = [] from a); rfl
  | _, (k, d) :: ds, ⟨v, q, e, _, t⟩ => by
    subst e
    exact ⟨kV k, _, rfl, by cases k <;> rfl, AtK.keys t⟩
def listO : List D → Option Sl
  | [.lst xs] => some (.ol xs)
  | [.tup xs] => some (.ol xs)
  | [.dK kvs] => if kvs.length ≤ cap then some (.ol (keysV kvs)) else none
  | _ => none
def rListA (K : PySem.W.Frag) : List V → Hp → VK → Prop := fun xs H Q => (fun xs H Q => ∃ p ys, xs = [V.ref p] ∧ (SqL K H p ys ∨ SqT K H p ys) ∧ ∀ l, H l = none → Q (.ref l) (upd H l (.lst ys))) xs H Q ∨
  (fun xs H Q => ∃ (a : Addr) (kvs : List (Key × V)), xs = [V.ref a] ∧ Rd H a (.dK kvs) ∧ ∀ p, H p = none → Q (.ref p) (upd H p (.lst (kvs.map fun kv => kV kv.1)))) xs H Q
theorem o_list (hc : X.calm = true) : CallR X (.type "list") (rListA X.K) := call_list_of.or (call_listD hc)
theorem v_list : VCo Y (rListA Y.K) listO := fun hh H xs ds s Q al a z q => by
  match ds, z, a with
  | [.lst ys], z, a =>
    cases z
    obtain ⟨x, rfl, ax⟩ := args1 a
    obtain ⟨r, vs, rfl, g, sq, ln, z, av⟩ := at_seqL ax
    exact .inl ⟨r, vs, rfl, .inl sq, fun n hn => q _ _ (some n) (same_new hn) (fun a e => by cases e; exact hn) (sl_newL al hn (by omega) av) (fun z => nomatch z)⟩
  | [.tup ys], z, a =>
    cases z
    obtain ⟨x, rfl, ax⟩ := args1 a
    obtain ⟨r, vs, rfl, g, sq, ln, z, av⟩ := at_seqT ax
    exact .inl ⟨r, vs, rfl, .inr sq, fun n hn => q _ _ (some n) (same_new hn) (fun a e => by cases e; exact hn) (sl_newL al hn (by omega) av) (fun z => nomatch z)⟩
  | [.dK kvs], z, a =>
    have z2 : (if kvs.length ≤ cap then some (Sl.ol (keysV kvs)) else none) = some s := z
    split at z2
    · rename_i hz
      cases z2
      obtain ⟨x, rfl, ax⟩ := args1 a
      obtain ⟨r, vs, rfl, g, av⟩ := at_K ax
      exact .inr ⟨r, vs, rfl, g, fun n hn => q _ _ (some n) (same_new hn) (fun a e => by cases e; exact hn) (sl_newL al hn (by unfold keysV; rw [List.length_map]; exact hz) av.keys) (fun z => nomatch z)⟩
    · cases z2
/-! ### tuple(..) -/
def tupleD : List D → Option D
  | [.lst xs] => some (.tup xs)
  | [.tup xs] => some (.tup xs)
  | _ => none
theorem v_tuple : VCa Y (fun xs H Q => ∃ p ys, xs = [V.ref p] ∧ ((SqL Y.K H p ys ∧ ∀ l, H l = none → Q (.ref l) (upd H l (.tup ys))) ∨ (SqT Y.K H p ys ∧ Q (.ref p) H))) tupleD := fun hh H xs ds c Q al a z q => by
  match ds, z, a with
  | [.lst ys], z, a =>
    cases z
    obtain ⟨x, rfl, ax⟩ := args1 a
    obtain ⟨r, vs, rfl, g, sq, ln, z, av⟩ := at_seqL ax
    exact ⟨r, vs, rfl, .inl ⟨sq, fun n hn => q _ _ (same_new hn) (at_newT al hn (by omega) av)⟩⟩
  | [.tup ys], z, a =>
    cases z
    obtain ⟨x, rfl, ax⟩ := args1 a
    obtain ⟨r, vs, rfl, g, sq, ln, z, av⟩ := at_seqT ax
    exact ⟨r, vs, rfl, .inr ⟨sq, q _ H (Same.refl H) ax⟩⟩
/-! ### all(..) -/
def boolsD : List D → Option (List Bool)
  | [] => some []
  | .bl b :: r => (boolsD r).map (b :: ·)
  | _ => none
theorem boolsD_v {G : Hp} : ∀ {ds : List D} {vs : List V} {bs : List Bool}, boolsD ds = some bs → AtL Y G vs ds → vs = bs.map V.bl
  | [], _, _, e, a => by cases e; exact a
  | d :: ds, _, bs, e, ⟨v, r, ev, q, t⟩ => by
    cases d with
    | bl b =>
      unfold boolsD at e
      cases h : boolsD ds with
      | none => rw [h] at e; cases e
      | some bs' =>
        rw [h] at e; cases e
        rw [ev, boolsD_v h t, show v = V.bl b from q]; rfl
    | _ => cases e
def allD : List D → Option D
  | [.lst xs] => (boolsD xs).map fun bs => .bl (bs.all id)
  | _ => none
theorem v_all : VCa Y (rAll Y.K) allD := fun hh H xs ds c Q al a z q => by
  match ds, z, a with
  | [.lst ys], z, a =>
    have z2 : (boolsD ys).map (fun bs => D.bl (bs.all id)) = some c := z
    obtain ⟨x, rfl, ax⟩ := args1 a
    obtain ⟨r, vs, rfl, g, sq, ln, z, av⟩ := at_seqL ax
    cases h : boolsD ys with
    | none => rw [h] at z2; cases z2
    | some bs =>
      rw [h] at z2; cases z2
      refine ⟨r, bs, rfl, ?_, q _ H (Same.refl H) rfl⟩
      rw [← boolsD_v h av]; exact sq
/-! ### whole numbers -/
def intsD : List D → Option (List Int)
  | [] => some []
  | .int b :: r => (intsD r).map (b :: ·)
  | _ => none
theorem intsD_v {G : Hp} : ∀ {ds : List D} {vs : List V} {bs : List Int}, intsD ds = some bs → AtL Y G vs ds → vs = bs.map V.int
  | [], _, _, e, a => by cases e; exact a
  | d :: ds, _, bs, e, ⟨v, r, ev, q, t⟩ => by
    cases d with
    | int b =>
      unfold intsD at e
      cases h : intsD ds with
      | none => rw [h] at e; cases e
      | some bs' =>
        rw [h] at e; cases e
        rw [ev, intsD_v h t, show v = V.int b from q]; rfl
    | _ => cases e
theorem at_ints {G : Hp} : ∀ (ns : List Int), AtL Y G (ns.map V.int) (ns.map D.int)
  | [] => rfl
  | n :: ns => ⟨.int n, _, rfl, rfl, at_ints ns⟩
def sumD : List D → Option D
  | [.lst xs] => (intsD xs).map fun ns => .int ns.sum
  | _ => none
theorem v_sum : VCa Y (rSum Y.K) sumD := fun hh H xs ds c Q al a z q => by
  match ds, z, a with
  | [.lst ys], z, a =>
    have z2 : (intsD ys).map (fun ns => D.int ns.sum) = some c := z
    obtain ⟨x, rfl, ax⟩ := args1 a
    obtain ⟨r, vs, rfl, g, sq, ln, z, av⟩ := at_seqL ax
    cases h : intsD ys with
    | none => rw [h] at z2; cases z2
    | some bs =>
      rw [h] at z2; cases z2
      refine ⟨r, bs, rfl, ?_, q _ H (Same.refl H) rfl⟩
      rw [← intsD_v h av]; exact sq
def maxD : List D → Option D
  | [.int i, .int j] => some (.int (if j > i then j else i))
  | _ => none
def minD : List D → Option D
  | [.int i, .int j] => some (.int (if j < i then j else i))
  | _ => none
theorem v_max2 : VCa Y (fun xs H Q => ∃ i j, xs = [V.int i, V.int j] ∧ Q (.int (if j > i then j else i)) H) maxD := fun hh H xs ds c Q al a z q => by
  match ds, z, a with
  | [.int i, .int j], z, a =>
    cases z
    obtain ⟨x, y, rfl, ax, ay⟩ := args2 a
    exact ⟨i, j, by rw [show x = V.int i from ax, show y = V.int j from ay], q _ H (Same.refl H) rfl⟩
theorem v_min2 : VCa Y (fun xs H Q => ∃ i j, xs = [V.int i, V.int j] ∧ Q (.int (if j < i then j else i)) H) minD := fun hh H xs ds c Q al a z q => by
  match ds, z, a with
  | [.int i, .int j], z, a =>
    cases z
    obtain ⟨x, y, rfl, ax, ay⟩ := args2 a
    exact ⟨i, j, by rw [show x = V.int i from ax, show y = V.int j from ay], q _ H (Same.refl H) rfl⟩
def int1D : List D → Option D
  | [.int i] => some (.int i)
  | [.bl k] => some (.int (if k then 1 else 0))
  | _ => none
theorem v_int1 : VCa Y (fun xs H Q => (∃ i, xs = [V.int i] ∧ Q (.int i) H) ∨ ∃ k, xs = [V.bl k] ∧ Q (.int (if k then 1 else 0)) H) int1D := fun hh H xs ds c Q al a z q => by
  match ds, z, a with
  | [.int i], z, a =>
    cases z
    obtain ⟨x, rfl, ax⟩ := args1 a
    exact .inl ⟨i, by rw [show x = V.int i from ax], q _ H (Same.refl H) rfl⟩
  | [.bl i], z, a =>
    cases z
    obtain ⟨x, rfl, ax⟩ := args1 a
    exact .inr ⟨i, by rw [show x = V.bl i from ax], q _ H (Same.refl H) rfl⟩
def strD : List D → Option D
  | [.int i] => if i.natAbs.log2 < 1920 then some (.str (toString i)) else none
  | _ => none
theorem v_strI : VCa Y (fun xs H Q => ∃ i : Int, xs = [V.int i] ∧ i.natAbs.log2 < 1920 ∧ Q (.str (toString i)) H) strD := fun hh H xs ds c Q al a z q => by
  match ds, z, a with
  | [.int i], z, a =>
    have z2 : (if i.natAbs.log2 < 1920 then some (D.str (toString i)) else none) = some c := z
    split at z2
    · rename_i hz
      cases z2
      obtain ⟨x, rfl, ax⟩ := args1 a
      exact ⟨i, by rw [show x = V.int i from ax], hz, q _ H (Same.refl H) rfl⟩
    · cases z2
/-! ### isinstance -/
@[simp] def tyN : D → Option String
  | .non => some "NoneType" | .bl _ => some "bool" | .int _ => some "int" | .str _ => some "str" | .lst _ => some "list" | .tup _ => some "tuple"
  | .dK _ => some "dict" | _ => none
@[simp] def isT (n : String) : D → Option D := fun d => (tyN d).bind fun t => (kitB t n).map .bl
theorem tyN_v {h : Addr → Prop} {H : Hp} {v : V} {d : D} {t : String} (e : tyN d = some t) (a : At Y (hd h H) v d) : TyX Y.K H v (.type t) := by
  cases d with
  | non => cases e; cases (show v = _ from a); exact .base .non
  | bl b => cases e; cases (show v = _ from a); exact .base (.bl b)
  | int b => cases e; cases (show v = _ from a); exact .base (.int b)
  | str b => cases e; cases (show v = _ from a); exact .base (.str b)
  | lst ds => cases e; obtain ⟨q, vs, rfl, g, _⟩ := a; exact .base (.lst (hd_le _ _ g))
  | tup ds => cases e; obtain ⟨q, vs, rfl, g, _⟩ := a; exact .base (.tup (hd_le _ _ g))
  | dK ds => cases e; obtain ⟨q, vs, rfl, g, _⟩ := a; rcases g with g | ⟨o, g⟩
             · exact .base (.dK (hd_le _ _ g))
             · exact .fDict (hd_le _ _ g)
  | _ => cases e
theorem px_isi {n : String} {y : Str} (hg : Gl X "isinstance") (hm : X.mg "isinstance" = none) (hg2 : Gl X y) (hm2 : X.mg y = none) (hv : bootBuiltins y = some (.type n)) (hK : X.K = Y.K) (he : PE X e (tE Y W f)) (hn : y ≠ "__name__" := by decide) (hd : (y == ("__debug__" : Str)) = false := by decide)
    (hs : starEach [e, .Name y p2] X.env = (false, eval e X.env) :: starEach [.Name y p2] X.env := by rfl) (hs2 : starEach [.Name y p2] X.env = (false, eval (.Name y p2) X.env) :: starEach [] X.env := by rfl) (hpl : (backTo pos (starEach [.Name y p2] X.env)).any (·.1) = false := by rfl) :
    PE X (.Call (.Name "isinstance" p) [e, .Name y p2] [] pos) (tE Y W (un f (isT n))) := by
  refine PE.imp (pe_callB (id := "isinstance") call_isi hg hm (by decide +kernel) (pa_cons he (pa_cons (pe_bltn (v := .ty n) hg2 hm2 hv rfl hn hd) pa_nil hs2) hs) (by decide) (by decide) hs hpl) fun σ H Q ⟨fo, at_, B, ρ, E, h⟩ => ?_
  refine ⟨fo, at_, B, ρ, E, (Post.bind h).mono fun d H1 s1 h1 v a => ?_⟩
  obtain ⟨c, ec, h2⟩ := Post.op h1
  unfold isT at ec
  cases et : tyN d with
  | none => rw [et] at ec; cases ec
  | some t =>
    rw [et] at ec
    cases ek : kitB t n with
    | none => rw [Option.bind_some, ek] at ec; cases ec
    | some k =>
      rw [Option.bind_some, ek] at ec
      cases ec
      refine ⟨v, .ty n, .type t, .type n, k, rfl, .ty n, ?_, kit_ty ek, h2 H1 (Same.refl H1) _ rfl⟩
      rw [hK]; exact tyN_v et a
/-! ### dict(..) of pairs -/
def pairD : D → Option (Key × D)
  | .tup [k, v] => (keyD k).map fun k => (k, v)
  | _ => none
def pairsD : List D → Option (List (Key × D))
  | [] => some []
  | d :: ds => (pairD d).bind fun p => (pairsD ds).map (p :: ·)
def mkD (kvs : List (Key × D)) : List (Key × D) := kvs.foldl (fun acc kv => pk acc kv.1 kv.2) []
theorem pairs_v {h : Addr → Prop} {H : Hp} : ∀ {ds : List D} {vs : List V} {kvs : List (Key × D)}, pairsD ds = some kvs → AtL Y (hd h H) vs ds → ∃ (ps : List Addr) (xs : List (Key × V)), vs = ps.map V.ref ∧ Paired (fun p kv => SqT Y.K H p [kV kv.1, kv.2]) ps xs ∧ AtK Y (hd h H) xs kvs
  | [], vs, kvs, e, a => by cases e; cases (show vs = [] from a); exact ⟨[], [], rfl, .nil, rfl⟩
  | d :: ds, vs, kvs, e, ⟨v, r, ev, q, t⟩ => by
    unfold pairsD at e
    cases e1 : pairD d with
    | none => rw [e1] at e; cases e
    | some pr =>
      rw [e1, Option.bind_some] at e
      cases e2 : pairsD ds with
      | none => rw [e2] at e; cases e
      | some kvs' =>
        rw [e2] at e; cases e
        obtain ⟨ps, xs, er, hp, hk⟩ := pairs_v e2 t
        match d, e1, q with
        | .tup [k, w], e1, q =>
          have e3 : (keyD k).map (fun k => (k, w)) = some pr := e1
          cases ek : keyD k with
          | none => rw [ek] at e3; cases e3
          | some k' =>
            rw [ek] at e3; cases e3
            obtain ⟨c, us, rfl, g, sq, _, _, au⟩ := at_seqT q
            obtain ⟨u1, u2, rfl, a1, a2⟩ := args2 au
            rw [key_v ek a1] at sq
            exact ⟨c :: ps, (k', u2) :: xs, by rw [ev, er]; rfl, .cons sq hp, u2, xs, rfl, a2, hk⟩
theorem AtK.fold {G : Hp} : ∀ {xs : List (Key × V)} {kvs : List (Key × D)} {as : List (Key × V)} {bs : List (Key × D)}, AtK Y G xs kvs → AtK Y G as bs → AtK Y G (xs.foldl (fun acc kv => putK acc kv.1 kv.2) as) (kvs.foldl (fun acc kv => pk acc kv.1 kv.2) bs)
  | _, [], _, _, a, b => by cases (show _ = [] from a); exact b
  | _, (k, d) :: ds, as, bs, ⟨v, q, e, av, t⟩, b => by
    subst e
    exact AtK.fold (as := putK as k v) (bs := pk bs k d) (kvs := ds) t (b.put k av)
def dictO : List D → Option Sl
  | [.lst xs] => (pairsD xs).map fun kvs => .oK (mkD kvs)
  | _ => none
theorem v_dict : VCo Y (fun xs H Q => ∃ (a : Addr) (ps : List Addr) (kvs : List (Key × V)), xs = [V.ref a] ∧ SqL Y.K H a (ps.map V.ref) ∧ Paired (fun p kv => SqT Y.K H p [kV kv.1, kv.2]) ps kvs ∧
    ∀ p, H p = none → Q (.ref p) (upd H p (.dK (mergeK [] kvs)))) dictO := fun hh H xs ds s Q al a z q => by
  match ds, z, a with
  | [.lst ys], z, a =>
    have z2 : (pairsD ys).map (fun kvs => Sl.oK (mkD kvs)) = some s := z
    cases e : pairsD ys with
    | none => rw [e] at z2; cases z2
    | some kvs =>
      rw [e] at z2; cases z2
      obtain ⟨x, rfl, ax⟩ := args1 a
      obtain ⟨r, vs, rfl, g, sq, ln, z, av⟩ := at_seqL ax
      obtain ⟨ps, xs, rfl, hp, hk⟩ := pairs_v e av
      refine ⟨r, ps, xs, rfl, sq, hp, fun n hn => q _ _ (some n) (same_new hn) (fun a e => by cases e; exact hn) ⟨n, _, rfl, rfl, upd_same, AtK.same (fun b o e => ?_) (hk.fold (as := []) (bs := []) rfl)⟩ (fun z => nomatch z)⟩
      obtain ⟨n1, e⟩ := hd_some e
      have nb : b ≠ n := ne_of_none e hn
      refine (hd_not ?_).trans ((upd_ne nb).trans e)
      rintro (m | m)
      · exact n1 m
      · cases m; exact nb rfl
end
end PL

/-! P10: repr, join, slices, sets, sources, looked-at. -/
namespace PL
open PySem PySem.Spec L2

/-! ### repr -/
mutual
/-- what repr tells (no dicts) -/
def shp : D → Bool
  | .non => true
  | .bl _ => true
  | .int i => decide (i.natAbs.log2 < 1920)
  | .str _ => true
  | .lst xs => shpL xs
  | .tup xs => shpL xs
  | _ => false
def shpL : List D → Bool
  | [] => true
  | x :: xs => shp x && shpL xs
end
section
variable {Y : Yx} {G : Hp}
mutual
theorem dpr_of : ∀ {v : V} {d : D}, shp d = true → At Y G v d → Dp Y.K G v (py d)
  | v, .non, _, a => by cases (show v = _ from a); exact .non
  | v, .bl b, _, a => by cases (show v = _ from a); exact .bl b
  | v, .int i, _, a => by cases (show v = _ from a); exact .int i
  | v, .str x, _, a => by cases (show v = _ from a); exact .str x
  | v, .lst xs, h, ⟨l, vs, e, s, z, q⟩ => by subst e; exact .lst (.of s) (dprL_of h q)
  | v, .tup xs, h, ⟨l, vs, e, s, z, q⟩ => by subst e; exact .tup (.of s) (dprL_of h q)
  | v, .dK _, h, _ => by cases h
  | v, .dT _, h, _ => by cases h
  | v, .ob _, h, _ => by cases h
  | v, .exc _ _, h, _ => by cases h
  | v, .scr _, h, _ => by cases h
  | v, .dN _, h, _ => by cases h
theorem dprL_of : ∀ {vs : List V} {ds : List D}, shpL ds = true → AtL Y G vs ds → DpAll Y.K G vs (pyL ds)
  | _, [], _, a => by cases (show _ = [] from a); exact .nil
  | _, d :: ds, h, ⟨v, r, e, q, t⟩ => by
    subst e
    have h2 : (shp d && shpL ds) = true := h
    rw [Bool.and_eq_true] at h2
    exact .cons (dpr_of h2.1 q) (dprL_of h2.2 t)
end
mutual
theorem shp_ok : ∀ {d : D}, shp d = true → (py d).showable = true ∧ (py d).hasDict = false
  | .non, _ => ⟨rfl, rfl⟩
  | .bl _, _ => ⟨rfl, rfl⟩
  | .int i, h => ⟨h, rfl⟩
  | .str x, _ => ⟨rfl, rfl⟩
  | .lst xs, h => shpL_ok (ds := xs) h
  | .tup xs, h => shpL_ok (ds := xs) h
  | .dK _, h => by cases h
  | .dT _, h => by cases h
  | .ob _, h => by cases h
  | .exc _ _, h => by cases h
  | .scr _, h => by cases h
  | .dN _, h => by cases h
theorem shpL_ok : ∀ {ds : List D}, shpL ds = true → PyData.showableAll (pyL ds) = true ∧ PyData.hasDictAll (pyL ds) = false
  | [], _ => ⟨rfl, rfl⟩
  | d :: ds, h => by
    have h2 : (shp d && shpL ds) = true := h
    rw [Bool.and_eq_true] at h2
    have p := shp_ok h2.1
    have q := shpL_ok h2.2
    refine ⟨?_, ?_⟩
    · show ((py d).showable && PyData.showableAll (pyL ds)) = true
      rw [p.1, q.1]; rfl
    · show ((py d).hasDict || PyData.hasDictAll (pyL ds)) = false
      rw [p.2, q.2]; rfl
end
end
def rRepr (K : PySem.W.Frag) : List V → Hp → VK → Prop := fun xs H Q => ∃ x d, xs = [x] ∧ Dp K H x d ∧ d.showable = true ∧ d.hasDict = false ∧ d.depth < 64 ∧ d.shown.length ≤ sizeLine ∧ Q (.str d.shown) H
theorem o_repr {X : Cx} (gd : X.A.guards = some []) (hu : X.A.units + 65 < cLine) : CallR X (.builtin "repr") (rRepr X.K) := by
  intro pins s σ H xs us Q I r h
  obtain ⟨x, d, rfl, hd, hs, hn, hdep, hsz, q⟩ := h
  obtain ⟨u, rfl, rx⟩ := vals1 r
  have key := hd
  cases hd with
  | non => cases (show u = _ from rx); exact PySem.P.repr_of_none ⟨.str _, H, I.tok _, ⟨_, rfl⟩, q⟩
  | bl b => cases (show u = _ from rx); exact PySem.P.repr_of_bool ⟨.str _, H, I.tok _, ⟨_, rfl⟩, q⟩
  | int i => obtain ⟨t, rfl⟩ := (show ∃ t, u = Value.int i t from rx); exact PySem.P.repr_of_int (of_decide_eq_true hs) ⟨.str _, H, I.tok _, ⟨_, rfl⟩, q⟩
  | str z => obtain ⟨t, rfl⟩ := (show ∃ t, u = Value.str z t from rx); exact PySem.P.repr_of_str ⟨.str _, H, I.tok _, ⟨_, rfl⟩, q⟩ hsz
  | lst a b =>
    obtain ⟨as, rd⟩ := Dp.reads I _ _ u key rx
    cases (show u = _ from rx)
    exact PySem.repr_of_reads' rd hs (fun z => by rw [hn] at z; cases z) gd (by omega) (fun _ _ e => e) (fun h' u tk k => ⟨.str _, H, I.kept k, ⟨_, rfl⟩, q⟩) hsz
  | tup a b =>
    obtain ⟨as, rd⟩ := Dp.reads I _ _ u key rx
    cases (show u = _ from rx)
    exact PySem.repr_of_reads' rd hs (fun z => by rw [hn] at z; cases z) gd (by omega) (fun _ _ e => e) (fun h' u tk k => ⟨.str _, H, I.kept k, ⟨_, rfl⟩, q⟩) hsz
def shw (d : D) : Str := (py d).shown
def reprD : List D → Option D
  | [d] => if shp d = true ∧ (py d).depth < 64 ∧ (shw d).length ≤ cap then some (.str (shw d)) else none
  | _ => none
section
variable {X : Cx} {Y : Yx} {W : WX} {a b e o : Expr} {es : List Expr} {f g : EF D} {l : EF (List D)} {p p2 pos apos cpos : Pos} {x : Str}
theorem Dp.up {K : PySem.W.Frag} {G H : Hp} (s : Same G H) : ∀ {v : V} {d : PyData}, Dp K G v d → Dp K H v d := fun {v d} h => by
  induction h using Dp.rec (motive_2 := fun vs ds _ => DpAll K H vs ds) with
  | non => exact .non
  | bl b => exact .bl b
  | int b => exact .int b
  | str b => exact .str b
  | lst hs _ ih => exact .lst ((RLe.of_same s).seqL hs) ih
  | tup hs _ ih => exact .tup ((RLe.of_same s).seqT hs) ih
  | nil => exact .nil
  | cons _ _ h1 h2 => exact .cons h1 h2
theorem v_repr : VCa Y (rRepr Y.K) reprD := fun hh H xs ds c Q al a z q => by
  match ds, z, a with
  | [d], z, a =>
    have z2 : (if shp d = true ∧ (py d).depth < 64 ∧ (shw d).length ≤ cap then some (D.str (shw d)) else none) = some c := z
    split at z2
    · rename_i hc
      cases z2
      obtain ⟨x, rfl, ax⟩ := args1 a
      have k := shp_ok hc.1
      exact ⟨x, py d, rfl, Dp.up hd_le (dpr_of hc.1 ax), k.1, k.2, hc.2.1, by rw [← cap_eq]; exact hc.2.2, q _ H (Same.refl H) rfl⟩
    · cases z2
/-! ### methods -/
def VMt (Y : Yx) (T : String) (r : V → List V → Hp → VK → Prop) (ok : D → Bool) (op : D → List D → Option D) : Prop := ∀ (h : Addr → Prop) (H : Hp) (x : V) (d : D), Al h H → At Y (hd h H) x d → ok d = true →
  tyV Y.K T x H ∧ ∀ (H1 : Hp) (xs : List V) (ds : List D) (c : D) (Q : VK), Same H H1 → AtL Y (hd h H1) xs ds → op d ds = some c → (∀ v H', Same H1 H' → At Y (hd h H') v c → Q v H') → r x xs H1 Q
@[simp] def bm (ok : D → Bool) (op : D → List D → Option D) (f : EF D) (l : EF (List D)) : EF D := fun ρ => (f ρ).bind fun d => if ok d = true then (l ρ).bind fun ds => ofO (op d ds) else .bad
theorem bm_rd {T : String} {r : V → List V → Hp → VK → Prop} {ok : D → Bool} {op : D → List D → Option D} (v : VMt Y T r ok op) {σ : L2.St} {H : Hp} {Q : VK} (h : tE Y W (bm ok op f l) σ H Q) : tBM Y.K T r (tE Y W f) (tL Y W l) σ H Q := by
  obtain ⟨fo, at_, B, ρ, E, h⟩ := h
  refine ⟨fo, at_, B, ρ, E, (Post.bind h).mono fun d H1 s1 h1 x a => ?_⟩
  by_cases z : ok d = true
  · rw [if_pos z] at h1
    obtain ⟨ty, k⟩ := v _ H1 x d (E.ext s1).al a z
    refine ⟨ty, fo, at_, B, ρ, E.ext s1, (Post.bind h1).mono fun ds H2 s2 h2 xs b => ?_⟩
    obtain ⟨c, e1, h3⟩ := Post.op h2
    exact k H2 xs ds c Q s2 b e1 fun w H' s' q => h3 H' s' w q
  · rw [if_neg z] at h1; exact h1.elim
theorem px_bm {T id : String} {name : Str} {r : V → List V → Hp → VK → Prop} {ok : D → Bool} {op : D → List D → Option D} (pa : PlainAttrs T) (slot : Slot T name id) (hty : typeOf (.builtin id) = pure (.type "method_descriptor")) (hm : MtR X id r) (v : VMt Y T r ok op) (hK : X.K = Y.K)
    (ho : PE X o (tE Y W f)) (ha : PA X (e :: es) (tL Y W l)) (hbase : attributeBase o name X.env (eval o X.env) = eval o X.env := by rfl)
    (hfew : ((backTo cpos (starEach (e :: es) X.env)).all (fun x => !x.1) && (backToKw cpos (keywordEach [] X.env)).all (fun x => x.1.isSome)
      && decide ((e :: es).length + ([] : List Keyword).length + (if ([] : List Keyword).isEmpty then 0 else 1) < 30)) = true := by rfl)
    (hline : (apos.endLine == cpos.line) = true := by rfl) (hs : starEach (e :: es) X.env = (false, eval e X.env) :: starEach es X.env := by rfl) (hplain : (backTo cpos (starEach es X.env)).any (·.1) = false := by rfl) :
    PE X (.Call (.Attribute o name apos) (e :: es) [] cpos) (tE Y W (bm ok op f l)) := PE.imp (pe_bm pa slot hty hm ho ha hbase hfew hline hs hplain) fun σ H Q h => by rw [hK]; exact bm_rd v h
theorem px_bm0 {T id : String} {name : Str} {r : V → List V → Hp → VK → Prop} {ok : D → Bool} {op : D → List D → Option D} (pa : PlainAttrs T) (slot : Slot T name id) (hty : typeOf (.builtin id) = pure (.type "method_descriptor")) (hm : MtR X id r) (v : VMt Y T r ok op) (hK : X.K = Y.K)
    (ho : PE X o (tE Y W f)) (hbase : attributeBase o name X.env (eval o X.env) = eval o X.env := by rfl) (hline : (apos.endLine == cpos.line) = true := by rfl) :
    PE X (.Call (.Attribute o name apos) [] [] cpos) (tE Y W (bm ok op f nilL)) := PE.imp (pe_bm0 pa slot hty hm ho hbase hline) fun σ H Q h => by
  rw [hK]
  obtain ⟨fo, at_, B, ρ, E, h⟩ := h
  refine ⟨fo, at_, B, ρ, E, (Post.bind h).mono fun d H1 s1 h1 x a => ?_⟩
  by_cases z : ok d = true
  · rw [if_pos z] at h1
    obtain ⟨ty, k⟩ := v _ H1 x d (E.ext s1).al a z
    obtain ⟨c, e1, h3⟩ := Post.op (h1 : Post Y W σ H1 (ofO (op d [])) _)
    exact ⟨ty, k H1 [] [] c Q (Same.refl H1) rfl e1 fun w H' s' q => h3 H' s' w q⟩
  · rw [if_neg z] at h1; exact h1.elim
def okS : D → Bool
  | .str _ => true
  | _ => false
def strsD : List D → Option (List Str)
  | [] => some []
  | .str b :: r => (strsD r).map (b :: ·)
  | _ => none
theorem strsD_v {G : Hp} : ∀ {ds : List D} {vs : List V} {bs : List Str}, strsD ds = some bs → AtL Y G vs ds → vs = bs.map V.str
  | [], _, _, e, a => by cases e; exact a
  | d :: ds, _, bs, e, ⟨v, r, ev, q, t⟩ => by
    cases d with
    | str b =>
      unfold strsD at e
      cases h : strsD ds with
      | none => rw [h] at e; cases e
      | some bs' =>
        rw [h] at e; cases e
        rw [ev, strsD_v h t, show v = V.str b from q]; rfl
    | _ => cases e
def joinD : D → List D → Option D
  | .str z, [.lst xs] => (strsD xs).bind fun ys => if (ys.map (·.length)).sum + ys.length * z.length ≤ cap then some (.str (Txt.join z ys)) else none
  | _, _ => none
theorem v_join : VMt Y "str" (fun x xs H Q => ∃ a p, ∃ ys : List Str, x = V.str a ∧ xs = [V.ref p] ∧ (SqL Y.K H p (ys.map V.str) ∨ SqT Y.K H p (ys.map V.str)) ∧
    (ys.map (·.length)).sum + ys.length * a.length ≤ 16777216 ∧ Q (.str (Txt.join a ys)) H) okS joinD := fun hh H x d al a ok => by
  match d, ok, a with
  | .str z, _, a =>
    cases (show x = _ from a)
    refine ⟨rfl, fun H1 xs ds c Q s1 b e q => ?_⟩
    match ds, e, b with
    | [.lst ys], e, b =>
      have e2 : ((strsD ys).bind fun ys => if (ys.map (·.length)).sum + ys.length * z.length ≤ cap then some (D.str (Txt.join z ys)) else none) = some c := e
      cases e3 : strsD ys with
      | none => rw [e3] at e2; cases e2
      | some bs =>
        rw [e3, Option.bind_some] at e2
        split at e2
        · rename_i hc
          cases e2
          obtain ⟨x, rfl, ax⟩ := args1 b
          obtain ⟨r, vs, rfl, g, sq, ln, _, av⟩ := at_seqL ax
          refine ⟨z, r, bs, rfl, rfl, .inl ?_, hc, q _ H1 (Same.refl H1) rfl⟩
          rw [← strsD_v e3 av]; exact sq
        · cases e2
/-! ### slices -/
def slD (d : D) (lo hi : Option Int) : Option Sl := match d with
  | .lst xs => some (.ol ((xs.drop (HT.sIx xs.length 0 lo)).take (HT.sIx xs.length xs.length hi - HT.sIx xs.length 0 lo)))
  | .str z => if z.length ≤ cap then some (.dat (.str (cutS z lo hi))) else none
  | _ => none
def pN : EF (Option Int) := fun _ => .ok none
def pS (f : EF D) : EF (Option Int) := fun ρ => (f ρ).bind fun d => match d with
  | .int i => .ok (some i)
  | _ => .bad
def slE (f : EF D) (lo hi : EF (Option Int)) : EF Sl := fun ρ => (f ρ).bind fun d => (lo ρ).bind fun l => (hi ρ).bind fun h => ofO (slD d l h)
def tPO (Y : Yx) (W : WX) (f : EF (Option Int)) : TO := fun σ H Q => ∃ (fo : Addr → Prop) (at_ : Nat → Option Addr) (B : Hp) (ρ : List Sl), EnvO Y fo at_ B σ H ρ ∧ Post Y W σ H (f ρ) (fun d H' => Q d H')
theorem ppx_none : PO X none (tPO Y W pN) := ⟨fun pins s σ H Q I ⟨fo, at_, B, ρ, E, h⟩ => po_none.run pins s σ H Q I ((h : Post Y W σ H (.ok none) _).now)⟩
theorem ppx_some (h : PE X e (tE Y W f)) : PO X (some e) (tPO Y W (pS f)) := ⟨fun pins s σ H Q I ⟨fo, at_, B, ρ, E, k⟩ => (po_some h).run pins s σ H Q I ⟨fo, at_, B, ρ, E, (Post.bind k).mono fun d H1 s1 h1 v a => by
  cases d with
  | int i => exact ⟨i, a, (h1 : Post Y W σ H1 (.ok (some i)) _).now⟩
  | _ => exact h1.elim⟩⟩
theorem AtL.cut {G : Hp} {vs : List V} {ds : List D} {lo hi : Option Int} (a : AtL Y G vs ds) : AtL Y G (cutV vs lo hi) ((ds.drop (HT.sIx ds.length 0 lo)).take (HT.sIx ds.length ds.length hi - HT.sIx ds.length 0 lo)) := by
  unfold cutV
  rw [a.length]
  exact (a.drop _).take _
def rSlA (K : PySem.W.Frag) : V → Option Int → Option Int → Hp → VK → Prop := fun x lo hi H Q => rSlL K x lo hi H Q ∨ rSlS x lo hi H Q
theorem po_slice {lo hi : Option Expr} {fl fh : EF (Option Int)} (hK : X.K = Y.K) (he : PE X e (tE Y W f)) (hl : PO X lo (tPO Y W fl)) (hh : PO X hi (tPO Y W fh)) : PE X (.Subscript e (.Slice lo hi none p2) pos) (tO Y W (slE f fl fh)) :=
  PE.imp (pe_slice (r := rSlA X.K) (sl_list.or sl_str) he hl hh) fun σ H Q ⟨fo, at_, B, ρ, E, h⟩ => by
    refine ⟨fo, at_, B, ρ, E, (Post.bind h).mono fun d H1 s1 h1 v a => ⟨fo, at_, B, ρ, E.ext s1, (Post.bind h1).mono fun l H2 s2 h2 => ⟨fo, at_, B, ρ, (E.ext s1).ext s2, (Post.bind h2).mono fun u H3 s3 h3 => ?_⟩⟩⟩
    obtain ⟨c, ec, h4⟩ := Post.opS h3
    have al := (((E.ext s1).ext s2).ext s3).al
    have a3 := a.same (hd_same (s2.trans s3))
    cases d with
    | lst xs =>
      cases ec
      obtain ⟨r, vs, rfl, g, sq, ln, z, av⟩ := at_seqL a3
      refine .inl ⟨r, vs, rfl, by rw [hK]; exact sq, fun n hn => h4 _ (same_new hn) _ (some n) (fun b e => by cases e; exact s1.free (s2.free (s3.free hn))) (sl_newL al hn ?_ av.cut) (fun z => nomatch z)⟩
      rw [← av.cut.length]
      exact Nat.le_trans (cutV_length _ _ _) z
    | str y =>
      have ec2 : (if y.length ≤ cap then some (Sl.dat (.str (cutS y l u))) else none) = some c := ec
      split at ec2
      · rename_i hz
        cases ec2
        exact .inr ⟨y, a3, by rw [← cap_eq]; exact hz, h4 H3 (Same.refl H3) _ none (fun _ e => nomatch e) ⟨rfl, _, rfl, rfl⟩ (fun z => nomatch z)⟩
      · cases ec2
    | _ => cases ec
/-! ### looked at -/
/-- no owned thing may lie in such data -/
@[simp] def viewT (f : EF Bool) : EF Bool := fun ρ => f (PL.view ρ)
theorem pt_view {p : EF Bool} (h : PT X e (tT Y W p)) : PT X e (tT Y W (viewT p)) := PT.imp h fun σ H Q ⟨fo, at_, B, ρ, E, h⟩ => ⟨fo, _, H, _, E.view, h⟩
mutual
/-- nothing that may be changed lies in it -/
def still : D → Bool
  | .non => true | .bl _ => true | .int _ => true | .str _ => true
  | .tup xs => stillL xs
  | _ => false
def stillL : List D → Bool
  | [] => true
  | x :: xs => still x && stillL xs
end
mutual
theorem still_at {G G' : Hp} (hG : ∀ a xs, G a = some (.tup xs) → G' a = some (.tup xs)) : ∀ {v : V} {d : D}, still d = true → At Y G v d → At Y G' v d
  | v, .non, _, a => a
  | v, .bl b, _, a => a
  | v, .int i, _, a => a
  | v, .str x, _, a => a
  | v, .tup xs, h, ⟨l, vs, e, s, z, q⟩ => ⟨l, vs, e, hG _ _ s, z, stillL_at hG h q⟩
  | v, .lst _, h, _ => by cases h
  | v, .dK _, h, _ => by cases h
  | v, .dT _, h, _ => by cases h
  | v, .ob _, h, _ => by cases h
  | v, .exc _ _, h, _ => by cases h
  | v, .scr _, h, _ => by cases h
  | v, .dN _, h, _ => by cases h
theorem stillL_at {G G' : Hp} (hG : ∀ a xs, G a = some (.tup xs) → G' a = some (.tup xs)) : ∀ {vs : List V} {ds : List D}, stillL ds = true → AtL Y G vs ds → AtL Y G' vs ds
  | _, [], _, a => a
  | _, d :: ds, h, ⟨v, r, e, q, t⟩ => by
    have h2 : (still d && stillL ds) = true := h
    rw [Bool.and_eq_true] at h2
    exact ⟨v, r, e, still_at hG h2.1 q, stillL_at hG h2.2 t⟩
end
def stillS : Sl → Bool
  | .dat d => still d
  | .ol xs => stillL xs
  | _ => false
/-- the answer leans on nothing that is owned -/
@[simp] def viewO (f : EF Sl) : EF Sl := fun ρ => (f (PL.view ρ)).bind fun s => if stillS s then .ok s else .bad
/-- an owned thing is no tuple -/
theorem EnvO.noTup {fo : Addr → Prop} {at_ : Nat → Option Addr} {B : Hp} {σ : L2.St} {H : Hp} {ρ : List Sl} (E : EnvO Y fo at_ B σ H ρ) {i : Nat} {c : Addr} (h : at_ i = some c) : ∀ xs, H c ≠ some (.tup xs) := fun xs z => by
  obtain ⟨o, e, n⟩ := E.ownd i c h
  rw [e] at z; cases z
  exact n xs rfl
theorem po_view {f : EF Sl} (h : PE X e (tO Y W f)) : PE X e (tO Y W (viewO f)) := PE.imp h fun σ H Q ⟨fo, at_, B, ρ, E, h⟩ =>
  ⟨fo, _, H, _, E.view, (Post.bind h).mono fun s H1 s1 h1 v oa new r hn => by
    by_cases z : stillS s = true
    · rw [if_pos z] at h1
      have E1 := E.ext s1
      have up : ∀ a xs, hd (fun a => hid fo (fun _ => none) a ∨ oa = some a) H1 a = some (.tup xs) → hd (fun a => hid fo at_ a ∨ oa = some a) H1 a = some (.tup xs) := fun a xs e => by
        obtain ⟨n, e⟩ := hd_some e
        refine (hd_not ?_).trans e
        rintro ((m | ⟨i, m⟩) | m)
        · exact n (.inl (.inl m))
        · exact E1.noTup m xs e
        · exact n (.inr m)
      refine (h1 : Post Y W σ H1 (.ok s) _).now v oa new ?_ hn
      cases s with
      | dat d => obtain ⟨e1, y, e2, q⟩ := r; exact ⟨e1, y, e2, still_at up z q⟩
      | ol xs => obtain ⟨b, vs, e1, e2, e3, e4, q⟩ := r; exact ⟨b, vs, e1, e2, e3, e4, stillL_at up z q⟩
      | _ => cases z
    · rw [if_neg z] at h1; exact h1.elim⟩
end
end PL

/-! P11: what is walked; statements on what is owned; sets. -/
namespace PL
open PySem PySem.Spec L2
theorem AtL.getD {Y : Yx} {G : Hp} {vs : List V} {ds : List D} {i : Nat} {v : V} (a : AtL Y G vs ds) (e : vs[i]? = some v) : ∃ d, ds[i]? = some d ∧ At Y G v d := a.getV e
section
variable {X : Cx} {Y : Yx} {W : WX} {a b e o tg : Expr} {es : List Expr} {f g : EF D} {l : EF (List D)} {p p2 pos apos cpos : Pos} {x : Str}
/-! ### sources -/
def signs (z : Str) : List D := z.cps.toList.map fun c => .str ⟨#[c]⟩
def srcD : D → Option (List D)
  | .lst xs => some xs
  | .tup xs => some xs
  | .str z => some (signs z)
  | _ => none
@[simp] def srcE (f : EF D) : EF (List D) := fun ρ => (f ρ).bind fun d => ofO (srcD d)
theorem Post.opL {σ : L2.St} {H : Hp} {m : Option (List D)} {K : List D → Hp → Prop} (h : Post Y W σ H (ofO m) K) : ∃ c, m = some c ∧ ∀ H', Same H H' → K c H' := by
  cases m with
  | none => exact h.elim
  | some c => exact ⟨c, rfl, h⟩
theorem items_list {h : Addr → Prop} {H : Hp} {q : Addr} {vs : List V} {ds : List D} (g : hd h H q = some (.lst vs)) (al : AtL Y (hd h H) vs ds) : Items Y (hd h H) (Itl Y.K q) ds := by
  refine ⟨fun H1 => SqL Y.K H1 q vs, YAt vs, by rw [← al.length]; exact walk_list, fun H1 s => SqL.of (s _ _ g), fun i H1 x H2 h2 hi s _ y => ?_⟩
  obtain ⟨rfl, e⟩ := y
  obtain ⟨d, ed, ad⟩ := (al.same s).getV e
  exact ⟨Same.refl _, d, ed, ad⟩
theorem items_tup {h : Addr → Prop} {H : Hp} {q : Addr} {vs : List V} {ds : List D} (g : hd h H q = some (.tup vs)) (al : AtL Y (hd h H) vs ds) : Items Y (hd h H) (Itt Y.K q) ds := by
  refine ⟨fun H1 => SqT Y.K H1 q vs, YAt vs, by rw [← al.length]; exact walk_tup, fun H1 s => SqT.of (s _ _ g), fun i H1 x H2 h2 hi s _ y => ?_⟩
  obtain ⟨rfl, e⟩ := y
  obtain ⟨d, ed, ad⟩ := (al.same s).getV e
  exact ⟨Same.refl _, d, ed, ad⟩
theorem items_str {B' : Hp} {z : Str} : Items Y B' (Its z) (signs z) := by
  refine ⟨_, _, (show (signs z).length = z.cps.size by unfold signs; simp) ▸ walk_str, fun _ _ => trivial, fun i H1 x H2 h2 hi s _ y => ?_⟩
  obtain ⟨rfl, c, e, rfl⟩ := y
  refine ⟨Same.refl _, .str ⟨#[c]⟩, ?_, rfl⟩
  unfold signs
  rw [List.getElem?_map, Array.getElem?_toList, e]; rfl
theorem pi_src (hK : X.K = Y.K) (h : PE X e (tE Y W f)) : PI X tg e (tI Y W (srcE f)) := by
  refine ⟨fun pins s σ H Rr I k => ?_⟩
  refine (PI.or (pi_list h) (PI.or (pi_tup h) (pi_str h))).run pins s σ H Rr I ?_
  obtain ⟨fo, at_, B, ρ, E, k⟩ := k
  unfold srcE at k
  cases ef : f ρ with
  | bad => rw [ef] at k; exact k.elim
  | ex c ps => rw [ef] at k; exact .inl ⟨fo, at_, B, ρ, E, by rw [ef]; exact k⟩
  | ok d =>
    rw [ef, bind_ok] at k
    obtain ⟨c, ec, k⟩ := Post.opL k
    cases d with
    | lst xs =>
      cases ec
      refine .inl ⟨fo, at_, B, ρ, E, ?_⟩
      rw [ef]
      rintro H1 s1 v ⟨q, vs, rfl, gq, z, al⟩
      exact ⟨q, rfl, ⟨vs, SqL.of (hd_le _ _ gq)⟩, by rw [hK]; exact k H1 s1 _ (items_list gq al)⟩
    | tup xs =>
      cases ec
      refine .inr (.inl ⟨fo, at_, B, ρ, E, ?_⟩)
      rw [ef]
      rintro H1 s1 v ⟨q, vs, rfl, gq, z, al⟩
      exact ⟨q, rfl, ⟨vs, SqT.of (hd_le _ _ gq)⟩, by rw [hK]; exact k H1 s1 _ (items_tup gq al)⟩
    | str y =>
      cases ec
      refine .inr (.inr ⟨fo, at_, B, ρ, E, ?_⟩)
      rw [ef]
      intro H1 s1 v q
      exact ⟨y, q, k H1 s1 _ items_str⟩
    | _ => cases ec
def rngL (i j : Int) : List D := (List.range (j - i).toNat).map fun k => .int (i + (k : Nat))
def smallI (i : Int) : Prop := -(2 ^ 62) ≤ i ∧ i < 2 ^ 62
instance (i : Int) : Decidable (smallI i) := by unfold smallI; infer_instance
def rng1D : List D → Option (List D)
  | [.int j] => if smallI j then some (rngL 0 j) else none
  | _ => none
def rng2D : List D → Option (List D)
  | [.int i, .int j] => if smallI i ∧ smallI j then some (rngL i j) else none
  | _ => none
@[simp] def rgE (l : EF (List D)) (op : List D → Option (List D)) : EF (List D) := fun ρ => (l ρ).bind fun ds => ofO (op ds)
theorem items_rng {B' : Hp} {i j : Int} : Items Y B' (Itr i (j - i).toNat) (rngL i j) := by
  have hl : (rngL i j).length = (j - i).toNat := by unfold rngL; simp
  refine ⟨fun _ => True, YFn fun k => .int (i + (k : Nat)), by rw [hl]; exact walk_range, fun _ _ => trivial, fun k H1 x H2 h2 hi s _ y => ?_⟩
  obtain ⟨rfl, rfl⟩ := y
  refine ⟨Same.refl _, .int (i + k), ?_, rfl⟩
  unfold rngL at hi ⊢
  rw [List.length_map, List.length_range] at hi
  rw [List.getElem?_map, List.getElem?_range hi]; rfl
theorem pi_rng1 (hg : Gl X "range") (hm : X.mg "range" = none) (ha : PA X [a] (tL Y W l)) (hs : starEach [a] X.env = [(false, eval a X.env)] := by rfl) : PI X tg (.Call (.Name "range" p) [a] [] pos) (tI Y W (rgE l rng1D)) := by
  refine ⟨fun pins s σ H Rr I ⟨fo, at_, B, ρ, E, k⟩ => (pi_range1 hg hm ha hs).run pins s σ H Rr I ⟨fo, at_, B, ρ, E, (Post.bind k).mono fun ds H1 s1 h1 vs a => ?_⟩⟩
  obtain ⟨c, ec, k⟩ := Post.opL h1
  match ds, ec, a with
  | [.int j], ec, a =>
    have ec2 : (if smallI j then some (rngL 0 j) else none) = some c := ec
    split at ec2
    · rename_i hz
      cases ec2
      obtain ⟨x, rfl, ax⟩ := args1 a
      cases (show x = _ from ax)
      exact ⟨j, rfl, hz.1, hz.2, k H1 (Same.refl H1) _ (by rw [show j.toNat = (j - 0).toNat by omega]; exact items_rng)⟩
    · cases ec2
theorem pi_rng2 (hg : Gl X "range") (hm : X.mg "range" = none) (ha : PA X [a, b] (tL Y W l)) (hs : starEach [a, b] X.env = [(false, eval a X.env), (false, eval b X.env)] := by rfl) (hs2 : starEach [b] X.env = [(false, eval b X.env)] := by rfl) :
    PI X tg (.Call (.Name "range" p) [a, b] [] pos) (tI Y W (rgE l rng2D)) := by
  refine ⟨fun pins s σ H Rr I ⟨fo, at_, B, ρ, E, k⟩ => (pi_range2 hg hm ha hs hs2).run pins s σ H Rr I ⟨fo, at_, B, ρ, E, (Post.bind k).mono fun ds H1 s1 h1 vs a => ?_⟩⟩
  obtain ⟨c, ec, k⟩ := Post.opL h1
  match ds, ec, a with
  | [.int i, .int j], ec, a =>
    have ec2 : (if smallI i ∧ smallI j then some (rngL i j) else none) = some c := ec
    split at ec2
    · rename_i hz
      cases ec2
      obtain ⟨x, y, rfl, ax, ay⟩ := args2 a
      cases (show x = _ from ax)
      cases (show y = _ from ay)
      exact ⟨i, j, rfl, ⟨hz.1.1, hz.1.2, hz.2.1, hz.2.2⟩, k H1 (Same.refl H1) _ items_rng⟩
    · cases ec2
/-- a list of a range -/
def rgOkD (r : List D → Option (List D)) (l : EF (List D)) : EF Sl := fun ρ => (l ρ).bind fun ds => ofO ((r ds).bind fun xs => if xs.length ≤ 65536 then some (.ol xs) else none)
theorem at_rgV {G : Hp} {i j : Int} : AtL Y G (rgV i j) (rngL i j) := by
  unfold rgV rngL
  induction List.range (j - i).toNat with
  | nil => rfl
  | cons k ks ih => exact ⟨.int (i + k), _, rfl, rfl, ih⟩
theorem po_listRg1 {pb : Pos} (hc : X.calm = true) (hg : Gl X "list") (hm : X.mg "list" = none) (hg2 : Gl X "range") (hm2 : X.mg "range" = none) (he : PE X a (tE Y W f)) (na : starEach [a] X.env = (false, eval a X.env) :: starEach [] X.env := by rfl)
    (nb : starEach [.Call (.Name "range" p2) [a] [] pb] X.env = (false, eval (.Call (.Name "range" p2) [a] [] pb) X.env) :: starEach [] X.env := by rfl) : PE X (.Call (.Name "list" p) [.Call (.Name "range" p2) [a] [] pb] [] pos) (tO Y W (rgOkD rng1D (consL f nilL))) :=
  PE.imp (pe_listRg hc hg hm (prg_1 (pos := pb) (p := p2) hg2 hm2 he na) nb) fun σ H Q ⟨fo, at_, B, ρ, E, k⟩ => by
    refine ⟨fo, at_, B, ρ, E, ?_⟩
    unfold rgOkD consL nilL at k
    cases ef : f ρ with
    | bad => rw [ef] at k; exact k.elim
    | ex c ps => rw [ef] at k; exact k
    | ok d =>
      rw [ef, bind_ok, bind_ok, bind_ok] at k
      intro H1 s1 v a
      obtain ⟨c, ec, k⟩ := Post.opS k
      cases d with
      | int j =>
        have ec2 : ((if smallI j then some (rngL 0 j) else none).bind fun xs => if xs.length ≤ 65536 then some (Sl.ol xs) else none) = some c := ec
        by_cases hz : smallI j
        · rw [if_pos hz, Option.bind_some] at ec2
          split at ec2
          · rename_i hl
            cases ec2
            have lj : j.toNat ≤ 65536 := by unfold rngL at hl; simpa using hl
            refine ⟨j, a, ⟨by decide, by decide, hz.1, hz.2, by omega⟩, fun n hn => k _ (s1.trans (same_new hn)) _ (some n) (fun b e => by cases e; exact s1.free hn) (sl_newL (E.ext s1).al hn (by unfold cap; omega) at_rgV) (fun z => nomatch z)⟩
          · cases ec2
        · rw [if_neg hz] at ec2; cases ec2
      | _ => cases ec
def enumL (xs : List D) : List D := xs.zipIdx.map fun p => .tup [.int (p.2 : Nat), p.1]
def enE (f : EF D) : EF (List D) := fun ρ => (f ρ).bind fun d => match d with
  | .lst xs => .ok (enumL xs)
  | _ => .bad
theorem items_enum {h : Addr → Prop} {H : Hp} {q : Addr} {vs : List V} {ds : List D} (g : hd h H q = some (.lst vs)) (al : AtL Y (hd h H) vs ds) : Items Y (hd h H) (Ite Y.K q) (enumL ds) := by
  refine ⟨_, _, (show (enumL ds).length = vs.length by unfold enumL; rw [al.length]; simp) ▸ walk_enum (xs := vs), fun H1 s => SqL.of (s _ _ g), fun i H1 x H2 h2 hi s a2 y => ?_⟩
  obtain ⟨T, u, w, rfl, nT, rfl, eu, ew⟩ := y
  cases eu
  obtain ⟨d, ed, ad⟩ := (al.same s).getV ew
  have sn : Same (hd h2 H1) (hd h2 (upd H1 T (.tup [.int (i : Nat), w]))) := hd_same (same_new nT)
  refine ⟨same_new nT, .tup [.int (i : Nat), d], ?_, T, _, rfl, hd_new a2 nT, by show 2 ≤ cap; unfold cap; omega, AtL.two rfl (ad.same sn)⟩
  unfold enumL
  rw [List.getElem?_map, List.getElem?_zipIdx, ed]
  simp
theorem pi_enumP {elts : List Expr} {kk : Nat} {tpos : Pos} (hK : X.K = Y.K) (hg : Gl X "enumerate") (hm : X.mg "enumerate" = none) (he : PE X e (tE Y W f)) (hs : starEach [e] X.env = [(false, eval e X.env)] := by rfl) :
    PI X (.Tuple elts kk tpos) (.Call (.Name "enumerate" p) [e] [] pos) (tI Y W (enE f)) := by
  refine ⟨fun pins s σ H Rr I ⟨fo, at_, B, ρ, E, k⟩ => (pi_enum hg hm (ax_cons he ax_nil hs) hs).run pins s σ H Rr I ⟨fo, at_, B, ρ, E, ?_⟩⟩
  unfold enE at k
  unfold consL nilL
  cases ef : f ρ with
  | bad => rw [ef] at k; exact k.elim
  | ex c ps => rw [ef] at k; exact k
  | ok d =>
    rw [ef, bind_ok] at k
    rw [bind_ok, bind_ok]
    intro H1 s1 vs a
    cases d with
    | lst xs =>
      obtain ⟨x, rfl, q, ws, rfl, gq, z, al⟩ := args1 a
      exact ⟨q, ws, rfl, by rw [hK]; exact SqL.of (hd_le _ _ gq), by rw [hK]; exact (k : Post Y W σ H (.ok (enumL xs)) _) H1 s1 _ (items_enum gq al)⟩
    | _ => exact k.elim
/-! ### statements on what is owned -/
theorem EnvO.own {fo : Addr → Prop} {at_ : Nat → Option Addr} {B : Hp} {σ : L2.St} {H : Hp} {ρ : List Sl} (E : EnvO Y fo at_ B σ H ρ) {i : Nat} {xs : List D} (e : ρ[i]? = some (.ol xs)) :
    ∃ q vs, at_ i = some q ∧ σ[i]? = some (some (.ref q)) ∧ H q = some (.lst vs) ∧ vs.length ≤ cap ∧ AtL Y (hd (hid fo at_) H) vs xs := by
  obtain ⟨q, vs, e1, e2, e3, e4, al⟩ := E.sl i _ e
  exact ⟨q, vs, e1, join_some e2, e3, e4, al⟩
theorem EnvO.mutL {fo : Addr → Prop} {at_ : Nat → Option Addr} {B : Hp} {σ : L2.St} {H : Hp} {ρ : List Sl} (E : EnvO Y fo at_ B σ H ρ) {i : Nat} {q : Addr} {vs : List V} {ds : List D} (hi : i < ρ.length) (ha : at_ i = some q) (hs : σ[i]? = some (some (.ref q))) (z : vs.length ≤ cap) (al : AtL Y (hd (hid fo at_) H) vs ds) :
    EnvO Y fo at_ B σ (upd H q (.lst vs)) (ρ.set i (.ol ds)) := E.mut hi ha fun v ev => ⟨q, vs, rfl, by rw [ev, hs]; rfl, upd_same, z, al⟩
/-- what a method does to an owned list: the new list -/
def VLm (Y : Yx) (r : V → List V → Hp → VK → Prop) (op : List D → List D → Option (List D)) : Prop := ∀ (h : Addr → Prop) (H : Hp) (q : Addr) (vs xs : List V) (ds es c : List D) (Q : VK), H q = some (.lst vs) → vs.length ≤ cap → AtL Y (hd h H) vs ds → AtL Y (hd h H) xs es → op ds es = some c →
  (∀ ws, ws.length ≤ cap → AtL Y (hd h H) ws c → Q .non (upd H q (.lst ws))) → r (.ref q) xs H Q
@[simp] def lmF (i : Nat) (l : EF (List D)) (op : List D → List D → Option (List D)) : SF := fun ρ => match ρ[i]? with
  | some (.ol ds) => lf (l ρ) ρ fun es => match op ds es with
    | some c => some (.nx (ρ.set i (.ol c)))
    | none => none
  | _ => none
theorem lm_rd {i : Nat} {r : V → List V → Hp → VK → Prop} {op : List D → List D → Option (List D)} (v : VLm Y r op) {σ : L2.St} {H : Hp} {Dn : Ends} {fo : Addr → Prop} {at_ : Nat → Option Addr} {B : Hp} {ρ : List Sl} (E : EnvO Y fo at_ B σ H ρ) (h : PoS Y W fo B Dn (lmF i l op ρ)) :
    ∃ q vs, σ[i]? = some (some (.ref q)) ∧ H q = some (.lst vs) ∧ tL Y W l σ H fun xs H2 => r (.ref q) xs H2 fun _ H3 => Dn.nx σ H3 := by
  unfold lmF at h
  cases e : ρ[i]? with
  | none => rw [e] at h; exact h.elim
  | some s =>
    rw [e] at h
    cases s with
    | ol ds =>
      obtain ⟨q, vs, ha, hs, hq, z, al⟩ := E.own e
      refine ⟨q, vs, hs, hq, fo, at_, B, ρ, E, (lf_post E h).mono fun es H1 s1 ⟨E1, h1⟩ xs ax => ?_⟩
      cases ec : op ds es with
      | none => rw [ec] at h1; exact h1.elim
      | some c =>
        rw [ec] at h1
        exact v _ H1 q vs xs ds es c _ (s1 _ _ hq) z (al.same (hd_same s1)) ax ec fun ws z ac => h1 at_ σ _ (E1.mutL (List.getElem?_eq_some_iff.mp e).1 ha hs z ac)
    | _ => exact h.elim
theorem sx_lm {i : Nat} {name : Str} {id : String} {r : V → List V → Hp → VK → Prop} {op : List D → List D → Option (List D)} (slot : Slot "list" name id) (hty : typeOf (.builtin id) = pure (.type "method_descriptor")) (hm : MtR X id r) (v : VLm Y r op)
    (ho : PE X o (tVar i)) (ha : PA X (e :: es) (tL Y W l)) (hbase : attributeBase o name X.env (eval o X.env) = eval o X.env := by rfl)
    (hfew : ((backTo cpos (starEach (e :: es) X.env)).all (fun x => !x.1) && (backToKw cpos (keywordEach [] X.env)).all (fun x => x.1.isSome)
      && decide ((e :: es).length + ([] : List Keyword).length + (if ([] : List Keyword).isEmpty then 0 else 1) < 30)) = true := by rfl)
    (hline : (apos.endLine == cpos.line) = true := by rfl) (hs : starEach (e :: es) X.env = (false, eval e X.env) :: starEach es X.env := by rfl) (hplain : (backTo cpos (starEach es X.env)).any (·.1) = false := by rfl)
    (hw : swapsWith (.Call (.Attribute o name apos) (e :: es) [] cpos) none pos.line X.env = pure false := by rfl) :
    PS X (.Expr (.Call (.Attribute o name apos) (e :: es) [] cpos) pos) (tS Y W (lmF i l op)) := PS.imp (ps_expr (pe_bm PySem.F.plainAttrs_list slot hty hm ho ha hbase hfew hline hs hplain) hw) fun Dn σ H ⟨fo, at_, B, ρ, E, h⟩ => by
  obtain ⟨q, vs, hs, hq, k⟩ := lm_rd v E h
  exact ⟨_, hs, .inl ⟨rfl, vs, SqL.of hq⟩, k⟩
theorem sx_lm0 {i : Nat} {name : Str} {id : String} {r : V → List V → Hp → VK → Prop} {op : List D → List D → Option (List D)} (slot : Slot "list" name id) (hty : typeOf (.builtin id) = pure (.type "method_descriptor")) (hm : MtR X id r) (v : VLm Y r op)
    (ho : PE X o (tVar i)) (hbase : attributeBase o name X.env (eval o X.env) = eval o X.env := by rfl) (hline : (apos.endLine == cpos.line) = true := by rfl) (hw : swapsWith (.Call (.Attribute o name apos) [] [] cpos) none pos.line X.env = pure false := by rfl) :
    PS X (.Expr (.Call (.Attribute o name apos) [] [] cpos) pos) (tS Y W (lmF i nilL op)) := PS.imp (ps_expr (pe_bm0 PySem.F.plainAttrs_list slot hty hm ho hbase hline) hw) fun Dn σ H ⟨fo, at_, B, ρ, E, h⟩ => by
  obtain ⟨q, vs, hs, hq, fo2, at2, B2, ρ2, E2, k⟩ := lm_rd v E h
  exact ⟨_, hs, .inl ⟨rfl, vs, SqL.of hq⟩, (k : Post Y W σ H (.ok []) _).now [] rfl⟩
def appO : List D → List D → Option (List D) := fun ds es => match es with
  | [d] => if ds.length < cap then some (ds ++ [d]) else none
  | _ => none
theorem v_append : VLm Y rAppend appO := fun h H q vs xs ds es c Q hq z al ax e k => by
  match es, e, ax with
  | [d], e, ax =>
    have e2 : (if ds.length < cap then some (ds ++ [d]) else none) = some c := e
    split at e2
    · rename_i hl
      cases e2
      obtain ⟨x, rfl, a1⟩ := args1 ax
      have lv := al.length
      exact ⟨q, vs, x, rfl, rfl, hq, by rw [← cap_eq]; omega, k _ (by simp; omega) (al.snoc a1)⟩
    · cases e2
def extO : List D → List D → Option (List D) := fun ds es => match es with
  | [.lst ys] => if ds.length + ys.length ≤ cap then some (ds ++ ys) else none
  | _ => none
theorem v_extend : VLm Y rExtend extO := fun h H q vs xs ds es c Q hq z al ax e k => by
  match es, e, ax with
  | [.lst ys], e, ax =>
    have e2 : (if ds.length + ys.length ≤ cap then some (ds ++ ys) else none) = some c := e
    split at e2
    · rename_i hl
      cases e2
      obtain ⟨x, rfl, a1⟩ := args1 ax
      obtain ⟨r, ws, rfl, g, sq, ln, zz, av⟩ := at_seqL a1
      have lv := al.length
      exact ⟨q, r, vs, ws, rfl, rfl, hq, g, by rw [← cap_eq]; omega, k _ (by simp; omega) (al.append av)⟩
    · cases e2
def clrO : List D → List D → Option (List D) := fun _ es => match es with
  | [] => some []
  | _ => none
theorem v_clear : VLm Y rClear clrO := fun h H q vs xs ds es c Q hq z al ax e k => by
  match es, e, ax with
  | [], e, ax =>
    cases e
    cases (show xs = [] from ax)
    exact ⟨q, vs, rfl, rfl, hq, k [] (Nat.zero_le _) rfl⟩
/-- v[..] = .. of an owned list -/
@[simp] def seF (i : Nat) (g f : EF D) : SF := fun ρ => lf (f ρ) ρ fun d => match ρ[i]? with
  | some (.ol ds) => lf (g ρ) ρ fun k => match (intD k).bind (ixN ds.length) with
    | some j => some (.nx (ρ.set i (.ol (ds.set j d))))
    | none => none
  | _ => none
theorem sx_seti {i : Nat} (ho : PE X o (tVar i)) (hi : PE X a (tE Y W g)) (he : PE X e (tE Y W f)) (hs : swapsWithSole [.Subscript o a p] e pos.line X.env = pure false := by rfl) (hw : swappedStores [.Subscript o a p] e X.env = pure none := by rfl)
    (h1 : (assignEach [.Subscript o a p] X.env).map (·.2) = [assign (.Subscript o a p) X.env] := by rfl)
    (ha : ∀ v, assign (.Subscript o a p) X.env v = (do
      let ov ← holding [v] (eval o X.env)
      let iv ← holding [v, ov] (eval a X.env)
      standAt p
      holding [v, ov, iv] (setItem ov iv v)
      release [v, ov, iv] []) := by intro _; rfl) : PS X (.Assign [.Subscript o a p] e pos) (tS Y W (seF i g f)) := PS.imp (ps_asg he (pg_sub ho hi set_list ha) hs hw h1) fun Dn σ H ⟨fo, at_, B, ρ, E, h⟩ => by
  refine ⟨fo, at_, B, ρ, E, (lf_post E h).mono fun d H1 s1 ⟨E1, h1⟩ v av => ?_⟩
  cases e : ρ[i]? with
  | none => rw [e] at h1; exact h1.elim
  | some s =>
    rw [e] at h1
    cases s with
    | ol ds =>
      obtain ⟨q, vs, ha, hs, hq, z, al⟩ := E1.own e
      refine ⟨_, hs, fo, at_, B, ρ, E1, (lf_post E1 h1).mono fun k H2 s2 ⟨E2, h2⟩ y ay => ?_⟩
      cases ek : (intD k).bind (ixN ds.length) with
      | none => rw [ek] at h2; exact h2.elim
      | some j =>
        rw [ek] at h2
        cases k with
        | int n =>
          cases (show y = _ from ay)
          refine ⟨q, vs, n, j, rfl, rfl, s2 _ _ hq, by rw [al.length]; exact ek, h2 at_ σ _ (E2.mutL (List.getElem?_eq_some_iff.mp e).1 ha hs (by rw [List.length_set]; exact z) ((al.same (hd_same s2)).set (av.same (hd_same s2))))⟩
        | _ => cases ek
    | _ => exact h1.elim
/-- a, b = x, y -/
@[simp] def prF (i j : Nat) (l : EF (List D)) : SF := fun ρ => lf (l ρ) ρ fun ds => match ds with
  | [d, e] => if i < ρ.length ∧ j < ρ.length then some (.nx ((ρ.set i (.dat d)).set j (.dat e))) else none
  | _ => none
theorem sx_par {i j : Nat} {x y : Str} {px py pt : Pos} {kt k2 pt2} (hc : X.calm = true) (hN : X.N.Nodup) (hi : X.N[i]? = some x) (hj : X.N[j]? = some y) (hij : i ≠ j)
    (hx : X.env.scope.names.lookup x = some .local) (hy : X.env.scope.names.lookup y = some .local) (ha : PA X [a, b] (tL Y W l))
    (hw : swappedStores [.Tuple [.Name x px, .Name y py] kt pt] (.Tuple [a, b] k2 pt2) X.env = pure (some [x, y]))
    (hs : swapsWithSole [.Tuple [.Name x px, .Name y py] kt pt] (.Tuple [a, b] k2 pt2) pos.line X.env = pure false := by rfl) :
    PS X (.Assign [.Tuple [.Name x px, .Name y py] kt pt] (.Tuple [a, b] k2 pt2) pos) (tS Y W (prF i j l)) := PS.imp (ps_par hc hN hi hj hij hx hy ha hw hs) fun Dn σ H ⟨fo, at_, B, ρ, E, h⟩ => by
  refine ⟨fo, at_, B, ρ, E, (lf_post E h).mono fun ds H1 s1 ⟨E1, h1⟩ vs av => ?_⟩
  match ds, h1, av with
  | [d, e], h1, av =>
    dsimp only at h1
    by_cases z : i < ρ.length ∧ j < ρ.length
    · rw [if_pos z] at h1
      obtain ⟨v, w, rfl, a1, a2⟩ := args2 av
      refine ⟨v, w, rfl, h1 _ _ H1 ((E1.putD (Same.refl _) z.1 a1).putD (Same.refl _) (by rw [List.length_set]; exact z.2) (a2.same (hd_sub fun b m => m.elim .inl fun ⟨k, m⟩ => ?_)))⟩
      by_cases hk : k = i
      · rw [hk, seta_same] at m; cases m
      · rw [seta_ne hk] at m; exact .inr ⟨k, m⟩
    · rw [if_neg z] at h1; exact h1.elim
  | [], h1, av => exact h1.elim
  | [_], h1, av => exact h1.elim
  | _ :: _ :: _ :: _, h1, av => exact h1.elim
/-- self.name = .. in an __init__ -/
def pf (z : Str) (d : D) : List (Str × D) → List (Str × D)
  | [] => [(z, d)]
  | (g, x) :: r => if g = z then (g, d) :: r else (g, x) :: pf z d r
theorem AtF.put {G : Hp} {z : Str} {v : V} {d : D} (a : At Y G v d) : ∀ {vs : List (Str × V)} {ds : List (Str × D)}, AtF Y G vs ds → AtF Y G (putF z v vs) (pf z d ds)
  | _, [], h => by cases (show _ = [] from h); exact ⟨v, [], rfl, a, rfl⟩
  | _, (k, e) :: ds, ⟨w, r, ev, q, t⟩ => by
    subst ev
    unfold putF pf
    by_cases hk : k = z
    · rw [if_pos hk, if_pos hk]; exact ⟨v, r, rfl, a, t⟩
    · rw [if_neg hk, if_neg hk]; exact ⟨w, _, rfl, q, AtF.put a t⟩
theorem AtF.length {G : Hp} : ∀ {vs : List (Str × V)} {ds : List (Str × D)}, AtF Y G vs ds → vs.length = ds.length
  | _, [], h => by cases (show _ = [] from h); rfl
  | _, (k, e) :: ds, ⟨w, r, ev, q, t⟩ => by subst ev; simp [AtF.length t]
@[simp] def afF (i : Nat) (z : Str) (f : EF D) : SF := fun ρ => lf (f ρ) ρ fun d => match ρ[i]? with
  | some (.oI c fs) => if fs.length < 1000 then some (.nx (ρ.set i (.oI c (pf z d fs)))) else none
  | _ => none
theorem sx_fld {i : Nat} {z : Str} (hK : X.K = Y.K) (hc : Cls Y.K Y.C) (hn : NoAttr Y.K Y.C z) (ho : PE X o (tVar i)) (he : PE X e (tE Y W f)) (hs : swapsWith e (some (.Attribute o z p)) pos.line X.env = pure false := by rfl) : PS X (.Assign [.Attribute o z p] e pos) (tS Y W (afF i z f)) :=
  PS.imp (ps_fld ho he hs) fun Dn σ H ⟨fo, at_, B, ρ, E, h⟩ => by
    refine ⟨fo, at_, B, ρ, E, (lf_post E h).mono fun d H1 s1 ⟨E1, h1⟩ v av => ?_⟩
    cases e : ρ[i]? with
    | none => rw [e] at h1; exact h1.elim
    | some s =>
      rw [e] at h1
      cases s with
      | oI c fs =>
        obtain ⟨dx, xs, ha, hs, hq, al⟩ := E1.sl i _ e
        have h1 : PoS Y W fo B Dn (if fs.length < 1000 then some (.nx (ρ.set i (.oI c (pf z d fs)))) else none) := h1
        by_cases z2 : fs.length < 1000
        · rw [if_pos z2] at h1
          refine ⟨_, join_some hs, c, Y.C, dx, xs, rfl, hq, by rw [hK]; exact hc, by rw [hK]; exact hn, by rw [al.length]; exact z2, h1 at_ σ _ (E1.mut (List.getElem?_eq_some_iff.mp e).1 ha fun w ew => ⟨dx, _, rfl, by rw [ew]; exact hs, upd_same, al.put av⟩)⟩
        · rw [if_neg z2] at h1; exact h1.elim
      | _ => exact h1.elim
end
end PL

/-! P12: sets of whole numbers in passing; dicts that are walked. -/
namespace PL
open PySem PySem.Spec L2
/-! ### rising lists -/
def insU (x : Int) : List Int → List Int
  | [] => [x]
  | y :: r => if x < y then x :: y :: r else if x = y then y :: r else y :: insU x r
def sdd : List Int → List Int
  | [] => []
  | x :: r => insU x (sdd r)
theorem mem_insU {x z : Int} : ∀ {l : List Int}, z ∈ insU x l ↔ z = x ∨ z ∈ l
  | [] => by simp [insU]
  | y :: r => by
    unfold insU
    split
    · simp
    · split
      · rename_i h; subst h; simp
      · simp only [List.mem_cons, mem_insU (l := r)]
        constructor
        · rintro (h | h | h)
          · exact .inr (.inl h)
          · exact .inl h
          · exact .inr (.inr h)
        · rintro (h | h | h)
          · exact .inr (.inl h)
          · exact .inl h
          · exact .inr (.inr h)
theorem mem_sdd {z : Int} : ∀ {l : List Int}, z ∈ sdd l ↔ z ∈ l
  | [] => Iff.rfl
  | x :: r => by rw [sdd, mem_insU, mem_sdd, List.mem_cons]
theorem insU_pw {x : Int} : ∀ {l : List Int}, l.Pairwise (· < ·) → (insU x l).Pairwise (· < ·)
  | [], _ => List.pairwise_cons.mpr ⟨fun _ h => (nomatch h), List.Pairwise.nil⟩
  | y :: r, h => by
    have h2 := List.pairwise_cons.mp h
    unfold insU
    split
    · rename_i hx
      refine List.pairwise_cons.mpr ⟨fun z hz => ?_, h⟩
      rcases List.mem_cons.mp hz with e | e
      · rw [e]; exact hx
      · have := h2.1 z e; omega
    · split
      · exact h
      · rename_i h1 h3
        refine List.pairwise_cons.mpr ⟨fun z hz => ?_, insU_pw h2.2⟩
        rcases mem_insU.mp hz with e | e
        · omega
        · exact h2.1 z e
theorem sdd_pw : ∀ {l : List Int}, (sdd l).Pairwise (· < ·)
  | [] => List.Pairwise.nil
  | x :: r => insU_pw sdd_pw
theorem nodup_pw {l : List Int} (h : l.Pairwise (· < ·)) : l.Nodup := h.imp fun h => by omega
theorem rising_eq {l m : List Int} (h1 : l.Pairwise (· < ·)) (h2 : m.Pairwise (· < ·)) (h : ∀ z, z ∈ l ↔ z ∈ m) : l = m :=
  List.Perm.eq_of_pairwise (le := (· < ·)) (fun a b _ _ p q => by omega) h1 h2 ((List.perm_ext_iff_of_nodup (nodup_pw h1) (nodup_pw h2)).mpr h)
theorem len_eq {l m : List Int} (h1 : l.Nodup) (h2 : m.Nodup) (h : ∀ z, z ∈ l ↔ z ∈ m) : l.length = m.length := ((List.perm_ext_iff_of_nodup h1 h2).mpr h).length_eq
section
variable {X : Cx} {Y : Yx} {W : WX} {a b e o tg : Expr} {es : List Expr} {f g : EF D} {l : EF (List D)} {p p2 pos apos cpos : Pos} {x : Str}
def rSetOf (K : PySem.W.Frag) (w : World) : List V → Hp → VK → Prop := fun xs H Q => ∃ a ns, xs = [V.ref a] ∧ SqL K H a (ns.map V.int) ∧ ns.length + 1 < scanBound ∧
  ∀ q, H q = none → Q (.ref q) (upd H q (SetO w q (fun j => decide (j ∈ ns)) (sdd ns).length))
theorem setR_len {w : World} {h : Heap} {a : Addr} {ns : List Int} {c : Nat} (R : SetR w h a (fun j => decide (j ∈ ns)) c) : c = (sdd ns).length := by
  obtain ⟨o, es, ep, t, _, _, _, _, nd, hS, _, _, hn, _⟩ := R
  have h2 : ∀ z, z ∈ es.toList.map keyOf ↔ z ∈ sdd ns := fun z => by rw [mem_sdd, ← hS z]; simp
  have := len_eq nd (nodup_pw sdd_pw) h2
  rw [← this, List.length_map, ← hn]; simp
theorem cr_setOf (hc : X.calm = true) : CallR X (.type "set") (rSetOf X.K X.w) := by
  intro pins s σ H xs us Q I r h
  obtain ⟨a, ns, rfl, hs, hb, q⟩ := h
  obtain ⟨u, rfl, rx⟩ := vals1 r
  cases rx
  obtain ⟨its, rv, hl, hz⟩ := I.list hs
  refine set_of_ints ns (I.ok.hd hc) hl.isList (by simpa using intsAre_of rv) hb fun g tk c R hcn hk => ?_
  refine ⟨.ref s.heap.objs.size, _, I.laid (t' := tk) hk (Nat.le_refl _) ?_, rfl, q _ (I.hok.fresh (Nat.le_refl _))⟩
  rw [← setR_len R]
  exact setO_new R
/-- sorted(set(l)) -/
def sortedSetO (f : EF D) : EF Sl := fun ρ => (f ρ).bind fun d => match d with
  | .lst xs => ofO ((intsD xs).bind fun ns => if (sdd ns).length < 64 ∧ ns.length < 4000 then some (.ol ((sdd ns).map .int)) else none)
  | _ => .bad
theorem scan4 : 4000 + 1 < scanBound := by unfold scanBound; omega
theorem po_sortedSet {pb : Pos} (hc : X.calm = true) (hK : X.K = Y.K) (hg : Gl X "sorted") (hm : X.mg "sorted" = none) (hg2 : Gl X "set") (hm2 : X.mg "set" = none) (he : PE X e (tE Y W f)) (hs : starEach [e] X.env = (false, eval e X.env) :: starEach [] X.env := by rfl)
    (hs2 : starEach [.Call (.Name "set" p2) [e] [] pb] X.env = (false, eval (.Call (.Name "set" p2) [e] [] pb) X.env) :: starEach [] X.env := by rfl) (hpl : (backTo pos (starEach [] X.env)).any (·.1) = false := by rfl) (hpl2 : (backTo pb (starEach [] X.env)).any (·.1) = false := by rfl) :
    PE X (.Call (.Name "sorted" p) [.Call (.Name "set" p2) [e] [] pb] [] pos) (tO Y W (sortedSetO f)) :=
  PE.imp (pe_callB (cr_sortedSet hc) hg hm (by decide +kernel) (pa_cons (pe_callTy (cr_setOf hc) hg2 hm2 (by decide +kernel) (ax_cons he ax_nil hs) (by decide) (by decide) hs hpl2) pa_nil hs2) (by decide) (by decide) hs2 hpl) fun σ H Q ⟨fo, at_, B, ρ, E, k⟩ => by
    refine ⟨fo, at_, B, ρ, E, ?_⟩
    unfold sortedSetO at k
    unfold consL nilL
    cases ef : f ρ with
    | bad => rw [ef] at k; exact k.elim
    | ex c ps => rw [ef] at k; exact k
    | ok d =>
      rw [ef, bind_ok] at k
      rw [bind_ok, bind_ok]
      intro H1 s1 vs av
      cases d with
      | lst xs =>
        obtain ⟨c, ec, k⟩ := Post.opS k
        cases ei : intsD xs with
        | none => rw [ei] at ec; cases ec
        | some ns =>
          rw [ei, Option.bind_some] at ec
          split at ec
          · rename_i hz
            cases ec
            obtain ⟨x, rfl, ax⟩ := args1 av
            obtain ⟨r, ws, rfl, gq, sq, ln, z, al⟩ := at_seqL ax
            refine ⟨r, ns, rfl, by rw [← intsD_v ei al, hK]; exact sq, by have := scan4; omega, fun q hq => ?_⟩
            refine ⟨q, _, _, rfl, upd_same, hz.1, fun ms n pw mem len hn => ?_⟩
            have em : ms = sdd ns := rising_eq pw sdd_pw fun z => by rw [mem z, mem_sdd]; simp
            subst em
            have nq : n ≠ q := fun z => by rw [z, upd_same] at hn; cases hn
            have hn1 : H1 n = none := by rw [upd_ne nq] at hn; exact hn
            refine k _ ((s1.trans (same_new hq)).trans (same_new hn)) _ (some n) (fun b e => by cases e; exact s1.free hn1) (sl_newL ((E.ext s1).ext (same_new hq)).al hn (by rw [List.length_map]; unfold cap; omega) (at_ints _)) (fun z => nomatch z)
          · cases ec
      | _ => exact k.elim
/-- len(set(l)) -/
def lenSetE (f : EF D) : EF D := fun ρ => (f ρ).bind fun d => match d with
  | .lst xs => ofO ((intsD xs).bind fun ns => if ns.length < 4000 then some (.int (sdd ns).length) else none)
  | _ => .bad
theorem cr_lenSet : CallR X (.builtin "len") (fun xs H Q => ∃ (a : Addr) (S : Int → Bool) (n : Nat), xs = [V.ref a] ∧ H a = some (SetO X.w a S n) ∧ n < 2 ^ 31 ∧ Q (.int n) H) := by
  intro pins s σ H xs us Q I r h
  obtain ⟨a, S, n, rfl, ha, hn, q⟩ := h
  obtain ⟨u, rfl, rx⟩ := vals1 r
  cases rx
  obtain ⟨o, es, ep, t, ho, hex, hd, _, _, _, _, hf, hz, _⟩ := setO_get I ha
  refine call_len_set ho hex hd hf (by rw [hz]; omega) ⟨.int n, H, I.tok _, ⟨_, by rw [hz]⟩, q⟩
theorem px_lenSet {pb : Pos} (hc : X.calm = true) (hK : X.K = Y.K) (hg : Gl X "len") (hm : X.mg "len" = none) (hg2 : Gl X "set") (hm2 : X.mg "set" = none) (he : PE X e (tE Y W f)) (hs : starEach [e] X.env = (false, eval e X.env) :: starEach [] X.env := by rfl)
    (hs2 : starEach [.Call (.Name "set" p2) [e] [] pb] X.env = (false, eval (.Call (.Name "set" p2) [e] [] pb) X.env) :: starEach [] X.env := by rfl) (hpl : (backTo pos (starEach [] X.env)).any (·.1) = false := by rfl) (hpl2 : (backTo pb (starEach [] X.env)).any (·.1) = false := by rfl) :
    PE X (.Call (.Name "len" p) [.Call (.Name "set" p2) [e] [] pb] [] pos) (tE Y W (lenSetE f)) :=
  PE.imp (pe_callB cr_lenSet hg hm (by decide +kernel) (pa_cons (pe_callTy (cr_setOf hc) hg2 hm2 (by decide +kernel) (ax_cons he ax_nil hs) (by decide) (by decide) hs hpl2) pa_nil hs2) (by decide) (by decide) hs2 hpl) fun σ H Q ⟨fo, at_, B, ρ, E, k⟩ => by
    refine ⟨fo, at_, B, ρ, E, ?_⟩
    unfold lenSetE at k
    unfold consL nilL
    cases ef : f ρ with
    | bad => rw [ef] at k; exact k.elim
    | ex c ps => rw [ef] at k; exact k
    | ok d =>
      rw [ef, bind_ok] at k
      rw [bind_ok, bind_ok]
      intro H1 s1 vs av
      cases d with
      | lst xs =>
        obtain ⟨c, ec, k⟩ := Post.op k
        cases ei : intsD xs with
        | none => rw [ei] at ec; cases ec
        | some ns =>
          rw [ei, Option.bind_some] at ec
          split at ec
          · rename_i hz
            cases ec
            obtain ⟨x, rfl, ax⟩ := args1 av
            obtain ⟨r, ws, rfl, gq, sq, ln, z, al⟩ := at_seqL ax
            refine ⟨r, ns, rfl, by rw [← intsD_v ei al, hK]; exact sq, by have := scan4; omega, fun q hq => ?_⟩
            have hl : (sdd ns).length ≤ ns.length := (nodup_pw sdd_pw).length_le_of_subset fun z hz => mem_sdd.mp hz
            exact ⟨q, _, _, rfl, upd_same, by omega, k _ (s1.trans (same_new hq)) _ rfl⟩
          · cases ec
      | _ => exact k.elim
end
end PL

/-! P13: dicts that are walked while they are locked. -/
namespace PL
open PySem PySem.Spec L2
section
variable {X : Cx} {Y : Yx} {W : WX}
/-- dicts are what may be locked -/
def Lk (u : HO) : Prop := (∃ kvs, u = .dK kvs) ∨ ∃ kvs, u = .dT kvs
theorem Lk.mut {u : HO} (h : Lk u) : Mut (some u) := by
  rcases h with ⟨k, rfl⟩ | ⟨k, rfl⟩ <;> exact True.intro
theorem rle_lock {h : Addr → Prop} {H : Hp} {d : Addr} {od : Obj} {u : HO} (hu : Lk u) (e : H d = some u) : RLe (hd h H) (hd h (upd H d (.frz od u))) := by
  have ne : ∀ b o, H b = some o → o ≠ u → b ≠ d := fun b o e2 n z => by rw [z, e] at e2; cases e2; exact n rfl
  refine ⟨fun {b v} hv r => ?_, fun {b xs} r => ?_, fun {b xs} r => ?_, fun {b C dx xs} r => ?_⟩
  · rcases r with r | ⟨o, r⟩
    · obtain ⟨n, r⟩ := hd_some r
      by_cases hb : b = d
      · subst hb
        rw [e] at r; cases r
        exact .inr ⟨od, (hd_not n).trans upd_same⟩
      · exact .inl ((hd_not n).trans ((upd_ne hb).trans r))
    · obtain ⟨n, r⟩ := hd_some r
      have hb : b ≠ d := ne b _ r (by rcases hu with ⟨k, rfl⟩ | ⟨k, rfl⟩ <;> exact fun z => nomatch z)
      exact .inr ⟨o, (hd_not n).trans ((upd_ne hb).trans r)⟩
  · obtain ⟨n, r⟩ := hd_some r
    exact (hd_not n).trans ((upd_ne (ne b _ r (by rcases hu with ⟨k, rfl⟩ | ⟨k, rfl⟩ <;> exact fun z => nomatch z))).trans r)
  · obtain ⟨n, r⟩ := hd_some r
    exact (hd_not n).trans ((upd_ne (ne b _ r (by rcases hu with ⟨k, rfl⟩ | ⟨k, rfl⟩ <;> exact fun z => nomatch z))).trans r)
  · obtain ⟨n, r⟩ := hd_some r
    exact (hd_not n).trans ((upd_ne (ne b _ r (by rcases hu with ⟨k, rfl⟩ | ⟨k, rfl⟩ <;> exact fun z => nomatch z))).trans r)
theorem rle_unlock {h : Addr → Prop} {H : Hp} {d : Addr} {od : Obj} {u : HO} (hu : Lk u) (e : H d = some (.frz od u)) : RLe (hd h H) (hd h (upd H d u)) := by
  have ne : ∀ b o, H b = some o → (∀ o' u', o ≠ .frz o' u') → b ≠ d := fun b o e2 n z => by rw [z, e] at e2; cases e2; exact n _ _ rfl
  refine ⟨fun {b v} hv r => ?_, fun {b xs} r => ?_, fun {b xs} r => ?_, fun {b C dx xs} r => ?_⟩
  · rcases r with r | ⟨o, r⟩
    · obtain ⟨n, r⟩ := hd_some r
      exact .inl ((hd_not n).trans ((upd_ne (ne b _ r hv)).trans r))
    · obtain ⟨n, r⟩ := hd_some r
      by_cases hb : b = d
      · subst hb
        rw [e] at r; cases r
        exact .inl ((hd_not n).trans upd_same)
      · exact .inr ⟨o, (hd_not n).trans ((upd_ne hb).trans r)⟩
  · obtain ⟨n, r⟩ := hd_some r
    exact (hd_not n).trans ((upd_ne (ne b _ r fun _ _ z => nomatch z)).trans r)
  · obtain ⟨n, r⟩ := hd_some r
    exact (hd_not n).trans ((upd_ne (ne b _ r fun _ _ z => nomatch z)).trans r)
  · obtain ⟨n, r⟩ := hd_some r
    exact (hd_not n).trans ((upd_ne (ne b _ r fun _ _ z => nomatch z)).trans r)
theorem fix_lock {h : Addr → Prop} {H : Hp} {d : Addr} {od : Obj} {u : HO} (hu : Lk u) (e : H d = some u) : ∀ a u', (∀ ob x, u' ≠ .frz ob x) → (∀ xs, u' ≠ .dK xs) → (∀ xs, u' ≠ .dT xs) → hd h H a = some u' → hd h (upd H d (.frz od u)) a = some u' := fun a u' _ n1 n2 q => by
  obtain ⟨n, q⟩ := hd_some q
  refine (hd_not n).trans ((upd_ne fun z => ?_).trans q)
  rw [z, e] at q
  cases q
  rcases hu with ⟨k, rfl⟩ | ⟨k, rfl⟩
  · exact n1 _ rfl
  · exact n2 _ rfl
theorem fix_unlock {h : Addr → Prop} {H : Hp} {d : Addr} {od : Obj} {u : HO} (e : H d = some (.frz od u)) : ∀ a u', (∀ ob x, u' ≠ .frz ob x) → (∀ xs, u' ≠ .dK xs) → (∀ xs, u' ≠ .dT xs) → hd h H a = some u' → hd h (upd H d u) a = some u' := fun a u' n0 _ _ q => by
  obtain ⟨n, q⟩ := hd_some q
  refine (hd_not n).trans ((upd_ne fun z => ?_).trans q)
  rw [z, e] at q
  cases q
  exact n0 _ _ rfl
theorem upd_none {H : Hp} {d b : Addr} {o : HO} (e : H d ≠ none) : upd H d o b = none ↔ H b = none := by
  by_cases hb : b = d
  · subst hb; rw [upd_same]; exact ⟨fun z => (nomatch z), fun z => absurd z e⟩
  · rw [upd_ne hb]
theorem EnvO.lock {fo : Addr → Prop} {at_ : Nat → Option Addr} {B : Hp} {σ : L2.St} {H : Hp} {ρ : List Sl} (E : EnvO Y fo at_ B σ H ρ) {d : Addr} {od : Obj} {u : HO} (hu : Lk u) (e : H d = some u) (nh : ¬ hid fo at_ d) :
    EnvO Y fo at_ (hd (fun a => ∃ i, at_ i = some a) (upd H d (.frz od u))) σ (upd H d (.frz od u)) ρ :=
  ⟨hd_le, ⟨fun a m => fun z => E.fin a m ((upd_none (by rw [e]; exact fun z => nomatch z)).mp z), fun a xs m => by rw [upd_ne fun z => nh (.inl (by rw [← z]; exact m))]; exact E.fin.nt a xs m⟩, E.dj, E.df, fun i a h => if_pos ⟨i, h⟩, E.len, fun i a h hl => let ⟨o, eo, n⟩ := E.gt i a h hl; ⟨o, (upd_ne fun z => nh (.inr ⟨i, by rw [← z]; exact h⟩)).trans eo, n⟩,
    fun i s es => (E.sl i s es).rle (rle_lock hu e) (fix_lock hu e) (fun a v ha hv => (upd_ne fun z => nh (.inr ⟨i, by rw [← z]; exact ha⟩)).trans hv) (fun _ z => z) fun a v ⟨m, ha⟩ hv => (upd_ne fun z => nh (.inr ⟨_, by rw [← z]; exact ha⟩)).trans hv⟩
theorem EnvO.unlock {fo : Addr → Prop} {at_ at2 : Nat → Option Addr} {B B' : Hp} {σ σ2 : L2.St} {H H2 : Hp} {ρ ρ2 : List Sl} (E : EnvO Y fo at_ B σ H ρ) {d : Addr} {od : Obj} {u : HO} (hu : Lk u) (e : H d = some u) (nh : ¬ hid fo at_ d)
    (E2 : EnvO Y fo at2 (hd (fun a => ∃ i, at_ i = some a) (upd H d (.frz od u))) σ2 H2 ρ2) : H2 d = some (.frz od u) ∧ EnvO Y fo at2 B σ2 (upd H2 d u) ρ2 := by
  have eB : hd (fun a => ∃ i, at_ i = some a) (upd H d (.frz od u)) d = some (.frz od u) := (hd_not fun m => nh (.inr m)).trans upd_same
  have e2 : H2 d = some (.frz od u) := E2.same _ _ eB
  have n2 : ∀ i, at2 i ≠ some d := fun i z => by have := E2.nw i d z; rw [eB] at this; cases this
  refine ⟨e2, fun b o eb => ?_, ⟨fun a m => fun z => E2.fin a m ((upd_none (by rw [e2]; exact fun z => nomatch z)).mp z), fun a xs m => by rw [upd_ne fun z => nh (.inl (by rw [← z]; exact m))]; exact E2.fin.nt a xs m⟩, E2.dj, E2.df, fun i a h => ?_, E2.len, fun i a h hl => let ⟨o, eo, n⟩ := E2.gt i a h hl; ⟨o, (upd_ne fun z => n2 i (by rw [← z]; exact h)).trans eo, n⟩, fun i s es => (E2.sl i s es).rle (rle_unlock hu e2) (fix_unlock e2) (fun a v ha hv => (upd_ne fun z => n2 i (by rw [← z]; exact ha)).trans hv) (fun _ z => z) fun a v ⟨m, ha⟩ hv => (upd_ne fun z => n2 _ (by rw [← z]; exact ha)).trans hv⟩
  · have eh := E.same b o eb
    by_cases hb : b = d
    · subst hb; rw [upd_same]; rw [e] at eh; exact eh
    · rw [upd_ne hb]
      refine E2.same b o ((hd_not ?_).trans ((upd_ne hb).trans eh))
      rintro ⟨i, m⟩
      rw [E.nw i b m] at eb; cases eb
  · cases hB : B a with
    | none => rfl
    | some o =>
      have h2 := E2.nw i a h
      have nd : a ≠ d := fun z => n2 i (by rw [← z]; exact h)
      have : hd (fun a => ∃ i, at_ i = some a) (upd H d (.frz od u)) a = some o := (hd_not (fun ⟨k, m⟩ => by rw [E.nw k a m] at hB; cases hB)).trans ((upd_ne nd).trans (E.same a o hB))
      rw [this] at h2; cases h2
/-- an expression whose value stands: its reading, its value -/
structure DEx (X : Cx) (Y : Yx) (e : Expr) (td : TE) (val : L2.St → Hp → Option V) (f : EF D) : Prop where
  pe : PE X e td
  run : ∀ σ H v Q, val σ H = some v → Q v H → td σ H Q
  stay : ∀ σ H d od u, Lk u → H d = some u → val σ (upd H d (.frz od u)) = val σ H
  at_ : ∀ fo at_ B σ H ρ d, EnvO Y fo at_ B σ H ρ → f ρ = .ok d → ∃ v, val σ H = some v ∧ At Y (hd (hid fo at_) H) v d
  noex : ∀ ρ c ps, f ρ ≠ .ex c ps
def valV (i : Nat) : L2.St → Hp → Option V := fun σ _ => (σ[i]?).join
theorem dex_var {e : Expr} {i : Nat} (h : PE X e (tVar i)) : DEx X Y e (tVar i) (PL.valV i) (varE i) := by
  refine ⟨h, fun σ H v Q e q => ⟨v, join_some e, q⟩, fun _ _ _ _ _ _ _ => rfl, fun fo at_ B σ H ρ d E ed => ?_, fun ρ c ps z => ?_⟩
  · unfold varE at ed
    cases es : ρ[i]? with
    | none => rw [es] at ed; cases ed
    | some s =>
      rw [es] at ed
      cases s with
      | dat d' =>
        cases ed
        obtain ⟨x, e1, a⟩ := E.dat es
        exact ⟨x, by unfold PL.valV; rw [e1]; rfl, a⟩
      | _ => cases ed
  · unfold varE at z
    split at z <;> cases z
def valF (i : Nat) (m : Str) : L2.St → Hp → Option V := fun σ H => match (σ[i]?).join with
  | some (.ref a) => match H a with
    | some (.ins _ _ fs) => fs.lookup m
    | _ => none
  | _ => none
theorem dex_fld {o : Expr} {m : Str} {i : Nat} {pos : Pos} (hK : X.K = Y.K) (hc : Cls Y.K Y.C) (hn : NoAttr Y.K Y.C m) (h : PE X o (tVar i)) (hb : attributeBase o m X.env (eval o X.env) = eval o X.env) :
    DEx X Y (.Attribute o m pos) (fun σ H Q => ∃ v, valF i m σ H = some v ∧ (∃ a dx fs, σ[i]? = some (some (.ref a)) ∧ H a = some (.ins Y.C dx fs)) ∧ Q v H) (fun σ H => match (σ[i]?).join with
      | some (.ref a) => match H a with
        | some (.ins C _ fs) => if C = Y.C then fs.lookup m else none
        | _ => none
      | _ => none) (fldE m (varE i)) := by
  refine ⟨PE.imp (pe_fld h hb) fun σ H Q ⟨v, ev, ⟨a, dx, fs, e1, e2⟩, q⟩ => ?_, fun σ H v Q e q => ?_, fun σ H d od u hu ed => ?_, fun fo at_ B σ H ρ d E ed => ?_, fun ρ c ps z => ?_⟩
  · refine ⟨_, e1, a, Y.C, dx, fs, v, rfl, e2, by rw [hK]; exact hc, by rw [hK]; exact hn, ?_, q⟩
    unfold valF at ev
    rw [e1] at ev
    simp only [Option.join_some, e2] at ev
    exact ev
  · cases es : (σ[i]?).join with
    | none => rw [es] at e; cases e
    | some w =>
      rw [es] at e
      cases w with
      | ref a =>
        dsimp only at e
        cases eh : H a with
        | none => rw [eh] at e; cases e
        | some ho =>
          rw [eh] at e
          cases ho with
          | ins C dx fs =>
            dsimp only at e
            by_cases hC : C = Y.C
            · rw [if_pos hC] at e
              subst hC
              exact ⟨v, by unfold valF; rw [es]; simp only [eh]; exact e, ⟨a, dx, fs, join_some es, eh⟩, q⟩
            · rw [if_neg hC] at e; cases e
          | _ => cases e
      | _ => cases e
  · cases es : (σ[i]?).join with
    | none => rfl
    | some w =>
      cases w with
      | ref a =>
        by_cases ha : a = d
        · subst ha
          simp only [upd_same, ed]
          rcases hu with ⟨k, rfl⟩ | ⟨k, rfl⟩ <;> rfl
        · simp only [upd_ne ha]
      | _ => rfl
  · unfold fldE at ed
    cases ev : varE i ρ with
    | bad => rw [ev] at ed; cases ed
    | ex c ps => rw [ev] at ed; cases ed
    | ok d' =>
      rw [ev, bind_ok] at ed
      cases d' with
      | ob fs =>
        have ed2 : ofO (fs.lookup m) = .ok d := ed
        cases el : fs.lookup m with
        | none => rw [el] at ed2; cases ed2
        | some d2 =>
          rw [el] at ed2; cases ed2
          unfold varE at ev
          cases es : ρ[i]? with
          | none => rw [es] at ev; cases ev
          | some s =>
            rw [es] at ev
            cases s with
            | dat d'' =>
              cases ev
              obtain ⟨x, e1, a, dx, xs, rfl, g, af⟩ := E.dat es
              obtain ⟨v, e2, av⟩ := af.look.1 d el
              exact ⟨v, by rw [e1]; simp only [Option.join_some, (hd_some g).2, if_pos]; exact e2, av⟩
            | _ => cases ev
      | _ => cases ed
  · unfold fldE at z
    cases ev : varE i ρ with
    | bad => rw [ev] at z; cases z
    | ex c ps => unfold varE at ev; split at ev <;> cases ev
    | ok d' =>
      rw [ev, bind_ok] at z
      cases d' with
      | ob fs =>
        have z2 : ofO (fs.lookup m) = .ex c ps := z
        cases el : fs.lookup m with
        | none => rw [el] at z2; cases z2
        | some d2 => rw [el] at z2; cases z2
      | _ => cases z
/-! ### the keys -/
def keyL : D → Option (List D)
  | .dK kvs => some (keysV kvs)
  | _ => none
@[simp] def keysE (f : EF D) : EF (List D) := fun ρ => (f ρ).bind fun d => ofO (keyL d)
theorem at_kV {G : Hp} : ∀ (ks : List Key), AtL Y G (ks.map kV) (ks.map kD)
  | [] => rfl
  | k :: ks => ⟨kV k, _, rfl, by cases k <;> rfl, at_kV ks⟩
theorem AtK.getK {G : Hp} {vs : List (Key × V)} {ds : List (Key × D)} (a : AtK Y G vs ds) {i : Nat} {k : Key} {v : V} (e : vs[i]? = some (k, v)) : (keysV ds)[i]? = some (kD k) := by
  obtain ⟨d, e2, ad⟩ := a.keys.getV (i := i) (v := kV k) (by rw [List.getElem?_map, e]; rfl)
  rw [e2]
  have : keysV ds = vs.map fun kv => kD kv.1 := by
    clear e e2 ad
    induction ds generalizing vs with
    | nil => cases (show vs = [] from a); rfl
    | cons p r ih =>
      obtain ⟨k', d'⟩ := p
      obtain ⟨v', q, rfl, _, t⟩ := a
      show kD k' :: keysV r = kD k' :: _
      rw [ih t]
  rw [this, List.getElem?_map, e] at e2
  exact e2.symm
theorem items_keys {h : Addr → Prop} {H : Hp} {d : Addr} {o : Obj} {vs : List (Key × V)} {ds : List (Key × D)} (e : hd h H d = some (.frz o (.dK vs))) (a : AtK Y (hd h H) vs ds) : Items Y (hd h H) (Itk d o vs) (keysV ds) := by
  refine ⟨_, _, (show (keysV ds).length = vs.length by unfold keysV; rw [List.length_map, a.length]) ▸ walk_keys, fun H1 s => s _ _ e, fun i H1 x H2 h2 hi s _ y => ?_⟩
  obtain ⟨rfl, k, v, e1, rfl⟩ := y
  exact ⟨Same.refl _, kD k, a.getK e1, by cases k <;> rfl⟩
theorem keysE_ok {f : EF D} {ρ : List Sl} {α : Type} {σ : L2.St} {H : Hp} {K : List D → Hp → Prop} (noex : ∀ ρ c ps, f ρ ≠ .ex c ps) (k : Post Y W σ H (keysE f ρ) K) : ∃ kvs, f ρ = .ok (.dK kvs) ∧ Post Y W σ H (.ok (keysV kvs)) K := by
  unfold keysE at k
  cases e : f ρ with
  | bad => rw [e] at k; exact k.elim
  | ex c ps => exact absurd e (noex ρ c ps)
  | ok d =>
    rw [e, bind_ok] at k
    cases d with
    | dK kvs => exact ⟨kvs, rfl, k⟩
    | _ => exact k.elim
theorem keys_rd {iter : Expr} {td : TE} {val : L2.St → Hp → Option V} {f : EF D} (De : DEx X Y iter td val f) {σ : L2.St} {H : Hp} {q : Addr} {o : Obj} {ws : List (Key × V)} (ev : val σ H = some (.ref q)) (eq : H q = some (.frz o (.dK ws))) {Rr : It → Hp → Prop} (h : tI Y W (keysE f) σ H Rr) : iKeys td σ H Rr := by
  obtain ⟨fo, at_, B, ρ, E, k⟩ := h
  obtain ⟨kvs, ef, k⟩ := keysE_ok (α := D) De.noex k
  obtain ⟨v2, e2, a⟩ := De.at_ fo at_ B σ H ρ _ E ef
  rw [ev] at e2
  cases e2
  obtain ⟨q', xs, eq', rd, ak⟩ := a
  cases eq'
  rcases rd with rd | ⟨o', rd⟩
  · rw [(hd_some rd).2] at eq; cases eq
  · have e3 := (hd_some rd).2
    rw [eq] at e3
    cases e3
    exact De.run σ H _ _ ev ⟨q, o, rfl, .inl ⟨ws, eq, k H (Same.refl H) _ (items_keys rd ak)⟩⟩
theorem noEx_ex {α : Type} {m : R α} {c : Nat} {ps : D} : noEx m ≠ .ex c ps := by
  cases m <;> exact fun z => nomatch z
theorem lcGo_noex {vs : List Nat} {b : BF} {tt : EF Bool} {f : EF D} {ρ : List Sl} : ∀ {ds : List D} {c : Nat} {ps : D}, lcGo (lcSt vs b tt f ρ) ds = .ex c ps → False
  | [], _, _, e => by cases e
  | d :: ds, c, ps, e => by
    unfold lcGo at e
    cases es : lcSt vs b tt f ρ d with
    | ex c2 ps2 =>
      unfold lcSt at es
      split at es
      · cases es
      · exact noEx_ex es
    | bad => rw [es] at e; cases e
    | ok o =>
      rw [es] at e
      cases er : lcGo (lcSt vs b tt f ρ) ds with
      | ex c2 ps2 => exact lcGo_noex er
      | bad => rw [er] at e; cases e
      | ok l => rw [er] at e; cases e
theorem po_lcK {elt tg iter : Expr} {ifs : List Expr} {scope : Scope} {own : List (Str × Nat)} {pos : Pos} {g : TG} {bs : List Nat} {td : TE} {val : L2.St → Hp → Option V} {fd : EF D} {b : BF} {tt : EF Bool} {f : EF D} (hc : X.calm = true) (hN : X.N.Nodup) (De : DEx X Y iter td val fd) (ok : BlkOk X.N X.env.scope scope own)
    (hg : ∀ (s : Shared) (H : Hp) (C : Addr) (cl : List (Str × Addr)) (fp : List Addr), PG (X.blk s H scope (compEnvC scope cl C X.env) fp) tg g) (tg_ : TgR Y g bs b) (sub : ∀ i ∈ bs, i ∈ own.map (·.2))
    (ht : ∀ (s : Shared) (H : Hp) (C : Addr) (cl : List (Str × Addr)) (fp : List Addr), PTs (X.blk s H scope (compEnvC scope cl C X.env) fp) ifs (tT Y W0 tt))
    (he : ∀ (s : Shared) (H : Hp) (C : Addr) (cl : List (Str × Addr)) (fp : List Addr), PE (X.blk s H scope (compEnvC scope cl C X.env) fp) elt (tE Y W0 f)) (hs : ∀ x, foldedSetIterable iter X.env x = pure x := by intro _; rfl) :
    PE X (.ListComp elt [⟨tg, iter, ifs, 0⟩] scope pos) (tO Y W (lcF (own.map (·.2)) (keysE fd) b tt f)) := by
  have L := pe_lc hc hN (pi_keys De.pe) ok hg ht he hs (pos := pos)
  refine PE.imp (PE.or (pe_lock L) L) fun σ H Q h => ?_
  obtain ⟨fo, at_, B, ρ, E, h⟩ := h
  have h0 := h
  unfold lcF at h
  obtain ⟨kvs, ef, _⟩ := keysE_ok (α := D) De.noex (Post.bind h)
  obtain ⟨v, ev, a⟩ := De.at_ fo at_ B σ H ρ _ E ef
  obtain ⟨q, ws, rfl, rd, ak⟩ := a
  rcases rd with rd | ⟨o, rd⟩
  · obtain ⟨nh, eq⟩ := hd_some rd
    have lkd : Lk (.dK ws) := .inl ⟨ws, rfl⟩
    refine .inl ⟨q, .dK ws, eq, lkd.mut, fun od => lc_rd (Y := Y) (W := W) (l := keysE fd) (fun Rr k => keys_rd De (by rw [De.stay σ H q od _ lkd eq]; exact ev) upd_same k) tg_ sub (fun _ _ _ q => q) (fun _ _ _ q => q) ⟨fo, at_, _, ρ, E.lock lkd eq nh, ?_⟩⟩
    cases em : lcF (own.map (·.2)) (keysE fd) b tt f ρ with
    | bad => rw [em] at h0; exact h0.elim
    | ex c ps =>
      exfalso
      unfold lcF keysE at em
      rw [ef, bind_ok] at em
      have em2 : (if okW ρ (own.map (·.2)) = true ∧ (keysV kvs).length ≤ cap then (lcGo (lcSt (own.map (·.2)) b tt f ρ) (keysV kvs)).bind fun xs => .ok (Sl.ol xs) else .bad) = .ex c ps := em
      split at em2
      · cases er : lcGo (lcSt (own.map (·.2)) b tt f ρ) (keysV kvs) with
        | bad => rw [er] at em2; cases em2
        | ok xs => rw [er] at em2; cases em2
        | ex c2 ps2 => exact lcGo_noex er
      · cases em2
    | ok s =>
      rw [em] at h0
      intro H2 s2 v oa new r hn
      have e2 : H2 q = some (.frz od (.dK ws)) := s2 _ _ upd_same
      refine ⟨e2, h0 _ (fun b u e => ?_) v oa (fun a e => (upd_none (by rw [eq]; exact fun z => nomatch z)).mp (new a e)) (r.rle (rle_unlock lkd e2) (fix_unlock e2) (fun a u ea e => ?_) (fun _ z => z) fun _ _ z => z.elim) hn⟩
      · by_cases hb : b = q
        · subst hb; rw [upd_same]; rw [eq] at e; exact e
        · rw [upd_ne hb]; exact s2 b u ((upd_ne hb).trans e)
      · refine (upd_ne fun z => ?_).trans e
        have := new a ea
        rw [z, upd_same] at this; cases this
  · exact .inr (lc_rd (Y := Y) (W := W) (l := keysE fd) (fun Rr k => keys_rd De ev (hd_some rd).2 k) tg_ sub (fun _ _ _ q => q) (fun _ _ _ q => q) ⟨fo, at_, B, ρ, E, h0⟩)
end
end PL

/-! P14: multiplied. -/
namespace PL
open PySem PySem.Spec L2
section
variable {X : Cx} {Y : Yx}
def repS (z : Str) (k : Int) : Str := ⟨(List.replicate k.toNat z.cps.toList).flatten.toArray⟩
def rMulS : R2 := fun x y H Q => ∃ z k, x = .str z ∧ y = .int k ∧ 0 ≤ k ∧ k < 2 ^ 62 ∧ z.length * k.toNat ≤ cap ∧ Q (.str (repS z k)) H
theorem fold_app (l : List Nat) : ∀ (n : Nat) (acc : List Nat), (List.replicate n l.toArray).foldl (· ++ ·) acc.toArray = (acc ++ (List.replicate n l).flatten).toArray
  | 0, acc => by simp
  | n + 1, acc => by
    have h := fold_app l n (acc ++ l)
    rw [List.replicate_succ, List.foldl_cons, List.replicate_succ, List.flatten_cons, ← List.append_assoc, ← h]
    simp
theorem repS_eq (z : Str) (k : Int) : (⟨(List.replicate k.toNat z.cps).foldl (· ++ ·) #[]⟩ : Str) = repS z k := by
  have h := fold_app z.cps.toList k.toNat []
  simp only [List.nil_append] at h
  unfold repS
  rw [← h]
theorem repS_0 (z : Str) {k : Int} (h : k < 1) : Str.empty = repS z k := by
  have : k.toNat = 0 := by omega
  unfold repS
  rw [this]; rfl
theorem repS_1 (z : Str) {k : Int} (h : k = 1) : z = repS z k := by
  unfold repS
  rw [h]
  simp
theorem repS_e (z : Str) (k : Int) (h : z.length = 0) : z = repS z k := by
  have e : z.cps = #[] := Array.eq_empty_of_size_eq_zero h
  unfold repS
  rw [e]
  simp
  cases z
  simp at e
  rw [e]
theorem repS_length (z : Str) (k : Int) : (repS z k).length = z.length * k.toNat := by
  show (List.replicate k.toNat z.cps.toList).flatten.toArray.size = z.cps.size * k.toNat
  rw [List.size_toArray, List.length_flatten]
  simp [Nat.mul_comm]
theorem op_mulS : OpR X (binaryOp .Mult) rMulS := by
  intro pins s σ H x y v u Q I rx ry h
  obtain ⟨z, k, rfl, rfl, h0, h1, h2, q⟩ := h
  obtain ⟨t, rfl⟩ := rx
  obtain ⟨t', rfl⟩ := ry
  have hk : k.toNat = k := Int.toNat_of_nonneg h0
  have h2' : (z.length : Int) * k ≤ 16777216 := by
    have : ((z.length * k.toNat : Nat) : Int) ≤ 16777216 := by unfold cap at h2; omega
    rw [Int.natCast_mul, hk] at this
    exact this
  refine PySem.P.mul_str (by rw [decide_eq_false (by omega), decide_eq_false (by omega)]; rfl) (fun n1 _ => ?_) (fun n1 _ => ?_) ?_
  · have hp : 0 < k := by omega
    rw [Int.not_lt]
    refine (Int.le_ediv_iff_mul_le hp).mpr ?_
    omega
  · refine decide_eq_false (show ¬ (_ > sizeLine) from ?_)
    rw [sizeLine_eq]
    unfold cap at h2; omega
  · have fin : ∀ (r : Str) (t : Nat) (k' : Nat), r = repS z k → EP X pins σ Q (.str r t) { s with toks := k' } := fun r t k' e => ⟨.str (repS z k), H, I.tok _, ⟨t, by rw [e]⟩, q⟩
    by_cases hn : k < 1
    · rw [if_pos hn]
      exact ⟨by decide, fin _ _ _ (repS_0 z hn)⟩
    · rw [if_neg hn]
      by_cases ho : (k == 1 || z.length == 0) = true
      · rw [if_pos ho]
        have e : z = repS z k := by
          rcases Bool.or_eq_true_iff.mp ho with e | e
          · exact repS_1 z (beq_iff_eq.mp e)
          · exact repS_e z k (beq_iff_eq.mp e)
        exact fin z t s.toks e
      · rw [if_neg ho, repS_eq]
        refine ⟨?_, fin _ _ _ rfl⟩
        rw [repS_length, sizeLine_eq]
        unfold cap at h2; omega
def mulD2 : D → D → Option D := fun d e => match d, e with
  | .int i, .int j => if CMul i j then some (.int (i * j)) else none
  | .lst x, .int k => if -(2 ^ 63) ≤ k ∧ k < 2 ^ 63 ∧ x.length * k.toNat ≤ cap then some (.lst (List.replicate k.toNat x).flatten) else none
  | .str x, .int k => if 0 ≤ k ∧ k < 2 ^ 62 ∧ x.length * k.toNat ≤ cap then some (.str (repS x k)) else none
  | _, _ => none
def rMulA : R2 := fun x y H Q => rI CMul (fun i j => .int (i * j)) x y H Q ∨ (rRep x y H Q ∨ rMulS x y H Q)
theorem o_mul : OpR X (binaryOp .Mult) rMulA := op_mul.or (op_rep.or op_mulS)
theorem v_mul : VOp Y rMulA mulD2 := fun hh H x y d e c Q al a b z q => by
  match d, e, z, a, b with
  | .int i, .int j, z, a, b =>
    exact .inl (v_opIC (C := CMul) (k := fun i j => i * j) hh H x y _ _ c Q al a b z q)
  | .lst xs, .int k, z, a, b =>
    have z2 : (if -(2 ^ 63) ≤ k ∧ k < 2 ^ 63 ∧ xs.length * k.toNat ≤ cap then some (D.lst (List.replicate k.toNat xs).flatten) else none) = some c := z
    split at z2
    · rename_i hz
      cases z2
      obtain ⟨r, vs, rfl, g, sq, ln, zz, av⟩ := at_seqL a
      cases (show y = _ from b)
      refine .inr (.inl ⟨r, k, vs, rfl, rfl, g, hz.1, hz.2.1, by rw [ln, ← cap_eq]; exact hz.2.2, fun n hn => q _ _ (same_new hn) (at_newL al hn ?_ (av.rep _))⟩)
      rw [List.length_flatten]
      simp [Nat.mul_comm]
      rw [Nat.mul_comm]; exact hz.2.2
    · cases z2
  | .str s, .int k, z, a, b =>
    have z2 : (if 0 ≤ k ∧ k < 2 ^ 62 ∧ s.length * k.toNat ≤ cap then some (D.str (repS s k)) else none) = some c := z
    split at z2
    · rename_i hz
      cases z2
      cases (show x = _ from a)
      cases (show y = _ from b)
      exact .inr (.inr ⟨s, k, rfl, rfl, hz.1, hz.2.1, hz.2.2, q _ H (Same.refl H) rfl⟩)
    · cases z2
end
end PL

/-! P15: what the printed derivations lean on; the law's own call. -/
namespace PL
open PySem PySem.Spec L2
theorem u65 {k : Nat} {A : Around} (r : Room k A) : A.units + 65 < cLine := by have := r.un; omega
theorem u64 {k : Nat} {A : Around} (r : Room k A) : A.units + 64 < cLine := by have := r.un; omega
theorem u1 {k : Nat} {A : Around} (r : Room k A) : A.units + 1 < cLine := by have := r.un; omega
theorem nilL_len : ∀ ρ ds, nilL ρ = .ok ds → ds.length = 0 := fun ρ ds e => by cases e; rfl
theorem consL_len {f : EF D} {r : EF (List D)} {n : Nat} (h : ∀ ρ ds, r ρ = .ok ds → ds.length = n) : ∀ ρ ds, consL f r ρ = .ok ds → ds.length = n + 1 := fun ρ ds e => by
  unfold consL at e
  cases ef : f ρ with
  | bad => rw [ef] at e; cases e
  | ex c ps => rw [ef] at e; cases e
  | ok d =>
    rw [ef, bind_ok] at e
    cases er : r ρ with
    | bad => rw [er] at e; cases e
    | ex c ps => rw [er] at e; cases e
    | ok es => rw [er, bind_ok] at e; cases e; rw [List.length_cons, h ρ es er]
section
variable {X : Cx} {Y : Yx} {W : WX} {e tg : Expr} {f : EF D} {pos : Pos} {F : SF} {st : Stmt}
@[simp] def fzF (i : Nat) (F : SF) : SF := fun ρ => F (PL.frz i ρ)
theorem sx_frzI {i : Nat} (h : PS X st (tS Y W F)) : PS X st (tS Y W (fzF i F)) := sx_frz h
theorem fzE_rd {f : EF Sl} {σ : L2.St} {H : Hp} {Q : VK} (h : tE Y W (fzE f) σ H Q) : tO Y W f σ H Q := by
  obtain ⟨fo, at_, B, ρ, E, h⟩ := h
  exact ⟨fo, at_, B, ρ, E, (Post.bind h).mono fun s H1 s1 h1 v oa new r hn => (h1 : Post Y W σ H1 (.ok (fz s)) _).now v (r.fz hn (hd_sub fun a m => .inl m) (fun a u e hu => (hd_not fun m => E.al a m (new a e)).trans hu) fun _ _ z => z.elim)⟩
theorem sx_setLcD {i : Nat} {y : Str} {py : Pos} {elt tg iter : Expr} {ifs : List Expr} {scope : Scope} {own : List (Str × Nat)} {pos spos : Pos} {g : TG} {bs : List Nat} {l : EF (List D)} {b : BF} {tt : EF Bool} {f : EF D} (hc : X.calm = true) (hN : X.N.Nodup) (hy : X.N[i]? = some y) (hyl : X.env.scope.names.lookup y = some .local)
    (hsw : swapsWith (.ListComp elt [⟨tg, iter, ifs, 0⟩] scope pos) (some (.Name y py)) spos.line X.env = pure true) (hi : PI X tg iter (tI Y W l)) (ok : BlkOk X.N X.env.scope scope own)
    (hg : ∀ (s : Shared) (H : Hp) (C : Addr) (cl : List (Str × Addr)) (fp : List Addr), PG (X.blk s H scope (compEnvC scope cl C X.env) fp) tg g) (tg_ : TgR Y g bs b) (sub : ∀ i ∈ bs, i ∈ own.map (·.2))
    (ht : ∀ (s : Shared) (H : Hp) (C : Addr) (cl : List (Str × Addr)) (fp : List Addr), PTs (X.blk s H scope (compEnvC scope cl C X.env) fp) ifs (tT Y W0 tt))
    (he : ∀ (s : Shared) (H : Hp) (C : Addr) (cl : List (Str × Addr)) (fp : List Addr), PE (X.blk s H scope (compEnvC scope cl C X.env) fp) elt (tE Y W0 f)) (hs : ∀ x, foldedSetIterable iter X.env x = pure x := by intro _; rfl) :
    PS X (.Assign [.Name y py] (.ListComp elt [⟨tg, iter, ifs, 0⟩] scope pos) spos) (tS Y W (stF i (fzE (lcF (own.map (·.2)) l b tt f)))) :=
  sx_setG (ps_setLc hc hN hy hyl hsw hi ok hg ht he hs) fun σ H Q h => lc_rd (fun _ q => q) tg_ sub (fun _ _ _ q => q) (fun _ _ _ q => q) (fzE_rd h)
/-- a target = e -/
@[simp] def asF (f : EF D) (b : BF) : SF := fun ρ => lf (f ρ) ρ fun d => match b d ρ with
  | some ρ' => some (.nx ρ')
  | none => none
theorem sx_asg {g : TG} {bs : List Nat} {b : BF} (he : PE X e (tE Y W f)) (hg : PG X tg g) (ht : TgR Y g bs b) (hs : swapsWithSole [tg] e pos.line X.env = pure false := by rfl) (hw : swappedStores [tg] e X.env = pure none := by rfl)
    (h1 : (assignEach [tg] X.env).map (·.2) = [assign tg X.env] := by rfl) : PS X (.Assign [tg] e pos) (tS Y W (asF f b)) := PS.imp (ps_asg he hg hs hw h1) fun Dn σ H ⟨fo, at_, B, ρ, E, h⟩ =>
  ⟨fo, at_, B, ρ, E, (lf_post E h).mono fun d H1 s1 ⟨E1, h1⟩ v a => by
    cases eb : b d ρ with
    | none => rw [eb] at h1; exact h1.elim
    | some ρ' => rw [eb] at h1; exact ht fo at_ B σ H1 ρ v d ρ' _ E1 a eb fun σ2 E2 _ _ => h1 _ σ2 H1 E2⟩
/-- an exception class of the program -/
structure ExcF (Y : Yx) (mg : Str → Option Value) (c : Nat) (x : Str) : Prop where
  g : mg x = some (.ref (Y.cx c))
  q : PySem.W.excIn Y.K (Y.cx c) [.type "ValueError", .type "Exception", .type "BaseException", .type "object"] "ValueError.__new__" = true
  kp : PySem.W.keepIn Y.K (.ref (Y.cx c)) = true
  sb : PySem.W.subIn Y.K (.ref (Y.cx c)) (.type "BaseException") = some true
  ty : PySem.W.typeIn Y.K (.ref (Y.cx c)) = some (.type "type")
theorem sx_raiseE {c : Nat} {x m : Str} {j : Nat} {p p2 cpos : Pos} (hK : X.K = Y.K) (hc : X.calm = true) (tk : Takes X W) (ex : ExcF Y X.mg c x) (hg : Gl X x) (hdb : (x == ("__debug__" : Str)) = false := by decide) :
    PS X (.Raise (some (.Call (.Name x p) [.Constant (.str m) j p2] [] cpos)) none pos) (tS Y W (raF c)) := by
  have q := ex.q; have kp := ex.kp; have sb := ex.sb; have ty := ex.ty
  rw [← hK] at q kp sb ty
  exact sx_raise hc tk (pmk_own PySem.F.excBase_ValueError q ex.g kp (raises_own sb ty) hg hdb)
end
open PyProof.Rows
/-! ### the law's own call -/
section
variable {Y : Yx} {P : Program} {w : World} {mg mb : Str → Option Value} {k : Nat} {fa a : Addr} {fd : FuncData} {x : Str} {M : Mi}
theorem callerG : callerA.guards = some [] := rfl
theorem law_callG {s : Shared} {vs : List Value} {ns : List Int} (inK : Y.K.In s.heap) (hns : s.heap.Ns mainGlobals mg) (hbl : s.heap.Ns builtinsNs mb) (hbb : ∀ z : Str, z ≠ "__name__" → mb z = bootBuiltins z) (nolim : s.heap.NoLimit) (hgen : s.gens = #[])
    (ho : s.heap.get? a = some { cls := .type "list", data := .seq vs.toArray }) (hi : IntsAre vs ns) (hl : ns.length ≤ cap) (room : Room k callerA)
    (F : ∀ base : Heap, Y.K.In base → base.Ns mainGlobals mg → FnG Y P w mg base k fa fd [x] (spM Y 1 M)) (hb : ∀ (t : Shared) (u : Value), BindsTo t fd ⟨[u], []⟩ [(x, u)]) (hM : M [.scr ns] = .ok (.dat (.bl true))) :
    codeAny (model P w) callerA (.call (.ref fa) ⟨[.ref a], []⟩) (fun r t => r = .ok (.ret (.bool true)) ∧ OldK s.heap t.heap ∧ t.os = s.os ∧ AllBare t.gens) s := by
  have rel := vals_ints hi
  have hsz : (ns.map V.int).length ≤ sizeLine := by rw [List.length_map, ← cap_eq]; exact hl
  -- H: nothing is followed but the script, or nothing at all
  suffices main : ∀ H : Hp, SqL Y.K H a (ns.map V.int) → HOk P w H s.heap → (∀ b u, H b = some u → b = a ∧ (∃ o xs, u = .frz o (.lst xs)) ∧ Y.K.lookup a = none) →
      codeAny (model P w) callerA (.call (.ref fa) ⟨[.ref a], []⟩) (fun r t => r = .ok (.ret (.bool true)) ∧ OldK s.heap t.heap ∧ t.os = s.os ∧ AllBare t.gens) s by
    cases hk : Y.K.lookup a with
    | some o =>
      have e := inK a o hk
      rw [ho] at e
      cases e
      exact main (fun _ => none) (.inr ⟨_, vs.toArray, _, hk, rfl, rfl, rfl, by rw [List.size_toArray, ← rel.length]; exact hsz, by simpa using rel⟩) (fun b u z => (nomatch z)) fun b u z => (nomatch z)
    | none =>
      refine main (fun b => if b = a then some (.frz { cls := .type "list", data := .seq vs.toArray } (.lst (ns.map V.int))) else none) (.inl (.inr ⟨_, if_pos rfl⟩)) (fun b u z => ?_) fun b u z => ?_
      · by_cases e : b = a
        · have z2 := (if_pos e).symm.trans z
          cases z2
          rw [e]
          exact ⟨ho, hsz, vs, _, rel, ho⟩
        · cases (if_neg e).symm.trans z
      · by_cases e : b = a
        · have z2 := (if_pos e).symm.trans z
          cases z2
          exact ⟨e, ⟨_, _, rfl⟩, hk⟩
        · cases (if_neg e).symm.trans z
  intro H hS hok hH
  have noDict : ∀ {b : Addr} {o : Obj} {es : Array DictEntry} {n : Nat}, s.heap.get? b = some o → o.data = .dict es n → H b = none := fun {b o es n} e d => by
    cases z : H b with
    | none => rfl
    | some u =>
      have eb := (hH b u z).1
      rw [eb, ho] at e
      cases e
      cases (show Data.seq vs.toArray _ = Data.dict es n from d)
  have up : ∀ {b : Addr} {m : Str → Option Value}, s.heap.Ns b m → (hidT s.heap H).Ns b m := fun {b m} ⟨o, es, n, e, d, r⟩ => ⟨o, es, n, hidT_get e (noDict e d), d, r⟩
  have kIn : Y.K.In (hidT s.heap H) := fun b o e => hidT_get (inK b o e) (by
    cases z : H b with
    | none => rfl
    | some u => obtain ⟨eb, _, hn⟩ := hH b u z; rw [eb, hn] at e; cases e)
  have md : Mod Y.K mg (hidT s.heap H) := ⟨kIn, up hns, ⟨mb, up hbl, hbb⟩, let ⟨mc, h1, h2⟩ := nolim; ⟨mc, up h1, h2⟩⟩
  have none0 : ∀ b : Addr, b ∉ frs [] := fun b z => (nomatch z)
  have e0 : Env0 P w Y.K mg (hidT s.heap H) callerA [] s H := ⟨rfl, md, fun b o e => of_hidT e, Nat.le_of_eq (hidT_size _ _), trivial, fun b z => absurd z (none0 b), hok, .of_eq hgen⟩
  have arg : spM Y 1 M [.ref a] H (fun v _ => v = .bl true) fun _ _ _ => False := by
    refine ⟨fun _ => False, [.scr ns], rfl, Al.no, ⟨_, [], rfl, ⟨a, rfl, (RLe.of_same fun b o e => (hd_not fun z => z).trans e).seqL hS⟩, rfl⟩, ?_⟩
    rw [hM]
    rintro v H' oa _ _ ⟨_, y, ey, hy⟩ _
    cases ey
    exact hy
  refine codeAny_mono ((F _ kIn (up hns)).go callerA [] s H ⟨[.ref a], []⟩ [.ref a] [.ref a] _ _ callerG room e0 (hb s (.ref a)) (.cons rfl .nil) arg) fun r t h => ?_
  cases r with
  | error e =>
    obtain ⟨_, _, _, _, _, _, _, _, _, _, _, _, z⟩ := (show L2.CX P w [] H s (fun _ _ _ => False) e t from h)
    exact z.elim
  | ok fl =>
    cases fl with
    | next => exact False.elim h
    | brk => exact False.elim h
    | cont => exact False.elim h
    | ret u =>
      obtain ⟨v, H', os, bare, un, hok', r, ev⟩ := h
      have ev2 : v = .bl true := ev
      subst ev2
      cases (show u = Value.bool true from r)
      refine ⟨rfl, OldK.of_keep fun b o e => ?_, os, bare⟩
      cases z : H b with
      | none => exact un.keep b o e z (none0 b) (fun z => (nomatch z))
      | some q =>
        obtain ⟨_, ⟨o2, xs, eq⟩, _⟩ := hH b q z
        subst eq
        have e1 := (hok b _ z).1
        rw [e] at e1
        cases e1
        exact (hok' b _ (un.frzs b _ _ z)).1
end
theorem walk_G {l : PySem.W.OpenLaw} {n k : Nat} {q : Program} {loose : List Str} {XP : (Str → Option Value) → Heap → Prop} {YP : World → Heap → Prop} {d : DefRec} {x : Str} (hn : l.most = some n) (hn2 : n ≤ cap) (hdf : d.params.defaults = []) (hr : Room k callerA)
    (F : ∀ (w : World) (mg : Str → Option Value) (fa : Addr) (h : Heap), YP w h → h.Ns mainGlobals mg → mg d.name = some (.ref fa) →
      ∃ (Y : Yx) (fd : FuncData) (M : Mi), Y.K.In h ∧ (∀ (s : Shared) (u : Value), BindsTo s fd ⟨[u], []⟩ [(x, u)]) ∧ (∀ ns : List Int, ns.length ≤ n → M [.scr ns] = .ok (.dat (.bl true))) ∧
        ∀ base : Heap, Y.K.In base → base.Ns mainGlobals mg → FnG Y l.prog w mg base k fa fd [x] (spM Y 1 M)) :
    PySem.W.WalkO q loose XP YP l.row.toRowW d [] (fun f vs => PySem.call f vs) := by
  refine Att.attach_call hn hdf fun w s₀ s₁ mg mb fa o pm cd doc a vs ns G Yh ho hd hcd hmg hobj hints hlen hg => ?_
  obtain ⟨Y, fd, M, inK, hb, hM, hF⟩ := F w mg fa _ Yh G.T.g hmg
  exact law_callG inK G.T.g G.T.b G.T.builtins G.T.nolimit hg hobj hints (Nat.le_trans hlen hn2) hr hF hb (hM ns hlen)
end PL

/-! P16: what is handed in and changed behind: a list of pairs with lists of their own. -/
namespace PL
open PySem PySem.Spec L2
section
variable {X : Cx} {Y : Yx} {W : WX}
/-- a pair of a text and a new list -/
def Hnd (Y : Yx) (G H0 H : Hp) (L : Addr) (v : V) (d : D) : Prop := ∃ (p r : Addr) (k : Str) (ys : List D) (ws : List V), v = .ref p ∧ d = .tup [.str k, .lst ys] ∧ p ≠ L ∧ r ≠ L ∧ H0 p = none ∧ H0 r = none ∧ H p = some (.tup [.str k, .ref r]) ∧ H r = some (.lst ws) ∧
  ws.length ≤ cap ∧ AtL Y G ws ys
theorem Hnd.mono {G G' H0 H H' : Hp} {L : Addr} {v : V} {d : D} (hG : Same G G') (hH : ∀ b o, b ≠ L → H b = some o → H' b = some o) (h : Hnd Y G H0 H L v d) : Hnd Y G' H0 H' L v d := by
  obtain ⟨p, r, k, ys, ws, h1, h2, h3, h4, h5, h6, h7, h8, h9, h10⟩ := h
  exact ⟨p, r, k, ys, ws, h1, h2, h3, h4, h5, h6, hH p _ h3 h7, hH r _ h4 h8, h9, h10.same hG⟩
def Hnds (Y : Yx) (G H0 H : Hp) (L : Addr) : List V → List D → Prop
  | vs, [] => vs = []
  | vs, d :: ds => ∃ v r, vs = v :: r ∧ Hnd Y G H0 H L v d ∧ Hnds Y G H0 H L r ds
theorem Hnds.mono {G G' H0 H H' : Hp} {L : Addr} (hG : Same G G') (hH : ∀ b o, b ≠ L → H b = some o → H' b = some o) : ∀ {vs : List V} {ds : List D}, Hnds Y G H0 H L vs ds → Hnds Y G' H0 H' L vs ds
  | _, [], h => h
  | _, d :: ds, ⟨v, r, e, h, t⟩ => ⟨v, r, e, h.mono hG hH, Hnds.mono hG hH t⟩
theorem Hnds.snoc {G H0 H : Hp} {L : Addr} {v : V} {d : D} (h : Hnd Y G H0 H L v d) : ∀ {vs : List V} {ds : List D}, Hnds Y G H0 H L vs ds → Hnds Y G H0 H L (vs ++ [v]) (ds ++ [d])
  | _, [], e => by cases (show _ = [] from e); exact ⟨v, [], rfl, h, rfl⟩
  | _, c :: ds, ⟨w, r, e, h1, t⟩ => by subst e; exact ⟨w, _, rfl, h1, Hnds.snoc h t⟩
theorem Hnds.length {G H0 H : Hp} {L : Addr} : ∀ {vs : List V} {ds : List D}, Hnds Y G H0 H L vs ds → vs.length = ds.length
  | _, [], e => by cases (show _ = [] from e); rfl
  | _, c :: ds, ⟨w, r, e, h1, t⟩ => by subst e; simp [Hnds.length t]
theorem Hnds.get {G H0 H : Hp} {L : Addr} : ∀ {vs : List V} {ds : List D} {i : Nat} {v : V}, Hnds Y G H0 H L vs ds → vs[i]? = some v → ∃ d, ds[i]? = some d ∧ Hnd Y G H0 H L v d
  | _, [], i, v, e, h => by cases (show _ = [] from e); cases h
  | _, c :: ds, 0, v, ⟨w, r, e, h1, t⟩, h => by subst e; cases h; exact ⟨c, rfl, h1⟩
  | _, c :: ds, i + 1, v, ⟨w, r, e, h1, t⟩, h => by subst e; exact Hnds.get (ds := ds) (i := i) t h
theorem Hnds.at_ {h : Addr → Prop} {H0 H : Hp} {L : Addr} (al : Al h H0) : ∀ {vs : List V} {ds : List D}, Hnds Y (hd h H) H0 H L vs ds → AtL Y (hd h H) vs ds
  | _, [], e => e
  | _, c :: ds, ⟨w, r, e, ⟨p, q, k, ys, ws, h1, h2, h3, h4, h5, h6, h7, h8, h9, h10⟩, t⟩ => by
    subst e h1 h2
    exact ⟨.ref p, r, rfl, ⟨p, _, rfl, (hd_not fun m => al p m h5).trans h7, by show 2 ≤ cap; unfold cap; omega, .two rfl ⟨q, ws, rfl, (hd_not fun m => al q m h6).trans h8, h9, h10⟩⟩, Hnds.at_ al t⟩
def isPair : D → Bool
  | .tup [.str _, .lst _] => true
  | _ => false
theorem isPair_eq {d : D} (h : isPair d = true) : ∃ k ys, d = .tup [.str k, .lst ys] := by
  unfold isPair at h
  split at h
  · exact ⟨_, _, rfl⟩
  · cases h
/-- the reading of (a, list(b)) -/
def tPairL (K : PySem.W.Frag) (a b : Nat) : TE := tTup (tCons (tVar a) (tCons (tCB (rListA K) (tCons (tVar b) tNil)) tNil))
/-- what is new is hidden -/
theorem EnvO.hide {fo : Addr → Prop} {at_ : Nat → Option Addr} {B : Hp} {σ : L2.St} {H H' : Hp} {ρ : List Sl} (E : EnvO Y fo at_ B σ H ρ) (S : Addr → Prop) (hS : ∀ a, S a → H a = none) (s : Same H H') (al : ∀ a, S a → ∃ xs, H' a = some (.lst xs)) : EnvO Y (fun a => fo a ∨ S a) at_ B σ H' ρ := by
  have E4 := E.ext s
  refine ⟨E4.same, ⟨fun c m => m.elim (fun m => E4.fin c m) fun m => (by obtain ⟨_, e⟩ := al c m; rw [e]; exact (fun z => nomatch z)), fun c xs m => m.elim (fun m => E4.fin.nt c xs m) fun m => (by obtain ⟨_, e⟩ := al c m; rw [e]; exact (fun z => nomatch z))⟩, E4.dj, fun i c h m => m.elim (fun m => E4.df i c h m) fun m => E.al c (.inr ⟨i, h⟩) (hS c m), E4.nw, E4.len, E4.gt, fun j q e => ?_⟩
  refine (E.sl j q e).mono (fun c o e => ?_) (fun c u _ z => s c u z) (fun _ z => z) fun c u _ z => s c u z
  obtain ⟨n, e⟩ := hd_some e
  refine (hd_not ?_).trans (s c o e)
  rintro ((m | m) | m)
  · exact n (.inl m)
  · rw [hS c m] at e; cases e
  · exact n (.inr m)
theorem EnvO.show_ {fo : Addr → Prop} {at_ : Nat → Option Addr} {B : Hp} {σ : L2.St} {H : Hp} {ρ : List Sl} {S : Addr → Prop} (E : EnvO Y (fun a => fo a ∨ S a) at_ B σ H ρ) : EnvO Y fo at_ B σ H ρ :=
  ⟨E.same, E.fin.sub fun c m => .inl m, E.dj, fun i c h m => E.df i c h (.inl m), E.nw, E.len, E.gt, fun j q e => (E.sl j q e).mono (hd_sub fun b m => m.elim (fun m => .inl (.inl m)) .inr) (fun _ _ _ z => z) (fun _ z => z) fun _ _ _ z => z⟩
theorem hid_or {fo S : Addr → Prop} {at_ : Nat → Option Addr} : hid (fun a => fo a ∨ S a) at_ = fun a => hid fo at_ a ∨ S a := by
  funext a
  apply propext
  constructor
  · rintro ((m | m) | m)
    · exact .inl (.inl m)
    · exact .inr m
    · exact .inl (.inr m)
  · rintro ((m | m) | m)
    · exact .inl (.inl m)
    · exact .inr m
    · exact .inl (.inr m)
theorem handed_rd {fo : Addr → Prop} {at_ : Nat → Option Addr} {B : Hp} {σ : L2.St} {H : Hp} {ρ : List Sl} {t a b : Nat} {items : List D} {g : TG} {bs : List Nat} {Q : VK} (E : EnvO Y fo at_ B σ H ρ) (es : srcE (varE t) ρ = .ok items) (hl : items.length < cap) (sh : items.all isPair = true)
    (ok : okW ρ [a, b] = true) (hab : a ≠ b) (ha : a < ρ.length) (hb : b < ρ.length) (ht : TgR Y g bs (bT (bsCons (bN a) (bsCons (bN b) bsNil)))) (sub : ∀ i ∈ bs, i ∈ [a, b])
    (hQ : ∀ H1 L vs, Same H H1 → H L = none → H1 L = some (.lst vs) → vs.length < cap → Hnds Y (hd (hid fo at_) H1) H H1 L vs items → Q (.ref L) H1) :
    tLc (tI Y W (srcE (varE t))) g (tT Y W0 yesT) (tPairL Y.K a b) [a, b] σ H Q := by
  refine ⟨fo, at_, B, ρ, E, ?_⟩
  rw [es]
  intro H1 s1 J it Da nD
  obtain ⟨G, Yd, w, hG, hY⟩ := it
  have E1 := E.ext s1
  have E2 := E1.wiped ok
  have sB : Same (hd (hid fo at_) H1) H1 := hd_le
  have H0D : H Da = none := s1.free nD
  refine lc_it w (fun i H' => ∃ vs, H' Da = some (.lst vs) ∧ Same H1 H' ∧ Hnds Y (hd (fun a => hid fo at_ a ∨ a = Da) H') H H' Da vs (items.take i)) ⟨[], upd_same, same_new nD, rfl⟩ (fun i H' _ ⟨_, _, s, _⟩ => hG H' (sB.trans s)) ?_ ?_
  · rintro i x H' H2 hi ⟨vs, hD, s, hn⟩ y
    have E3 : EnvO Y (fun a => fo a ∨ a = Da) at_ B (wipe σ [a, b]) H' (wipeS ρ [a, b]) := E2.hide _ (fun c m => by rw [m]; exact nD) s fun c m => by rw [m, hD]; exact ⟨_, rfl⟩
    have s3 : Same (hd (hid fo at_) H1) (hd (hid (fun a => fo a ∨ a = Da) at_) H') := fun c o e => by
      obtain ⟨n, e⟩ := hd_some e
      refine (hd_not ?_).trans (s c o e)
      rw [hid_or]
      rintro (m | m)
      · exact n m
      · rw [m, nD] at e; cases e
    obtain ⟨s2, d, ed, ad⟩ := hY i H' x H2 _ hi s3 E3.al y
    obtain ⟨k, ys, rfl⟩ := isPair_eq (List.all_eq_true.mp sh d (List.mem_of_getElem? ed))
    have la : (wipeS ρ [a, b]).length = ρ.length := wipeS_length _
    refine ht _ at_ _ _ H2 _ x _ (((wipeS ρ [a, b]).set a (.dat (.str k))).set b (.dat (.lst ys))) _ (E3.ext s2) ad ?_ fun σ2 E5 l2 u2 => ⟨wipe_eq l2 u2 sub, _, _, _, _, E5, fun H3 s4 => ?_⟩
    · show (bsCons (bN a) (bsCons (bN b) bsNil)) [.str k, .lst ys] (wipeS ρ [a, b]) = _
      simp [bsCons, bN, bsNil, la, ha, hb]
    · show tPairL Y.K a b σ2 H3 _
      obtain ⟨x1, e1, a1⟩ := E5.dat (i := a) (d := .str k) (by rw [List.getElem?_set_ne (Ne.symm hab), List.getElem?_set_self (by rw [la]; exact ha)])
      obtain ⟨x2, e2, q0, ws, rfl, gq, zq, aq⟩ := E5.dat (i := b) (d := .lst ys) (by rw [List.getElem?_set_self (by rw [List.length_set, la]; exact hb)])
      cases (show x1 = _ from a1)
      have gq3 : H3 q0 = some (.lst ws) := s4 _ _ (hd_some gq).2
      have D3 : H3 Da = some (.lst vs) := s4 _ _ (s2 _ _ hD)
      refine ⟨_, e1, _, e2, .inl ⟨q0, ws, rfl, .inl (SqL.of gq3), fun r hr => ⟨by show 2 ≤ sizeLine; rw [sizeLine_eq]; omega, fun p hp => ?_⟩⟩⟩
      have hr2 : Da ≠ r := ne_of_none D3 hr
      have hp2 : Da ≠ p := ne_of_none ((upd_ne hr2).trans D3) hp
      have hpr : p ≠ r := fun z => by rw [z, upd_same] at hp; cases hp
      have hp3 : H3 p = none := by rw [upd_ne hpr] at hp; exact hp
      have s14 : Same H1 H3 := (s.trans s2).trans s4
      have keep : ∀ b o, b ≠ Da → H3 b = some o → upd (upd (upd H3 r (.lst ws)) p (.tup [.str k, .ref r])) Da (.lst (vs ++ [.ref p])) b = some o := fun c o nc e => by
        rw [upd_ne nc, upd_ne (ne_of_none e hp3), upd_ne (ne_of_none e hr)]; exact e
      have s16 : Same H1 (upd (upd (upd H3 r (.lst ws)) p (.tup [.str k, .ref r])) Da (.lst (vs ++ [.ref p]))) := fun c o e => keep c o (ne_of_none e nD) (s14 _ _ e)
      have nh : ∀ H0 : Hp, Same H0 H3 → Same (hd (fun a => hid fo at_ a ∨ a = Da) H0) (hd (fun a => hid fo at_ a ∨ a = Da) (upd (upd (upd H3 r (.lst ws)) p (.tup [.str k, .ref r])) Da (.lst (vs ++ [.ref p])))) := fun H0 s0 c o e => by
        obtain ⟨n1, e⟩ := hd_some e
        exact (hd_not n1).trans (keep c o (fun z => n1 (.inr z)) (s0 _ _ e))
      have ec : clr at_ bs = at_ := by
        funext j
        by_cases hj : j ∈ bs
        · rw [clr_in hj]
          have hv := sub j hj
          have q := List.all_eq_true.mp ok j hv
          cases e : ρ[j]? with
          | none => rw [e] at q; exact absurd q Bool.false_ne_true
          | some s =>
            rw [e] at q
            have r := E.sl j s e
            cases s with
            | no => exact r.symm
            | dat d => exact r.1.symm
            | _ => exact absurd q Bool.false_ne_true
        · rw [clr_out hj]
      refine ⟨vs, ?_, ?_, vs ++ [.ref p], upd_same, s16, ?_⟩
      · rw [upd_ne hp2, upd_ne hr2]; exact D3
      · have := hn.length
        rw [List.length_take] at this
        rw [← cap_eq]; omega
      · have et : items.take (i + 1) = items.take i ++ [.tup [.str k, .lst ys]] := by
          rw [List.take_succ, ed]; rfl
        rw [et]
        rw [ec, hid_or] at aq
        refine Hnds.snoc ⟨p, r, k, ys, ws, rfl, rfl, Ne.symm hp2, Ne.symm hr2, s1.free (s14.free hp3), s1.free (s14.free hr), ?_, ?_, zq, aq.same (nh _ s4)⟩ (hn.mono (nh _ (s2.trans s4)) fun c o n e => keep c o n ((s2.trans s4) _ _ e))
        · rw [upd_ne (Ne.symm hp2), upd_same]
        · rw [upd_ne (Ne.symm hr2), upd_ne (Ne.symm hpr), upd_same]
  · rintro H' ⟨vs, hD, s, hn⟩
    rw [List.take_of_length_le (Nat.le_refl _)] at hn
    exact hQ H' Da vs (s1.trans s) H0D hD (by rw [hn.length]; exact hl) (hn.mono (hd_sub fun b m => .inl m) fun _ _ _ e => e)
mutual
/-- no list lies in it -/
def noL : D → Bool
  | .non => true | .bl _ => true | .int _ => true | .str _ => true
  | .tup xs => noLL xs
  | .dK kvs => noLK kvs
  | .ob fs => noLF fs
  | _ => false
def noLL : List D → Bool
  | [] => true
  | x :: xs => noL x && noLL xs
def noLK : List (Key × D) → Bool
  | [] => true
  | (_, x) :: xs => noL x && noLK xs
def noLF : List (Str × D) → Bool
  | [] => true
  | (_, x) :: xs => noL x && noLF xs
end
mutual
theorem noL_at {G G' : Hp} (hG : ∀ b o, G b = some o → (∀ xs, o ≠ .lst xs) → G' b = some o) : ∀ {v : V} {d : D}, noL d = true → At Y G v d → At Y G' v d
  | v, .non, _, a => a
  | v, .bl b, _, a => a
  | v, .int i, _, a => a
  | v, .str x, _, a => a
  | v, .tup xs, h, ⟨l, vs, e, s, z, q⟩ => ⟨l, vs, e, hG _ _ s (fun _ z => nomatch z), z, noLL_at hG h q⟩
  | v, .dK kvs, h, ⟨l, xs, e, s, q⟩ => ⟨l, xs, e, s.elim (fun s => .inl (hG _ _ s fun _ z => nomatch z)) (fun ⟨o, s⟩ => .inr ⟨o, hG _ _ s fun _ z => nomatch z⟩), noLK_at hG h q⟩
  | v, .ob fs, h, ⟨l, dx, xs, e, s, q⟩ => ⟨l, dx, xs, e, hG _ _ s (fun _ z => nomatch z), noLF_at hG h q⟩
  | v, .lst _, h, _ => by cases h
  | v, .dT _, h, _ => by cases h
  | v, .exc _ _, h, _ => by cases h
  | v, .scr _, h, _ => by cases h
  | v, .dN _, h, _ => by cases h
theorem noLL_at {G G' : Hp} (hG : ∀ b o, G b = some o → (∀ xs, o ≠ .lst xs) → G' b = some o) : ∀ {vs : List V} {ds : List D}, noLL ds = true → AtL Y G vs ds → AtL Y G' vs ds
  | _, [], _, a => a
  | _, d :: ds, h, ⟨v, r, e, q, t⟩ => by
    have h2 : (noL d && noLL ds) = true := h
    rw [Bool.and_eq_true] at h2
    exact ⟨v, r, e, noL_at hG h2.1 q, noLL_at hG h2.2 t⟩
theorem noLK_at {G G' : Hp} (hG : ∀ b o, G b = some o → (∀ xs, o ≠ .lst xs) → G' b = some o) : ∀ {vs : List (Key × V)} {ds : List (Key × D)}, noLK ds = true → AtK Y G vs ds → AtK Y G' vs ds
  | _, [], _, a => a
  | _, (k, d) :: ds, h, ⟨v, r, e, q, t⟩ => by
    have h2 : (noL d && noLK ds) = true := h
    rw [Bool.and_eq_true] at h2
    exact ⟨v, r, e, noL_at hG h2.1 q, noLK_at hG h2.2 t⟩
theorem noLF_at {G G' : Hp} (hG : ∀ b o, G b = some o → (∀ xs, o ≠ .lst xs) → G' b = some o) : ∀ {vs : List (Str × V)} {ds : List (Str × D)}, noLF ds = true → AtF Y G vs ds → AtF Y G' vs ds
  | _, [], _, a => a
  | _, (k, d) :: ds, h, ⟨v, r, e, q, t⟩ => by
    have h2 : (noL d && noLF ds) = true := h
    rw [Bool.and_eq_true] at h2
    exact ⟨v, r, e, noL_at hG h2.1 q, noLF_at hG h2.2 t⟩
end
/-- a hidden list is changed -/
theorem EnvO.mutH {fo : Addr → Prop} {at_ : Nat → Option Addr} {B : Hp} {σ : L2.St} {H : Hp} {ρ : List Sl} (E : EnvO Y fo at_ B σ H ρ) {r : Addr} {xs : List V} (hr : fo r) (hB : B r = none) : EnvO Y fo at_ B σ (upd H r (.lst xs)) ρ := by
  have hh : hid fo at_ r := .inl hr
  refine ⟨fun b u e => ?_, ⟨fun c m => ?_, fun c ys m => ?_⟩, E.dj, E.df, E.nw, E.len, fun j b h hl => let ⟨o, eo, n⟩ := E.gt j b h hl; ⟨o, (upd_ne fun z => E.df j b h (by rw [z]; exact hr)).trans eo, n⟩, fun j q e => ?_⟩
  · rw [upd_ne (fun z => by rw [z, hB] at e; cases e)]; exact E.same b u e
  · by_cases hc : c = r
    · subst hc; rw [upd_same]; exact fun z => nomatch z
    · rw [upd_ne hc]; exact E.fin c m
  · by_cases hc : c = r
    · subst hc; rw [upd_same]; exact fun z => nomatch z
    · rw [upd_ne hc]; exact E.fin.nt c ys m
  · rw [hd_upd hh]
    exact (E.sl j q e).mono (Same.refl _) (fun c u hc z => (upd_ne fun z2 => E.df j c hc (by rw [z2]; exact hr)).trans z) (fun _ z => z) fun c u ⟨m, hc⟩ z => (upd_ne fun z2 => E.df _ c hc (by rw [z2]; exact hr)).trans z
/-- a slot's content is not told any more -/
theorem EnvO.forget {fo : Addr → Prop} {at_ : Nat → Option Addr} {B : Hp} {σ : L2.St} {H : Hp} {ρ : List Sl} (E : EnvO Y fo at_ B σ H ρ) {i : Nat} (hi : i < ρ.length) : EnvO Y fo (seta at_ i none) B σ H (ρ.set i .no) := by
  have q := E.putN (i := i) (v := (σ[i]?).join) hi
  have es : σ.set i ((σ[i]?).join) = σ := by
    apply List.ext_getElem?
    intro j
    by_cases hj : j = i
    · rw [hj, List.getElem?_set_self (by rw [E.len]; exact hi), List.getElem?_eq_getElem (by rw [E.len]; exact hi)]; rfl
    · rw [List.getElem?_set_ne (Ne.symm hj)]
  rw [es] at q
  exact q
/-- handed = [(a, list(b)) for a, b in table]; houses.append(..); each b is cleared; handed.append(..) -/
def handF (t i a b hs : Nat) (l2 l4 : EF (List D)) : SF := fun ρ => match srcE (varE t) ρ with
  | .ok items => if items.length < cap ∧ items.all isPair = true ∧ okW ρ [a, b] = true ∧ a ≠ b ∧ a ≠ i ∧ b ≠ i ∧ hs ≠ i ∧ hs ≠ a ∧ hs ≠ b ∧ i < ρ.length ∧ a < ρ.length ∧ b < ρ.length then
      (match l2 (ρ.set i (.dat (.lst items))), ρ[hs]? with
      | .ok [d], some (.ol xs) => if noL d = true ∧ xs.length < cap then
          (match l4 ((((ρ.set i .no).set hs (.ol (xs ++ [d]))).set a .no).set b .no) with
          | .ok [_] => some (.nx ((((ρ.set i .no).set hs (.ol (xs ++ [d]))).set a .no).set b .no))
          | _ => none) else none
      | _, _ => none) else none
  | _ => none

/-- where the pairs stand -/
def Prs (S : Addr → Prop) (H : Hp) (L : Addr) (vs : List V) : Prop := ∀ v ∈ vs, ∃ (p r : Addr) (k : Str) (ws : List V), v = .ref p ∧ H p = some (.tup [.str k, .ref r]) ∧ r ≠ L ∧ S r ∧ H r = some (.lst ws)
theorem Hnds.prs {G H0 H : Hp} {L : Addr} {S : Addr → Prop} (hS : ∀ r ws, H0 r = none → H r = some (.lst ws) → S r) : ∀ {vs : List V} {ds : List D}, Hnds Y G H0 H L vs ds → Prs S H L vs
  | _, [], e => by cases (show _ = [] from e); exact fun v m => (nomatch m)
  | _, d :: ds, ⟨w, r, e, ⟨p, q, k, ys, ws, h1, h2, h3, h4, h5, h6, h7, h8, h9, h10⟩, t⟩ => by
    subst e
    intro v m
    rcases List.mem_cons.mp m with m | m
    · exact ⟨p, q, k, ws, by rw [m]; exact h1, h7, h4, hS q ws h6 h8, h8⟩
    · exact Hnds.prs hS t v m
theorem hand_rd {fo : Addr → Prop} {at_ : Nat → Option Addr} {B : Hp} {σ : L2.St} {H : Hp} {ρ : List Sl} {t i a b hs : Nat} {l2 l4 : EF (List D)} {g : TG} {bs : List Nat} {Dn : Ends} (E : EnvO Y fo at_ B σ H ρ) (ht : TgR Y g bs (bT (bsCons (bN a) (bsCons (bN b) bsNil)))) (sub : ∀ i ∈ bs, i ∈ [a, b])
    (h : PoS Y W fo B Dn (handF t i a b hs l2 l4 ρ)) :
    tSeq (tAsg (tLc (tI Y W (srcE (varE t))) g (tT Y W0 yesT) (tPairL Y.K a b) [a, b]) (gName i))
      (tSeq (tDrop (tBM Y.K "list" rAppend (tVar hs) (tL Y W l2)))
        (tSeq (tFor (iList Y.K (tVar i)) (gTup Y.K 2 (gCons (gName a) (gCons (gName b) gNil))) (tDrop (tBM0 Y.K "list" rClear (tVar b))))
          (tDrop (tBM Y.K "list" rAppend (tVar i) (tL Y W l4))))) Dn σ H := by
  unfold handF at h
  split at h
  case h_2 => exact h.elim
  rename_i items es
  split at h
  case isFalse => exact h.elim
  rename_i c
  obtain ⟨hl, sh, ok, hab, hai, hbi, hsi, hsa, hsb, hi, ha, hb⟩ := c
  split at h
  case h_2 => exact h.elim
  rename_i d xs e2 eh
  split at h
  case isFalse => exact h.elim
  rename_i c2
  obtain ⟨nl, hx⟩ := c2
  split at h
  case h_2 => exact h.elim
  rename_i d4 e4
  unfold tSeq tAsg
  refine handed_rd E es hl sh ok hab ha hb ht sub fun H1 L vs s1 hL eL zL hn => ?_
  -- the lists that are new
  obtain ⟨S, hSd⟩ : ∃ S : Addr → Prop, ∀ c, S c ↔ (H c = none ∧ ∃ xs, H1 c = some (.lst xs)) := ⟨_, fun _ => Iff.rfl⟩
  have SL : S L := (hSd L).mpr ⟨hL, _, eL⟩
  have hSB : ∀ c, S c → B c = none := fun c m => E.same.free ((hSd c).mp m).1
  have Ed : EnvO Y fo (seta at_ i none) B (σ.set i (some (.ref L))) H1 (ρ.set i (.dat (.lst items))) := E.putD s1 hi ⟨L, vs, rfl, (hd_not fun m => E.al L m hL).trans eL, by omega, hn.at_ E.al⟩
  have Eh : EnvO Y (fun c => fo c ∨ S c) (seta at_ i none) B (σ.set i (some (.ref L))) H1 (ρ.set i .no) := (E.putN hi).hide S (fun c m => ((hSd c).mp m).1) s1 fun c m => by
    obtain ⟨_, ys, e⟩ := (hSd c).mp m
    rw [e]; exact ⟨_, rfl⟩
  obtain ⟨qh, hvs, ah, sh2, hqh, zh, alh⟩ := Eh.own (i := hs) (xs := xs) (by rw [List.getElem?_set_ne (Ne.symm hsi)]; exact eh)
  have hps : Prs S H1 L vs := hn.prs fun r ws h1 h2 => (hSd r).mpr ⟨h1, ws, h2⟩
  refine ⟨_, sh2, .inl ⟨rfl, hvs, SqL.of hqh⟩, fo, _, B, _, Ed, ?_⟩
  rw [e2]
  intro H2 s2 ws av
  obtain ⟨v, rfl, a1⟩ := args1 av
  have lv := alh.length
  refine ⟨qh, hvs, v, rfl, rfl, s2 _ _ hqh, by rw [← cap_eq]; omega, ?_⟩
  -- the new house has nothing of the new lists
  have a2 : At Y (hd (hid (fun c => fo c ∨ S c) (seta at_ i none)) H2) v d := noL_at (fun c o e n => by
    obtain ⟨n1, e⟩ := hd_some e
    refine (hd_not ?_).trans e
    rw [hid_or]
    rintro (m | m)
    · exact n1 m
    · obtain ⟨_, ys, e5⟩ := (hSd c).mp m
      rw [s2 _ _ e5] at e
      cases e
      exact n ys rfl) nl a1
  have E3 : EnvO Y (fun c => fo c ∨ S c) (seta at_ i none) B (σ.set i (some (.ref L))) (upd H2 qh (.lst (hvs ++ [v]))) ((ρ.set i .no).set hs (.ol (xs ++ [d]))) := (Eh.ext s2).mutL (by rw [List.length_set]; exact (List.getElem?_eq_some_iff.mp eh).1) ah sh2 (by simp; omega) ((alh.same (hd_same s2)).snoc a2)
  have nqL : L ≠ qh := fun z => Eh.df hs qh ah (.inr (by rw [← z]; exact SL))
  have eL2 : upd H2 qh (.lst (hvs ++ [v])) L = some (.lst vs) := by rw [upd_ne nqL]; exact s2 _ _ eL
  have hps2 : Prs S (upd H2 qh (.lst (hvs ++ [v]))) L vs := fun w m => by
    obtain ⟨p, r, k, us, h1, h2, h3, h4, h5⟩ := hps w m
    refine ⟨p, r, k, us, h1, ?_, h3, h4, ?_⟩
    · rw [upd_ne (fun z => by rw [← z, h2] at hqh; cases hqh)]; exact s2 _ _ h2
    · rw [upd_ne (fun z => Eh.df hs qh ah (.inr (by rw [← z]; exact h4)))]; exact s2 _ _ h5
  have l0 : (ρ.set i .no).length = ρ.length := List.length_set
  have E4 := (E3.forget (i := a) (by rw [List.length_set, l0]; exact ha)).forget (i := b) (by rw [List.length_set, List.length_set, l0]; exact hb)
  have sL : (σ.set i (some (.ref L)))[i]? = some (some (.ref L)) := List.getElem?_set_self (by rw [E.len]; exact hi)
  obtain ⟨ρf, eρ⟩ : ∃ ρf, ρf = ((((ρ.set i .no).set hs (.ol (xs ++ [d]))).set a .no).set b .no) := ⟨_, rfl⟩
  rw [← eρ] at E4 h e4
  have lf : ρf.length = ρ.length := by rw [eρ, List.length_set, List.length_set, List.length_set, List.length_set]
  have fa : ρf.set a .no = ρf := by
    rw [eρ, List.set_comm _ _ (Ne.symm hab), List.set_set]
  have fb : ρf.set b .no = ρf := by rw [eρ, List.set_set]
  generalize hH3 : upd H2 qh (.lst (hvs ++ [v])) = H3 at *
  refine ⟨_, sL, L, rfl, ⟨vs, SqL.of eL2⟩, ?_⟩
  refine for_it (walk_list (K := Y.K) (a := L) (xs := vs)) (fun j σ' H' => ∃ at', EnvO Y (fun c => fo c ∨ S c) at' B σ' H' ρf ∧ σ'[i]? = some (some (.ref L)) ∧ H' L = some (.lst vs) ∧ Prs S H' L vs) ⟨_, E4, sL, eL2, hps2⟩ (fun j σ' H' _ ⟨_, _, _, e, _⟩ => SqL.of e) ?_ ?_
  · rintro j x σ' H' H5 hj ⟨at', E5, s5, e5, p5⟩ ⟨rfl, ex⟩
    obtain ⟨p, r, k, us, rfl, hp, hrL, hSr, hr⟩ := p5 x (List.mem_of_getElem? ex)
    have la : σ'.length = ρ.length := by rw [E5.len, lf]
    refine ⟨p, _, rfl, SqT.of hp, rfl, _, _, rfl, _, _, rfl, rfl, ?_⟩
    have E6 := (E5.putN (i := a) (v := some (.str k)) (by rw [lf]; exact ha))
    rw [fa] at E6
    have E7 := (E6.putN (i := b) (v := some (.ref r)) (by rw [lf]; exact hb))
    rw [fb] at E7
    refine ⟨.ref r, List.getElem?_set_self (by rw [List.length_set, la]; exact hb), .inl ⟨rfl, us, SqL.of hr⟩, r, us, rfl, rfl, hr, _, E7.mutH (.inr hSr) (hSB r hSr), ?_, ?_, fun w m => ?_⟩
    · rw [List.getElem?_set_ne hbi, List.getElem?_set_ne hai]; exact s5
    · rw [upd_ne (Ne.symm hrL)]; exact e5
    · obtain ⟨p', r', k', us', h1, h2, h3, h4, h5⟩ := p5 w m
      refine ⟨p', r', k', if r' = r then [] else us', h1, ?_, h3, h4, ?_⟩
      · rw [upd_ne (fun z => by rw [z, hr] at h2; cases h2)]; exact h2
      · by_cases z : r' = r
        · rw [if_pos z, z, upd_same]
        · rw [if_neg z, upd_ne z]; exact h5
  · rintro σ' H' ⟨at', E5, s5, e5, p5⟩
    refine ⟨_, s5, .inl ⟨rfl, vs, SqL.of e5⟩, _, _, B, ρf, E5, ?_⟩
    rw [e4]
    intro H6 s6 ws aw
    obtain ⟨v4, rfl, _⟩ := args1 aw
    exact ⟨L, vs, v4, rfl, rfl, s6 _ _ e5, by rw [← cap_eq]; exact zL, h _ _ _ ((E5.ext s6).mutH (.inr SL) (hSB L SL)).show_⟩
theorem sx_hand {body : List Stmt} {t i a b hs : Nat} {l2 l4 : EF (List D)} {g : TG} {bs : List Nat}
    (h : PSs X body (tSeq (tAsg (tLc (tI Y W (srcE (varE t))) g (tT Y W0 yesT) (tPairL Y.K a b) [a, b]) (gName i))
      (tSeq (tDrop (tBM Y.K "list" rAppend (tVar hs) (tL Y W l2)))
        (tSeq (tFor (iList Y.K (tVar i)) (gTup Y.K 2 (gCons (gName a) (gCons (gName b) gNil))) (tDrop (tBM0 Y.K "list" rClear (tVar b))))
          (tDrop (tBM Y.K "list" rAppend (tVar i) (tL Y W l4)))))))
    (ht : TgR Y g bs (bT (bsCons (bN a) (bsCons (bN b) bsNil)))) (sub : ∀ i ∈ bs, i ∈ [a, b]) : PSs X body (tS Y W (handF t i a b hs l2 l4)) :=
  PSs.imp h fun Dn σ H ⟨fo, at_, B, ρ, E, k⟩ => hand_rd E ht sub k
end
end PL

/-! P17: mirrors reckoned out. -/
namespace PL
open PySem PySem.Spec L2
section
variable {α β : Type} {ρ : List Sl}
@[simp] theorem rb_ok {a : α} {k : α → R β} : (R.ok a).bind k = k a := rfl
@[simp] theorem rb_ex {c : Nat} {ps : D} {k : α → R β} : (R.ex c ps : R α).bind k = .ex c ps := rfl
@[simp] theorem rb_bad {k : α → R β} : (R.bad : R α).bind k = .bad := rfl
@[simp] theorem of_some {a : α} : ofO (some a) = .ok a := rfl
@[simp] theorem of_none : ofO (none : Option α) = .bad := rfl
end
section
variable {ρ : List Sl} {f g : EF D} {l : EF (List D)} {F G : SF} {d e : D} {i j : Int} {b c : Bool} {x y : Str}
@[simp] theorem e_c : cE d ρ = .ok d := rfl
@[simp] theorem e_nilL : nilL ρ = .ok [] := rfl
@[simp] theorem e_yesT : yesT ρ = .ok true := rfl
@[simp] theorem e_tupE : tupE l ρ = (l ρ).bind fun ds => ofO (if ds.length ≤ cap then some (.tup ds) else none) := rfl
@[simp] theorem d_addI : addD (.int i) (.int j) = some (.int (i + j)) := rfl
@[simp] theorem d_opI {k : Int → Int → Int} : opI k (.int i) (.int j) = some (.int (k i j)) := rfl
@[simp] theorem d_opB {k : Int → Int → Bool} : opB k (.int i) (.int j) = some (.bl (k i j)) := rfl
@[simp] theorem d_opIC {C : Int → Int → Prop} [∀ i j, Decidable (C i j)] {k : Int → Int → Int} : opIC C k (.int i) (.int j) = if C i j then some (.int (k i j)) else none := rfl
@[simp] theorem d_mulI : mulD2 (.int i) (.int j) = if CMul i j then some (.int (i * j)) else none := rfl
@[simp] theorem d_eqI : eqD (.int i) (.int j) = some (.bl (i == j)) := rfl
@[simp] theorem d_neI : neD (.int i) (.int j) = some (.bl (!(i == j))) := rfl
@[simp] theorem d_eqS : eqD (.str x) (.str y) = some (.bl (x == y)) := rfl
@[simp] theorem d_neS : neD (.str x) (.str y) = some (.bl (!(x == y))) := rfl
@[simp] theorem d_eqB : eqD (.bl b) (.bl c) = some (.bl (b == c)) := rfl
@[simp] theorem d_lenL {xs : List D} : lenD [.lst xs] = some (.int xs.length) := rfl
@[simp] theorem d_lenT {xs : List D} : lenD [.tup xs] = some (.int xs.length) := rfl
@[simp] theorem d_lenR {xs : List Int} : lenD [.scr xs] = some (.int xs.length) := rfl
@[simp] theorem d_lenS : lenD [.str x] = if x.length ≤ cap then some (.int x.length) else none := rfl
@[simp] theorem kB_ii : kitB "int" "int" = some true := by decide +kernel
@[simp] theorem kB_ib : kitB "int" "bool" = some false := by decide +kernel
@[simp] theorem kB_is : kitB "int" "str" = some false := by decide +kernel
@[simp] theorem kB_it : kitB "int" "tuple" = some false := by decide +kernel
@[simp] theorem kB_il : kitB "int" "list" = some false := by decide +kernel
@[simp] theorem kB_ss : kitB "str" "str" = some true := by decide +kernel
@[simp] theorem kB_si : kitB "str" "int" = some false := by decide +kernel
@[simp] theorem kB_st : kitB "str" "tuple" = some false := by decide +kernel
@[simp] theorem kB_sl : kitB "str" "list" = some false := by decide +kernel
@[simp] theorem kB_tt : kitB "tuple" "tuple" = some true := by decide +kernel
@[simp] theorem kB_ti : kitB "tuple" "int" = some false := by decide +kernel
@[simp] theorem kB_ts : kitB "tuple" "str" = some false := by decide +kernel
@[simp] theorem kB_tl : kitB "tuple" "list" = some false := by decide +kernel
@[simp] theorem kB_ll : kitB "list" "list" = some true := by decide +kernel
@[simp] theorem kB_li : kitB "list" "int" = some false := by decide +kernel
@[simp] theorem kB_ls : kitB "list" "str" = some false := by decide +kernel
@[simp] theorem kB_lt : kitB "list" "tuple" = some false := by decide +kernel
@[simp] theorem kB_bi : kitB "bool" "int" = some true := by decide +kernel
@[simp] theorem kB_bb : kitB "bool" "bool" = some true := by decide +kernel
@[simp] theorem kB_bs : kitB "bool" "str" = some false := by decide +kernel
@[simp] theorem kB_bt : kitB "bool" "tuple" = some false := by decide +kernel
@[simp] theorem kB_bl : kitB "bool" "list" = some false := by decide +kernel
@[simp] theorem kB_ni : kitB "NoneType" "int" = some false := by decide +kernel
@[simp] theorem kB_ns : kitB "NoneType" "str" = some false := by decide +kernel
@[simp] theorem kB_nt : kitB "NoneType" "tuple" = some false := by decide +kernel
@[simp] theorem kB_nl : kitB "NoneType" "list" = some false := by decide +kernel
@[simp] theorem kB_di : kitB "dict" "int" = some false := by decide +kernel
@[simp] theorem kB_ds : kitB "dict" "str" = some false := by decide +kernel
@[simp] theorem kB_dt : kitB "dict" "tuple" = some false := by decide +kernel
@[simp] theorem kB_dl : kitB "dict" "list" = some false := by decide +kernel
@[simp] theorem e_var {k : Nat} : varE k ρ = match ρ[k]? with
  | some (.dat d) => .ok d
  | _ => .bad := rfl
end
/-! ### what repr tells is short -/
mutual
def okR : D → Bool
  | .non => true
  | .bl _ => true
  | .int i => decide (i.natAbs < 10 ^ 12)
  | .str x => x.cps.toList.all fun c => decide (c < 16 ^ 8)
  | .lst xs => okRL xs
  | .tup xs => okRL xs
  | _ => false
def okRL : List D → Bool
  | [] => true
  | x :: xs => okR x && okRL xs
end
mutual
def wtR : D → Nat
  | .int _ => 40
  | .str x => x.cps.size
  | .lst xs => wtRL xs
  | .tup xs => wtRL xs
  | _ => 0
def wtRL : List D → Nat
  | [] => 0
  | x :: xs => wtR x + 1 + wtRL xs
end
theorem log_small {i : Int} (h : i.natAbs < 10 ^ 12) : i.natAbs.log2 < 40 := by
  by_cases h0 : i.natAbs = 0
  · rw [h0]; decide
  · exact (Nat.log2_lt h0).mpr (Nat.lt_of_lt_of_le h (by decide))
mutual
theorem okR_all : ∀ {d : D}, okR d = true → shp d = true ∧ (py d).leavesShort 13 = true ∧ (py d).weight ≤ wtR d
  | .non, _ => ⟨rfl, rfl, Nat.le_refl _⟩
  | .bl _, _ => ⟨rfl, rfl, Nat.le_refl _⟩
  | .int i, h => by
    have h2 : i.natAbs < 10 ^ 12 := of_decide_eq_true h
    have h3 := log_small h2
    refine ⟨decide_eq_true (by omega), decide_eq_true (PyData.shown_int_le h2), ?_⟩
    show (if i == 0 then 0 else i.natAbs.log2 + 1) ≤ 40
    split <;> omega
  | .str x, h => ⟨rfl, h, Nat.le_refl _⟩
  | .lst xs, h => okRL_all (ds := xs) h
  | .tup xs, h => okRL_all (ds := xs) h
  | .dK _, h => by cases h
  | .dT _, h => by cases h
  | .ob _, h => by cases h
  | .exc _ _, h => by cases h
  | .scr _, h => by cases h
  | .dN _, h => by cases h
theorem okRL_all : ∀ {ds : List D}, okRL ds = true → shpL ds = true ∧ PyData.leavesShortAll 13 (pyL ds) = true ∧ PyData.weightAll (pyL ds) ≤ wtRL ds
  | [], _ => ⟨rfl, rfl, Nat.le_refl _⟩
  | d :: ds, h => by
    have h2 : (okR d && okRL ds) = true := h
    rw [Bool.and_eq_true] at h2
    obtain ⟨a1, a2, a3⟩ := okR_all h2.1
    obtain ⟨b1, b2, b3⟩ := okRL_all h2.2
    refine ⟨?_, ?_, ?_⟩
    · show (shp d && shpL ds) = true
      rw [a1, b1]; rfl
    · show ((py d).leavesShort 13 && PyData.leavesShortAll 13 (pyL ds)) = true
      rw [a2, b2]; rfl
    · show (py d).weight + 1 + PyData.weightAll (pyL ds) ≤ wtR d + 1 + wtRL ds
      omega
end
theorem repr_ok {d : D} (h : okR d = true) (h2 : dep d < 64) (h3 : wtR d ≤ 2 ^ 20) : reprD [d] = some (.str (shw d)) := by
  obtain ⟨a1, a2, a3⟩ := okR_all h
  unfold reprD
  dsimp only
  rw [if_pos ⟨a1, by rw [dep_of]; exact h2, by rw [cap_eq]; exact PyData.shown_fits (B := 13) (by decide) (by decide) a2 (Nat.le_trans a3 h3)⟩]
theorem okRL_map {α : Type} {l : List α} {f : α → D} (h : ∀ a ∈ l, okR (f a) = true) : okRL (l.map f) = true := by
  induction l with
  | nil => rfl
  | cons a l ih =>
    show (okR (f a) && okRL (l.map f)) = true
    rw [h a (List.mem_cons_self ..), ih fun b m => h b (List.mem_cons_of_mem _ m)]; rfl
theorem wtRL_map {α : Type} {l : List α} {f : α → D} {k : Nat} (h : ∀ a ∈ l, wtR (f a) ≤ k) : wtRL (l.map f) ≤ l.length * (k + 1) := by
  induction l with
  | nil => exact Nat.zero_le _
  | cons a l ih =>
    show wtR (f a) + 1 + wtRL (l.map f) ≤ (l.length + 1) * (k + 1)
    have h1 := h a (List.mem_cons_self ..)
    have h2 := ih fun b m => h b (List.mem_cons_of_mem _ m)
    have : (l.length + 1) * (k + 1) = l.length * (k + 1) + (k + 1) := by rw [Nat.add_mul, Nat.one_mul]
    omega
theorem depL_map {α : Type} {l : List α} {f : α → D} {k : Nat} (h : ∀ a ∈ l, dep (f a) ≤ k) : depL (l.map f) ≤ k := by
  induction l with
  | nil => exact Nat.zero_le _
  | cons a l ih =>
    show max (dep (f a)) (depL (l.map f)) ≤ k
    have h1 := h a (List.mem_cons_self ..)
    have h2 := ih fun b m => h b (List.mem_cons_of_mem _ m)
    omega
end PL

/-! P18: a caught exception is kept. -/
namespace PL
open PySem PySem.Spec L2
section
variable {X : Cx} {pins : List (Addr × Obj)} {σ : L2.St} {H : Hp} {s : Shared}
/-- the exception that a suite held is followed from now on -/
theorem keepExc {a : Addr} {oe : Obj} {vs : Array Value} {cls : Value} {d : Option Addr} (I : L2.Inv (X.suite a ((a, oe) :: (X.pn ++ pins))) [] σ H s) (ok : X.Ok) (hz : Zc cls d oe) (hd : oe.data = .fields vs) (new : X.s_0.heap.get? a = none) (hp : ∀ p ∈ X.pn ++ pins, p.1 ≠ a) :
    L2.Inv X pins σ (upd H a (ExT cls d a)) s := by
  obtain ⟨ha, na, nL, nF, _⟩ := I.pin (a, oe) (List.mem_append.mpr (.inl List.mem_cons_self))
  have J : L2.Inv X pins σ H s := I.unsuite ok
  have ne0 : ∀ b o, X.s_0.heap.get? b = some o → b ≠ a := fun b o e z => by rw [z, new] at e; cases e
  refine ⟨ok, J.os, J.bare, ⟨J.base.keep, J.base.slot, fun b o e n hx => ?_, J.base.there, fun b xs e => ?_, fun b o x e => ?_, fun b ps e => ?_⟩, J.loc, J.cell, ?_, fun x c e => ?_, fun p m => ?_, fun b o e => ?_, J.len⟩
  · rw [upd_ne (ne0 b o e)]; exact J.base.free b o e n hx
  · have q := J.base.tups b xs e
    rw [upd_ne (ne_of_none q na)]; exact q
  · have q := J.base.frzs b o x e
    rw [upd_ne (ne_of_none q na)]; exact q
  · obtain ⟨m, q⟩ := J.base.tbls b ps e
    exact ⟨m, by rw [upd_ne (ne_of_none q na)]; exact q⟩
  · rw [upd_ne (Ne.symm nL)]; exact J.free
  · have hc := J.freeC x c e
    obtain ⟨v, q⟩ := J.cell x c e
    rw [upd_ne (fun z => ?_)]
    · exact hc
    · obtain ⟨o, ho, hdd⟩ := q
      rw [z, ha] at ho
      cases ho
      have hdd2 : oe.data = .cell v := hdd
      rw [hd] at hdd2
      cases hdd2
  · obtain ⟨e, n, r⟩ := J.pin p m
    exact ⟨e, by rw [upd_ne (hp p m)]; exact n, r⟩
  · by_cases hb : b = a
    · subst hb
      rw [upd_same] at e
      cases e
      exact ⟨⟨oe, vs, ha, hz, hd⟩, ⟨oe, ha⟩, fun h1 h2 ⟨o, v, e, z1, z2⟩ k => ⟨o, v, k o e, z1, z2⟩⟩
    · rw [upd_ne hb] at e
      refine (J.hok b o e).stay (fun c v _ q => q) (fun c q => by rw [upd_ne (ne_of_none q na)]; exact q) fun c xs q => by rw [upd_ne (ne_of_none q na)]; exact q
/-- what the try wishes of an exception of its body -/
def wTr (K : PySem.W.Frag) (c : Value) (i j : Nat) (Wout : WX) (D : Ends) : WX := fun cls d σ H =>
  ∃ b, PySem.W.exmOne K cls c = some b ∧ (b = true → ∀ a, H a = none → D.nx (((σ.set i (some (.ref a))).set j (some (.ref a))).set i none) (upd H a (ExT cls d a))) ∧ (b = false → Wout cls d σ H)
open PyProof.Rows in
/-- try: body / except x as n: v = n; the exception stays in v -/
theorem ps_tryK {x n v : Str} {c : Value} {i j : Nat} {body : List Stmt} {np pos pos' p1 p2 p3 : Pos} {tb : WX → TS} {Wout : WX} (hst : X.stack = X.env :: X.outer) (hfm : X.env.frame = some X.env.locals) (hex : X.ex = []) (hN : X.N.Nodup) (hi : X.N[i]? = some n) (hj : X.N[j]? = some v)
    (hln : X.env.scope.names.lookup n = some .local) (hlv : X.env.scope.names.lookup v = some .local) (hkn : X.env.kindOf n = some .local) (hdn : (n == ("__debug__" : Str)) = false) (hcn : (n == ("__classdict__" : Str)) = false) (hcl : Names X x c) (tko : Takes X Wout)
    (hbd : ∀ (V : WX) (pn : List (Addr × Obj)) (xf : Value → Shared → Prop), Takes (X.tr pn xf) V → PassesOwn (model X.prog X.w) X.A X.env xf → PSs (X.tr pn xf) body (tb V)) :
    PS X (.Try body [.ExceptHandler (some (.Name x np)) (some n) [.Assign [.Name v p1] (.Name n p2) p3] pos'] [] [] pos) (fun D σ H => tb (wTr X.K c i j Wout D) D σ H) := by
  refine ⟨fun pins t σ H D I rd => ?_⟩
  have okX := I.ok
  have frA : X.A.frames = some (X.env :: X.outer) := by rw [okX.frames, hst]
  refine wpAny_Try_except ?_
  refine wpAny_mono ((hbd (wTr X.K c i j Wout D) (X.pn ++ pins) (fun e t1 => wpAny (model X.prog X.w) X.A (noteFrame e X.env) (fun _ t2 => wpAny (model X.prog X.w) X.A (setFlight e none) (fun _ t3 =>
    wpAny (model X.prog X.w) X.A (handleBy e X.env [.ExceptHandler (some (.Name x np)) (some n) [.Assign [.Name v p1] (.Name n p2) p3] pos']) (SP X pins D) X.xe t3) X.xe t2) X.xe t1) (fun u t' air => ?_) PassesOwn.looking).run [] t σ H D (I.toTry _) rd) (fun fl t1 done => ?_) (fun e t1 z => z)
  · obtain ⟨a, Gr, tI, qs, σq, Hq, cls, d, rfl, Jq, grd, ups, skyq, nqa, osq, barq, b, exm, yes, nope⟩ := air
    have J : Inv X pins σq Hq tI := Jq.ofTry okX
    have skyX : Sky Gr (X.env :: X.outer) a (Zc cls d) X.env.locals t'.heap := by rw [← hst]; exact skyq
    show wpAny _ X.A (noteFrame (.ref a) X.env) _ _ _
    refine Sky.land Zc.steady frA hfm skyX fun g3 fly3 ups3 => ?_
    have K3 : Inv X pins σq Hq { t' with heap := g3 } := J.landed grd fly3.1 (ups.trans ups3) osq barq
    obtain ⟨ob3, fs3, at3, zc3, fd3⟩ := fly3.there
    -- no frame is the exception
    have nfr : a ∉ frs (X.env :: X.outer) := fun m => by
      obtain ⟨_, o2, e2, nof⟩ := fly3.2.2.1.mem m
      rw [at3] at e2
      cases e2
      exact nof _ fd3
    have neL : a ≠ X.env.locals := fun z => nfr (List.mem_filterMap.mpr ⟨X.env, .head _, by rw [hfm, z]⟩)
    have neF : a ∉ X.fs := fun m => by
      obtain ⟨ev, me, qe⟩ := List.mem_filterMap.mp m
      exact nfr (List.mem_filterMap.mpr ⟨ev, .tail _ me, qe⟩)
    -- the exception is younger than the body's entry
    have nI : tI.heap.get? a = none := by
      cases e : tI.heap.get? a with
      | none => rfl
      | some o =>
        have z := grd a o e (by rw [hst]; exact nfr)
        rw [fly3.2.1] at z
        cases z
    have n0 : X.s_0.heap.get? a = none := by
      cases e : X.s_0.heap.get? a with
      | none => rfl
      | some o =>
        obtain ⟨o', e'⟩ := J.base.there a o e (by rw [hex]; exact fun z => nomatch z)
        rw [nI] at e'; cases e'
    have nP : ∀ p ∈ X.pn ++ pins, p.1 ≠ a := fun p m z => by
      have := (J.pin p m).1
      rw [z, nI] at this; cases this
    have Su3 := K3.suite at3 fd3 nqa neL neF
    refine wpAny_handleBy_cons (codeAny_handlers_test ?_) (by intro q; cases q)
    have lookT : PySem.W.Looks (model X.prog X.w) g3 (typeOf (.ref a)) cls := fun A Q E r k q => wpAny_typeOf_ref (k _ _ at3) (by rw [zc3.1]; exact q)
    have lookM := PySem.W.exm_one (M := model X.prog X.w) K3.kIn lookT exm
    have clause : ∀ {Q : Value → Shared → Prop} {E : Value → Shared → Prop}, Q c { t' with heap := g3 } → wpAny (model X.prog X.w) (X.A.mark (some (.ref a))) (eval (.Name x np) X.env) Q E { t' with heap := g3 } := fun {Q E} q => by
      rcases hcl with ⟨gx, dx, mx | ⟨mx, bx, nx⟩⟩
      · exact ld_glob (X := X.suite a ((a, ob3) :: (X.pn ++ pins))) Su3 gx mx q dx
      · exact ld_blt (X := X.suite a ((a, ob3) :: (X.pn ++ pins))) Su3 gx mx bx q nx dx
    refine clause (lookM.here ?_)
    cases b with
    | true =>
      refine codeAny_handlers_suite_as (HandSPX.lands_againZ fly3 fun g4 fly4 ups4 => ?_)
      have K4 : Inv X pins σq Hq { t' with heap := g4 } := J.landed grd fly4.1 ((ups.trans ups3).trans ups4) osq barq
      obtain ⟨ob4, fs4, at4, zc4, fd4⟩ := fly4.there
      have suite : PSs (X.suite a ((a, ob4) :: (X.pn ++ pins))) [.Assign [.Name v p1] (.Name n p2) p3] (tAsg (tVar i) (gName j)) := pss_one (ps_set hN hj (.inl hlv) (pe_var hi (.inl hln) hdn hcn) rfl (.inr hlv))
      refine store_ok (X := X.suite a ((a, ob4) :: (X.pn ++ pins))) (v := .ref a) (K4.suite at4 fd4 nqa neL neF) hN hi (.inl hln) rfl (fun t5 Su5 => ?_) (.inr hln)
      have li : i < σq.length := by rw [J.len]; exact (List.getElem?_eq_some_iff.mp hi).1
      refine wpAny_mono (suite.run [] t5 _ Hq { nx := fun σ6 H6 => D.nx (σ6.set i none) (upd H6 a (ExT cls d a)), rt := fun _ _ => False } Su5 ⟨.ref a, List.getElem?_set_self li, yes rfl a nqa⟩) (fun fl6 t6 done6 => ?_) (fun _ _ z => z.elim)
      cases fl6 with
      | next =>
        obtain ⟨σ6, H6, Su6, q6⟩ := done6
        exact gone_ok (X := X.suite a ((a, ob4) :: (X.pn ++ pins))) Su6 hN hi hkn fun t7 Su7 => ⟨_, _, keepExc Su7 okX zc4 fd4 n0 nP, q6⟩
      | brk => obtain ⟨_, _, _, z⟩ := done6; exact z.elim
      | cont => obtain ⟨_, _, _, z⟩ := done6; exact z.elim
      | ret u => obtain ⟨_, _, _, _, _, z⟩ := done6; exact z.elim
    | false =>
      show wpAny _ X.A (handleBy (.ref a) X.env []) _ _ _
      refine wpAny_handleBy_nil ?_
      obtain ⟨_, _, _, ob, fs, T, oT, ts', e1, z1, d1, f1, _⟩ := id fly3
      unfold PySem.passOn
      refine wpAny_bind (wpAny_field e1 d1 f1 ?_)
      rw [if_neg (show ¬ ((Value.ref T == Value.none) = true) by simp)]
      have out : wpAny (model X.prog X.w) X.A (setFlight (.ref a) X.env.frame) (fun _ t4 => wpAny (model X.prog X.w) X.A (throw (.ref a) : Sem Flow) (SP X pins D) X.xe t4) X.xe { t' with heap := g3 } := by
        rw [hfm]
        exact HandSPX.setFlight_upZ fly3 fun g4 held ups4 => wpAny_throw (tko _ _ ⟨a, Gr, tI, pins, σq, Hq, cls, d, rfl, J, grd, (ups.trans ups3).trans ups4, .inr (.inr (by rw [hst]; exact held)), nqa, osq, barq, nope rfl⟩)
      first
        | exact wpAny_bind (wpAny_pure (wpAny_bind out))
        | exact wpAny_bind out
  · cases fl with
    | next => exact let ⟨σ2, H2, J2, q⟩ := done; wpAny_execs_nil ⟨σ2, H2, J2.ofTry okX, q⟩
    | brk => exact let ⟨σ2, H2, J2, q⟩ := done; ⟨σ2, H2, J2.ofTry okX, q⟩
    | cont => exact let ⟨σ2, H2, J2, q⟩ := done; ⟨σ2, H2, J2.ofTry okX, q⟩
    | ret u => exact let ⟨w2, σ2, H2, J2, r2, q⟩ := done; ⟨w2, σ2, H2, J2.ofTry okX, r2, q⟩
variable {Y : Yx} {W : WX}
/-- the mirror of it -/
def tryA (i j : Nat) (ct : Nat → Option Bool) (F : SF) : SF := fun ρ => match F ρ with
  | some (.rs ρ' k ps) => (match ct k with
    | some true => if i < ρ'.length ∧ j < ρ'.length ∧ i ≠ j then (match ps with
      | .non => some (.nx ((ρ'.set j (.dat (.exc k .non))).set i .no))
      | .lst xs => if stillL xs = true then some (.nx ((ρ'.set j (.oE k xs)).set i .no)) else none
      | _ => none) else none
    | some false => some (.rs ρ' k ps)
    | none => none)
  | o => o
theorem sx_tryK {x n v : Str} {c : Value} {i j : Nat} {body : List Stmt} {np pos pos' p1 p2 p3 : Pos} {F : SF} {ct : Nat → Option Bool} (hK : X.K = Y.K) (hst : X.stack = X.env :: X.outer) (hfm : X.env.frame = some X.env.locals) (hex : X.ex = []) (hN : X.N.Nodup) (hi : X.N[i]? = some n) (hj : X.N[j]? = some v)
    (hln : X.env.scope.names.lookup n = some .local) (hlv : X.env.scope.names.lookup v = some .local) (hkn : X.env.kindOf n = some .local) (hcl : Names X x c) (tko : Takes X W) (hct : ∀ k b, ct k = some b → PySem.W.exmOne Y.K (.ref (Y.cx k)) c = some b)
    (hbd : ∀ (V : WX) (pn : List (Addr × Obj)) (xf : Value → Shared → Prop), Takes (X.tr pn xf) V → PassesOwn (model X.prog X.w) X.A X.env xf → PSs (X.tr pn xf) body (tS Y V F)) (hdn : (n == ("__debug__" : Str)) = false := by decide) (hcn : (n == ("__classdict__" : Str)) = false := by decide) :
    PS X (.Try body [.ExceptHandler (some (.Name x np)) (some n) [.Assign [.Name v p1] (.Name n p2) p3] pos'] [] [] pos) (tS Y W (tryA i j ct F)) :=
  PS.imp (ps_tryK (tb := fun V => tS Y V F) hst hfm hex hN hi hj hln hlv hkn hdn hcn hcl tko hbd) fun D σ H ⟨fo, at_, B, ρ, E, h⟩ => by
    refine ⟨fo, at_, B, ρ, E, ?_⟩
    unfold tryA at h
    cases e : F ρ with
    | none => rw [e] at h; exact h
    | some o =>
      rw [e] at h
      cases o with
      | nx r => exact h
      | ret r => exact h
      | brk r => exact h
      | cnt r => exact h
      | rs ρ' k ps =>
        dsimp only at h
        cases ek : ct k with
        | none => rw [ek] at h; exact h.elim
        | some b =>
          rw [ek] at h
          intro at2 σ2 H2 H3 dd E2 s23 xd
          refine ⟨b, by rw [hK]; exact hct k b ek, fun hb a na => ?_, fun hb => ?_⟩
          · subst hb
            dsimp only at h
            split at h
            case isFalse => exact h.elim
            rename_i hc
            obtain ⟨li, lj, hij⟩ := hc
            have na2 : H2 a = none := s23.free na
            have nh : ¬ hid fo at2 a := fun m => E2.al a m na2
            have SA : Same H2 (upd H3 a (ExT (.ref (Y.cx k)) dd a)) := s23.trans (same_new na)
            have er : ∀ s : Sl, (((ρ'.set i .no).set j s).set i .no) = (ρ'.set j s).set i .no := fun s => by rw [List.set_comm _ _ hij, List.set_set]
            rcases xd with ⟨rfl, rfl⟩ | ⟨e1, l, vs, xs, rfl, rfl, he, n1, n2, nel, hl, z, al⟩
            · -- the exception is data; the clause's name goes
              have E3 := (E2.putN (i := i) (v := some (.ref a)) li).putD SA (i := j) (v := .ref a) (d := .exc k .non) (by rw [List.length_set]; exact lj)
                ⟨a, none, rfl, .inl ((hd_not fun m => by
                  rcases m with m | ⟨q, m⟩
                  · exact nh (.inl m)
                  · by_cases hq : q = i
                    · rw [hq, seta_same] at m; cases m
                    · rw [seta_ne hq] at m; exact nh (.inr ⟨q, m⟩)).trans upd_same), .inl ⟨rfl, .non, rfl, rfl⟩⟩
              have E4 := E3.putN (i := i) (v := none) (by rw [List.length_set, List.length_set]; exact li)
              rw [er] at E4
              exact h _ _ _ E4
            · dsimp only at h
              split at h
              case isFalse => exact h.elim
              rename_i hstl
              -- the list is the slot's own
              have E1 := E2.putN (i := i) (v := some (.ref a)) li
              have nla : a ≠ l := fun z => by rw [← z, na] at hl; cases hl
              have nea : e1 ≠ a := fun z => by rw [z, na] at he; cases he
              have vis : ∀ c, c ≠ l → H2 c = none → ¬ hid fo (seta (seta at2 i none) j (some l)) c := fun c cl nc m => by
                rcases m with m | ⟨q, m⟩
                · exact E2.fin c m nc
                · by_cases hq : q = j
                  · rw [hq, seta_same] at m; cases m; exact cl rfl
                  · rw [seta_ne hq] at m
                    by_cases hq2 : q = i
                    · rw [hq2, seta_same] at m; cases m
                    · rw [seta_ne hq2] at m; exact E2.al c (.inr ⟨q, m⟩) nc
              have tups : ∀ c ys, H3 c = some (.tup ys) → hd (hid fo (seta (seta at2 i none) j (some l))) (upd H3 a (ExT (.ref (Y.cx k)) (some e1) a)) c = some (.tup ys) := fun c ys hc => by
                have ca : c ≠ a := fun z => by rw [z, na] at hc; cases hc
                refine (hd_not fun m => ?_).trans ((upd_ne ca).trans hc)
                have A3 := E2.al.same s23
                rcases m with m | ⟨q, m⟩
                · exact A3.nt c ys (.inl m) hc
                · by_cases hq : q = j
                  · rw [hq, seta_same] at m; cases m; rw [hl] at hc; cases hc
                  · rw [seta_ne hq] at m
                    by_cases hq2 : q = i
                    · rw [hq2, seta_same] at m; cases m
                    · rw [seta_ne hq2] at m; exact A3.nt c ys (.inr ⟨q, m⟩) hc
              have E3 := E1.put SA (i := j) (v := some (.ref a)) (s := .oE k xs) (oa := some l) (by rw [List.length_set]; exact lj) (fun c ec => by cases ec; exact n2)
                ⟨a, e1, l, vs, rfl, rfl, (hd_not (vis a nla na2)).trans upd_same, (hd_not (vis e1 nel n1)).trans ((upd_ne nea).trans he), (upd_ne nla.symm).trans hl, z, stillL_at tups hstl al⟩
              have E4 := E3.putN (i := i) (v := none) (by rw [List.length_set, List.length_set]; exact li)
              rw [er] at E4
              exact h _ _ _ E4
          · subst hb
            exact h at2 σ2 H2 H3 dd E2 s23 xd
end
end PL

/-! P19: dicts with keys of several kinds (None, ints, tuples of ints), by their raw entries. -/
namespace PL
open PySem PySem.Spec L2 PyProof.Rows
def nk : AK → NestedKey
  | .non => .none
  | .int i => .num i
  | .tup ks => .tup (ks.map .num)
theorem nks_inj : ∀ {a b : List Int}, a.map NestedKey.num = b.map NestedKey.num → a = b
  | [], [], _ => rfl
  | [], _ :: _, e => by simp at e
  | _ :: _, [], e => by simp at e
  | x :: xs, y :: ys, e => by
    rw [List.map_cons, List.map_cons] at e
    injection e with e1 e2
    injection e1 with e1
    rw [e1, nks_inj e2]
theorem nk_inj : ∀ {a b : AK}, nk a = nk b → a = b
  | .non, .non, _ => rfl
  | .int i, .int j, e => by have e : NestedKey.num i = NestedKey.num j := e; injection e with e; rw [e]
  | .tup xs, .tup ys, e => by
    have e : NestedKey.tup (xs.map .num) = NestedKey.tup (ys.map .num) := e
    injection e with e
    rw [nks_inj e]
  | .non, .int _, e => nomatch (show NestedKey.none = NestedKey.num _ from e)
  | .non, .tup _, e => nomatch (show NestedKey.none = NestedKey.tup _ from e)
  | .int _, .non, e => nomatch (show NestedKey.num _ = NestedKey.none from e)
  | .int _, .tup _, e => nomatch (show NestedKey.num _ = NestedKey.tup _ from e)
  | .tup _, .non, e => nomatch (show NestedKey.tup _ = NestedKey.none from e)
  | .tup _, .int _, e => nomatch (show NestedKey.tup _ = NestedKey.num _ from e)
theorem hashes_num (w : World) : ∀ ks : List Int, NestedKey.hashes w (ks.map .num) = ks.map hashInt
  | [] => by simp [NestedKey.hashes]
  | k :: ks => by rw [List.map_cons, NestedKey.hashes, hashes_num w ks]; simp [NestedKey.hash]
theorem hash_nk (w : World) : ∀ k : AK, NestedKey.hash w (nk k) = hashAK k
  | .non => by simp [nk, NestedKey.hash, hashAK]
  | .int i => by simp [nk, NestedKey.hash, hashAK]
  | .tup ks => by simp [nk, NestedKey.hash, hashAK, hashes_num]
theorem depthAll_num : ∀ ks : List Int, NestedKey.depthAll (ks.map .num) = 0
  | [] => by simp [NestedKey.depthAll]
  | k :: ks => by rw [List.map_cons, NestedKey.depthAll, depthAll_num ks]; simp [NestedKey.depth]
theorem depth_nk : ∀ k : AK, (nk k).depth ≤ 1
  | .non => by simp [nk, NestedKey.depth]
  | .int i => by simp [nk, NestedKey.depth]
  | .tup ks => by simp [nk, NestedKey.depth, depthAll_num]
section
variable {prog : Program} {w : World} {A : Around} {E : Value → Shared → Prop} {s : Shared}
/-- the value v is the key k -/
def KIs (h : Heap) (k : AK) (v : Value) : Prop := NestedIs h (nk k) v
theorem KIs.inj {h : Heap} {a b : AK} {v : Value} (x : KIs h a v) (y : KIs h b v) : a = b := nk_inj (NestedIs.inj _ _ _ x y)
theorem ak_hash {k : AK} {v : Value} {Q : Int → Shared → Prop} (hu : A.units + 8 < cLine) (x : KIs s.heap k v) (h : Q (hashAK k) { s with toks := s.toks + (nk k).draws }) : wpAny (model prog w) A (pyHash v) Q E s :=
  pyHash_key (nk k) v A s Q x (by have := depth_nk k; omega) (by rw [hash_nk]; exact h)
theorem ak_eq {a b : AK} {u v : Value} {Q : Bool → Shared → Prop} (hu : A.units + 8 < cLine) (x : KIs s.heap a u) (y : KIs s.heap b v) (h : Q (decide (a = b)) s) : wpAny (model prog w) A (eqBool u v) Q E s := by
  have e : NestedKey.beq (nk a) (nk b) = decide (a = b) := by
    rw [← NestedKey.decide_eq]
    by_cases z : a = b
    · rw [z]; simp
    · rw [decide_eq_false z, decide_eq_false fun q => z (nk_inj q)]
  exact eqAt_key (nk a) (nk b) A s u v x y (by have := depth_nk a; omega) _ _ _ _ (by rw [e]; exact h)
theorem ak_quiet {k : AK} {v : Value} {Q : Bool → Shared → Prop} (x : KIs s.heap k v) (h : Q true s) : wpAny (model prog w) A (eqIsQuiet 8 v) Q E s :=
  quiet_key (nk k) v 8 s x (by have := depth_nk k; omega) A E Q h
theorem ak_notStr {k : AK} {v : Value} {h : Heap} (x : KIs h k v) : ∀ z t, v ≠ .str z t := fun z t e => by
  subst e
  cases k <;> cases (show NestedIs _ _ _ from x)
theorem ak_tells {key : Value} {k : AK} {stored : List Value} {Q : Bool → Shared → Prop} (hkey : KIs s.heap k key) (hst : ∀ v ∈ stored, ∃ k', KIs s.heap k' v) (h : Q false s) : wpAny (model prog w) A (tableMayTell key stored) Q E s := by
  unfold tableMayTell
  split
  · exact wpAny_pure h
  · refine wpAny_bind (ak_quiet hkey ?_)
    simp only [Bool.not_true, Bool.false_eq_true, if_false]
    refine wpAny_bind ?_
    refine wpAny_forIn_list _ (fun rest r s' => s' = s ∧ r = (none, ()) ∧ ∀ v ∈ rest, ∃ k', KIs s.heap k' v) _ ?_ ?_ _ _ ⟨rfl, rfl, hst⟩
    · rintro x rest r s' ⟨rfl, rfl, hr⟩
      obtain ⟨k', hb⟩ := hr x List.mem_cons_self
      refine wpAny_bind (ak_quiet hb ?_)
      simp only [Bool.not_true, Bool.false_eq_true, if_false]
      exact wpAny_pure ⟨rfl, rfl, fun v hv => hr v (List.mem_cons_of_mem _ hv)⟩
    · rintro r s' ⟨rfl, rfl, _⟩
      exact wpAny_pure h
/-- the entries of a dict, with their keys -/
structure Ents (h : Heap) (xs : List (AK × DictEntry)) : Prop where
  hs : ∀ x ∈ xs, x.2.hash = hashAK x.1
  is : ∀ x ∈ xs, KIs h x.1 x.2.key
  nd : (xs.map (·.1)).Nodup
theorem Ents.uniq {h : Heap} {xs : List (AK × DictEntry)} (r : Ents h xs) {i j : Nat} {k : AK} {p q : DictEntry} (hi : xs[i]? = some (k, p)) (hj : xs[j]? = some (k, q)) : i = j := by
  have hi' : (xs.map (·.1))[i]? = some k := by rw [List.getElem?_map, hi]; rfl
  have hj' : (xs.map (·.1))[j]? = some k := by rw [List.getElem?_map, hj]; rfl
  exact (List.getElem?_inj (List.getElem?_eq_some_iff.mp hi').1 r.nd).mp (hi'.trans hj'.symm)
/-- the walk through the places of one hash -/
theorem ak_find {d : Addr} {key : Value} {o : Obj} {es : Array DictEntry} {ep : Nat} {xs : List (AK × DictEntry)} {k : AK} {Q : Option Nat → Shared → Prop} (hu : A.units + 8 < cLine) (hkey : KIs s.heap k key)
    (ho : s.heap.get? d = some o) (hd : o.data = .dict es ep) (he : es.toList = xs.map (·.2)) (r : Ents s.heap xs)
    (hnone : (∀ (j : Nat) (p : DictEntry), xs[j]? ≠ some (k, p)) → Q none s) (hsome : ∀ (j : Nat) (p : DictEntry), xs[j]? = some (k, p) → Q (some j) s) :
    wpAny (model prog w) A (dictFind d key (hashAK k)) Q E s := by
  have at_ : ∀ j : Nat, es[j]? = (xs[j]?).map (·.2) := fun j => by rw [← Array.getElem?_toList, he, List.getElem?_map]
  have hsz : es.size = xs.length := by rw [← Array.length_toList, he, List.length_map]
  have haskey : ∀ (j : Nat) (p : DictEntry), xs[j]? = some (k, p) → ((es[j]?.map (·.hash)) == some (hashAK k)) = true := by
    intro j p hj
    rw [at_ j, hj]
    have := r.hs _ (List.mem_of_getElem? hj)
    exact (by simpa using this)
  have hmem : ∀ e ∈ es, ∃ x ∈ xs, e = x.2 := by
    intro e hin
    have : e ∈ xs.map (·.2) := he ▸ Array.mem_toList_iff.mpr hin
    obtain ⟨x, hx, rfl⟩ := List.mem_map.mp this
    exact ⟨x, hx, rfl⟩
  have hst : ∀ v ∈ (placesWithHash es.size (fun i => es[i]?.map (·.hash)) (hashAK k)).filterMap (fun i => es[i]?.map (·.key)), ∃ k', KIs s.heap k' v := by
    intro v hv
    obtain ⟨i, _, hi⟩ := List.mem_filterMap.mp hv
    cases hei : es[i]? with
    | none => rw [hei] at hi; cases hi
    | some e =>
      rw [hei] at hi
      obtain rfl : e.key = v := by simpa using hi
      obtain ⟨x, hx, rfl⟩ := hmem e (Array.mem_of_getElem? hei)
      exact ⟨x.1, r.is x hx⟩
  have hnos : ∀ x t, key ≠ .str x t := ak_notStr hkey
  have hany : ∀ a, key = .ref a → ¬ (es.any fun e => e.key == key && e.hash != hashAK k) = true := by
    rintro a rfl
    rw [← Array.any_toList, List.any_eq_true]
    rintro ⟨e, hin, hc⟩
    obtain ⟨x, hx, rfl⟩ := hmem e (Array.mem_toList_iff.mp hin)
    simp only [Bool.and_eq_true, beq_iff_eq, bne_iff_ne, ne_eq] at hc
    obtain ⟨hxa, hne⟩ := hc
    have q := r.is x hx
    rw [hxa] at q
    exact hne (by rw [r.hs x hx, q.inj hkey])
  have shape : (∃ a, key = .ref a) ∨ key = .none ∨ (∃ b, key = .bool b) ∨ ∃ i t, key = .int i t := by
    unfold KIs at hkey
    cases k with
    | non => cases (show NestedIs s.heap .none key from hkey); exact .inr (.inl rfl)
    | int i =>
      have q : NestedIs s.heap (.num i) key := hkey
      cases q with
      | bool e => exact .inr (.inr (.inl ⟨_, rfl⟩))
      | int _ t => exact .inr (.inr (.inr ⟨_, _, rfl⟩))
    | tup ks =>
      have q : NestedIs s.heap (.tup (ks.map .num)) key := hkey
      cases q with
      | tup h1 h2 h3 h4 => exact .inl ⟨_, rfl⟩
  -- the two walks
  have inv : ∀ (x : Nat) (k' : AK) (e' : DictEntry) (hit : Option Nat) (i : Nat), xs[x]? = some (k', e') → i ≤ x → (∀ j, i ≤ j → j < x → ((es[j]?.map (·.hash)) == some (hashAK k)) = false) →
      ((hit = none ∧ ∀ j p, j < i → xs[j]? ≠ some (k, p)) ∨ ∃ j p, hit = some j ∧ j < i ∧ xs[j]? = some (k, p)) →
      ((hit = none ∧ ∀ j p, j < x → xs[j]? ≠ some (k, p)) ∨ ∃ j p, hit = some j ∧ j < x ∧ xs[j]? = some (k, p)) := by
    intro x k' e' hit i hkv hix hskip hH
    rcases hH with ⟨h0, hno⟩ | ⟨j, p, h1, hji, hj⟩
    · refine .inl ⟨h0, fun j p hjx hj => ?_⟩
      rcases Nat.lt_or_ge j i with h | h
      · exact hno j p h hj
      · have := hskip j h hjx
        rw [haskey j p hj] at this
        exact absurd this (by decide)
    · exact .inr ⟨j, p, h1, by omega, hj⟩
  have inv2 : ∀ (x : Nat) (k' : AK) (e' : DictEntry) (hit : Option Nat), xs[x]? = some (k', e') → ¬ k' = k →
      ((hit = none ∧ ∀ j p, j < x → xs[j]? ≠ some (k, p)) ∨ ∃ j p, hit = some j ∧ j < x ∧ xs[j]? = some (k, p)) →
      ((hit = none ∧ ∀ j p, j < x + 1 → xs[j]? ≠ some (k, p)) ∨ ∃ j p, hit = some j ∧ j < x + 1 ∧ xs[j]? = some (k, p)) := by
    intro x k' e' hit hkv hne hHx
    rcases hHx with ⟨h0, hno⟩ | ⟨j, p, h1, hjx, hj⟩
    · refine .inl ⟨h0, fun j p hjx hj => ?_⟩
      rcases Nat.lt_or_ge j x with h | h
      · exact hno j p h hj
      · have hjx' : j = x := by omega
        subst hjx'
        rw [hkv] at hj
        injection hj with hj
        injection hj with hj
        exact hne hj
    · exact .inr ⟨j, p, h1, by omega, hj⟩
  have last : ∀ (i : Nat), (List.range' i (es.size - i)).filter (fun i => (es[i]?.map (·.hash)) == some (hashAK k)) = [] → (∀ (j : Nat) (p : DictEntry), j < i → xs[j]? ≠ some (k, p)) → ∀ (j : Nat) (p : DictEntry), xs[j]? ≠ some (k, p) := by
    intro i hr hno j p hj
    rcases Nat.lt_or_ge j i with h | h
    · exact hno j p h hj
    · have hjl : j < es.size := by
        rw [hsz]
        rcases Nat.lt_or_ge j xs.length with h' | h'
        · exact h'
        · rw [List.getElem?_eq_none h'] at hj; exact nomatch hj
      have := List.filter_eq_nil_iff.mp hr j (List.mem_range'_1.mpr ⟨h, by omega⟩)
      exact absurd (haskey j p hj) this
  have plain : wpAny (model prog w) A (dictWalkPlain d key (hashAK k) es (placesWithHash es.size (fun i => es[i]?.map (·.hash)) (hashAK k))) Q E s := by
    unfold dictWalkPlain
    refine wpAny_bind ?_
    refine wpAny_forIn_list _
      (fun rest b s' => s' = s ∧ ∃ i, b = (none, ()) ∧ rest = (List.range' i (es.size - i)).filter (fun i => (es[i]?.map (·.hash)) == some (hashAK k)) ∧ i ≤ es.size ∧ ∀ (j : Nat) (p : DictEntry), j < i → xs[j]? ≠ some (k, p)) _ ?_ ?_ _ _
      ⟨rfl, 0, rfl, by rw [placesWithHash, List.range_eq_range', Nat.sub_zero], Nat.zero_le _, fun _ _ h => absurd h (Nat.not_lt_zero _)⟩
    · rintro x rest b s' ⟨rfl, i, rfl, hr, hi, hno⟩
      obtain ⟨hix, hxn, hpx, hskip, hrest⟩ := filter_range'_cons _ _ _ _ _ hr.symm
      have hlt : x < es.size := by omega
      have hrest' : rest = (List.range' (x + 1) (es.size - (x + 1))).filter (fun i => (es[i]?.map (·.hash)) == some (hashAK k)) := by rw [hrest]; congr 2; omega
      obtain ⟨⟨k', e'⟩, hkv⟩ : ∃ y, xs[x]? = some y := ⟨xs[x]'(by rw [← hsz]; exact hlt), List.getElem?_eq_getElem _⟩
      have hib : KIs s'.heap k' e'.key := r.is _ (List.mem_of_getElem? hkv)
      have hex : es[x]? = some e' := by rw [at_ x, hkv]; rfl
      have h1 := inv x k' e' none i hkv hix hskip (.inl ⟨rfl, hno⟩)
      have hno2 : ∀ j p, j < x → xs[j]? ≠ some (k, p) := by
        rcases h1 with ⟨_, h1⟩ | ⟨j, p, z, _⟩
        · exact h1
        · cases z
      have hno3 : ¬ k' = k → ∀ j p, j < x + 1 → xs[j]? ≠ some (k, p) := fun hne => by
        rcases inv2 x k' e' none hkv hne (.inl ⟨rfl, hno2⟩) with ⟨_, h1⟩ | ⟨j, p, z, _⟩
        · exact h1
        · cases z
      rw [hex]
      dsimp only
      by_cases hh : (e'.hash == hashAK k) = true
      · rw [if_pos hh]
        refine wpAny_bind (wpAny_dictEpoch ho hd (wpAny_bind (ak_eq hu hib hkey (wpAny_bind (wpAny_dictEpoch ho hd ?_)))))
        show wpAny _ _ (if (ep != ep) = true then _ else _) _ E _
        rw [if_neg (by simp)]
        by_cases hkk : k' = k
        · rw [decide_eq_true hkk]
          subst hkk
          rw [if_pos rfl]
          refine wpAny_bind (wpAny_rule ?_)
          first
            | exact wpAny_pure (wpAny_pure (hsome x _ hkv))
            | exact wpAny_pure (hsome x _ hkv)
        · rw [decide_eq_false hkk, if_neg Bool.false_ne_true]
          refine wpAny_bind (wpAny_rule ?_)
          exact wpAny_pure ⟨rfl, x + 1, rfl, hrest', hlt, hno3 hkk⟩
      · rw [if_neg hh]
        refine wpAny_pure ⟨rfl, x + 1, rfl, hrest', hlt, hno3 ?_⟩
        intro hkk
        have := r.hs _ (List.mem_of_getElem? hkv)
        rw [show e'.hash = hashAK k' from this, hkk] at hh
        simp at hh
    · rintro b s' ⟨rfl, i, rfl, hr, hi, hno⟩
      exact wpAny_pure (hnone (last i hr.symm hno))
  unfold dictFind
  try with_reducible refine wpAny_holding ?_
  refine wpAny_bind (wpAny_dictEntries ho hd ?_)
  dsimp only
  rcases shape with ⟨a, rfl⟩ | rfl | ⟨b, rfl⟩ | ⟨i, t, rfl⟩
  · dsimp only
    rw [if_neg (show ¬ ((Value.ref a :: (placesWithHash es.size (fun i => es[i]?.map (·.hash)) (hashAK k)).filterMap (fun i => es[i]?.map (·.key))).all carriedByValue) = true by simp [carriedByValue])]
    rw [if_neg (hany a rfl)]
    by_cases hone : (((placesWithHash es.size (fun i => es[i]?.map (·.hash)) (hashAK k)).filterMap (fun i => es[i]?.map (·.key))) == [Value.ref a]) = true <;>
    (first | rw [if_pos hone] | rw [if_neg hone]) <;> (first | refine wpAny_bind (wpAny_pure ?_) | refine wpAny_bind (ak_tells hkey hst ?_)) <;> (
      rw [if_neg (by simp)]
      refine wpAny_bind ?_
      refine wpAny_forIn_list _
        (fun rest b s' => s' = s ∧ ∃ i hit, b = (none, hit) ∧ rest = (List.range' i (es.size - i)).filter (fun i => (es[i]?.map (·.hash)) == some (hashAK k)) ∧ i ≤ es.size ∧
          ((hit = none ∧ ∀ j p, j < i → xs[j]? ≠ some (k, p)) ∨ ∃ j p, hit = some j ∧ j < i ∧ xs[j]? = some (k, p))) _ ?_ ?_ _ _
        ⟨rfl, 0, none, rfl, by rw [placesWithHash, List.range_eq_range', Nat.sub_zero], Nat.zero_le _, .inl ⟨rfl, fun _ _ h => absurd h (Nat.not_lt_zero _)⟩⟩
      · rintro x rest b s' ⟨rfl, i, hit, rfl, hr, hi, hH⟩
        obtain ⟨hix, hxn, hpx, hskip, hrest⟩ := filter_range'_cons _ _ _ _ _ hr.symm
        have hlt : x < es.size := by omega
        have hrest' : rest = (List.range' (x + 1) (es.size - (x + 1))).filter (fun i => (es[i]?.map (·.hash)) == some (hashAK k)) := by rw [hrest]; congr 2; omega
        obtain ⟨⟨k', e'⟩, hkv⟩ : ∃ y, xs[x]? = some y := ⟨xs[x]'(by rw [← hsz]; exact hlt), List.getElem?_eq_getElem _⟩
        have hib : KIs s'.heap k' e'.key := r.is _ (List.mem_of_getElem? hkv)
        have hex : es[x]? = some e' := by rw [at_ x, hkv]; rfl
        have hHx := inv x k' e' hit i hkv hix hskip hH
        have hstay := fun hne => inv2 x k' e' hit hkv hne hHx
        rw [hex]
        dsimp only
        by_cases hh : (e'.hash == hashAK k) = true
        · rw [if_pos hh]
          refine wpAny_bind (wpAny_dictEpoch ho hd (wpAny_bind (ak_eq hu hib hkey (wpAny_bind (wpAny_dictEpoch ho hd ?_)))))
          show wpAny _ _ (if (ep != ep) = true then _ else _) _ E _
          rw [if_neg (by simp)]
          by_cases hkk : k' = k
          · rw [decide_eq_true hkk]
            subst hkk
            rcases hHx with ⟨rfl, _⟩ | ⟨j, p, _, hjx, hj⟩
            · first | rw [if_pos rfl] | skip
              simp only [Option.isSome_none, Bool.false_eq_true, if_false]
              first | refine wpAny_bind (wpAny_pure ?_) | skip
              refine wpAny_bind (wpAny_rule ?_)
              split
              · exact wpAny_pure (wpAny_pure (hsome x _ hkv))
              · exact wpAny_pure ⟨rfl, x + 1, some x, rfl, hrest', hlt, .inr ⟨x, _, rfl, Nat.lt_succ_self x, hkv⟩⟩
            · exact absurd (r.uniq hj hkv) (by omega)
          · rw [decide_eq_false hkk]
            simp only [Bool.false_eq_true, if_false]
            refine wpAny_bind (wpAny_rule ?_)
            first | rw [if_neg (by simp)] | skip
            first
              | exact wpAny_pure ⟨rfl, x + 1, hit, rfl, hrest', hlt, hstay hkk⟩
              | exact wpAny_bind (wpAny_pure (wpAny_pure ⟨rfl, x + 1, hit, rfl, hrest', hlt, hstay hkk⟩))
        · rw [if_neg hh]
          refine wpAny_pure ⟨rfl, x + 1, hit, rfl, hrest', hlt, hstay ?_⟩
          intro hkk
          have := r.hs _ (List.mem_of_getElem? hkv)
          rw [show e'.hash = hashAK k' from this, hkk] at hh
          simp at hh
      · rintro b s' ⟨rfl, i, hit, rfl, hr, hi, hH⟩
        rcases hH with ⟨rfl, hno⟩ | ⟨j, p, rfl, _, hj⟩
        · exact wpAny_pure (hnone (last i hr.symm hno))
        · exact wpAny_pure (hsome j p hj))
  · dsimp only
    by_cases hall : ((Value.none :: (placesWithHash es.size (fun i => es[i]?.map (·.hash)) (hashAK k)).filterMap (fun i => es[i]?.map (·.key))).all carriedByValue) = true
    · rw [if_pos hall]; exact plain
    · rw [if_neg hall]
      by_cases hone : (((placesWithHash es.size (fun i => es[i]?.map (·.hash)) (hashAK k)).filterMap (fun i => es[i]?.map (·.key))) == [Value.none]) = true <;>
      (first | rw [if_pos hone] | rw [if_neg hone]) <;> (first | refine wpAny_bind (wpAny_pure ?_) | refine wpAny_bind (ak_tells hkey hst ?_)) <;> (
        rw [if_neg (by simp)]
        refine wpAny_bind ?_
        refine wpAny_forIn_list _
          (fun rest b s' => s' = s ∧ ∃ i hit, b = (none, hit) ∧ rest = (List.range' i (es.size - i)).filter (fun i => (es[i]?.map (·.hash)) == some (hashAK k)) ∧ i ≤ es.size ∧
            ((hit = none ∧ ∀ j p, j < i → xs[j]? ≠ some (k, p)) ∨ ∃ j p, hit = some j ∧ j < i ∧ xs[j]? = some (k, p))) _ ?_ ?_ _ _
          ⟨rfl, 0, none, rfl, by rw [placesWithHash, List.range_eq_range', Nat.sub_zero], Nat.zero_le _, .inl ⟨rfl, fun _ _ h => absurd h (Nat.not_lt_zero _)⟩⟩
        · rintro x rest b s' ⟨rfl, i, hit, rfl, hr, hi, hH⟩
          obtain ⟨hix, hxn, hpx, hskip, hrest⟩ := filter_range'_cons _ _ _ _ _ hr.symm
          have hlt : x < es.size := by omega
          have hrest' : rest = (List.range' (x + 1) (es.size - (x + 1))).filter (fun i => (es[i]?.map (·.hash)) == some (hashAK k)) := by rw [hrest]; congr 2; omega
          obtain ⟨⟨k', e'⟩, hkv⟩ : ∃ y, xs[x]? = some y := ⟨xs[x]'(by rw [← hsz]; exact hlt), List.getElem?_eq_getElem _⟩
          have hib : KIs s'.heap k' e'.key := r.is _ (List.mem_of_getElem? hkv)
          have hex : es[x]? = some e' := by rw [at_ x, hkv]; rfl
          have hHx := inv x k' e' hit i hkv hix hskip hH
          have hstay := fun hne => inv2 x k' e' hit hkv hne hHx
          rw [hex]
          dsimp only
          by_cases hh : (e'.hash == hashAK k) = true
          · rw [if_pos hh]
            refine wpAny_bind (wpAny_dictEpoch ho hd (wpAny_bind (ak_eq hu hib hkey (wpAny_bind (wpAny_dictEpoch ho hd ?_)))))
            show wpAny _ _ (if (ep != ep) = true then _ else _) _ E _
            rw [if_neg (by simp)]
            by_cases hkk : k' = k
            · rw [decide_eq_true hkk]
              subst hkk
              rcases hHx with ⟨rfl, _⟩ | ⟨j, p, _, hjx, hj⟩
              · first | rw [if_pos rfl] | skip
                simp only [Option.isSome_none, Bool.false_eq_true, if_false]
                first | refine wpAny_bind (wpAny_pure ?_) | skip
                refine wpAny_bind (wpAny_rule ?_)
                split
                · exact wpAny_pure (wpAny_pure (hsome x _ hkv))
                · exact wpAny_pure ⟨rfl, x + 1, some x, rfl, hrest', hlt, .inr ⟨x, _, rfl, Nat.lt_succ_self x, hkv⟩⟩
              · exact absurd (r.uniq hj hkv) (by omega)
            · rw [decide_eq_false hkk]
              simp only [Bool.false_eq_true, if_false]
              refine wpAny_bind (wpAny_rule ?_)
              first | rw [if_neg (by simp)] | skip
              first
                | exact wpAny_pure ⟨rfl, x + 1, hit, rfl, hrest', hlt, hstay hkk⟩
                | exact wpAny_bind (wpAny_pure (wpAny_pure ⟨rfl, x + 1, hit, rfl, hrest', hlt, hstay hkk⟩))
          · rw [if_neg hh]
            refine wpAny_pure ⟨rfl, x + 1, hit, rfl, hrest', hlt, hstay ?_⟩
            intro hkk
            have := r.hs _ (List.mem_of_getElem? hkv)
            rw [show e'.hash = hashAK k' from this, hkk] at hh
            simp at hh
        · rintro b s' ⟨rfl, i, hit, rfl, hr, hi, hH⟩
          rcases hH with ⟨rfl, hno⟩ | ⟨j, p, rfl, _, hj⟩
          · exact wpAny_pure (hnone (last i hr.symm hno))
          · exact wpAny_pure (hsome j p hj))
  · dsimp only
    by_cases hall : ((Value.bool b :: (placesWithHash es.size (fun i => es[i]?.map (·.hash)) (hashAK k)).filterMap (fun i => es[i]?.map (·.key))).all carriedByValue) = true
    · rw [if_pos hall]; exact plain
    · rw [if_neg hall]
      by_cases hone : (((placesWithHash es.size (fun i => es[i]?.map (·.hash)) (hashAK k)).filterMap (fun i => es[i]?.map (·.key))) == [Value.bool b]) = true <;>
      (first | rw [if_pos hone] | rw [if_neg hone]) <;> (first | refine wpAny_bind (wpAny_pure ?_) | refine wpAny_bind (ak_tells hkey hst ?_)) <;> (
        rw [if_neg (by simp)]
        refine wpAny_bind ?_
        refine wpAny_forIn_list _
          (fun rest b s' => s' = s ∧ ∃ i hit, b = (none, hit) ∧ rest = (List.range' i (es.size - i)).filter (fun i => (es[i]?.map (·.hash)) == some (hashAK k)) ∧ i ≤ es.size ∧
            ((hit = none ∧ ∀ j p, j < i → xs[j]? ≠ some (k, p)) ∨ ∃ j p, hit = some j ∧ j < i ∧ xs[j]? = some (k, p))) _ ?_ ?_ _ _
          ⟨rfl, 0, none, rfl, by rw [placesWithHash, List.range_eq_range', Nat.sub_zero], Nat.zero_le _, .inl ⟨rfl, fun _ _ h => absurd h (Nat.not_lt_zero _)⟩⟩
        · rintro x rest b s' ⟨rfl, i, hit, rfl, hr, hi, hH⟩
          obtain ⟨hix, hxn, hpx, hskip, hrest⟩ := filter_range'_cons _ _ _ _ _ hr.symm
          have hlt : x < es.size := by omega
          have hrest' : rest = (List.range' (x + 1) (es.size - (x + 1))).filter (fun i => (es[i]?.map (·.hash)) == some (hashAK k)) := by rw [hrest]; congr 2; omega
          obtain ⟨⟨k', e'⟩, hkv⟩ : ∃ y, xs[x]? = some y := ⟨xs[x]'(by rw [← hsz]; exact hlt), List.getElem?_eq_getElem _⟩
          have hib : KIs s'.heap k' e'.key := r.is _ (List.mem_of_getElem? hkv)
          have hex : es[x]? = some e' := by rw [at_ x, hkv]; rfl
          have hHx := inv x k' e' hit i hkv hix hskip hH
          have hstay := fun hne => inv2 x k' e' hit hkv hne hHx
          rw [hex]
          dsimp only
          by_cases hh : (e'.hash == hashAK k) = true
          · rw [if_pos hh]
            refine wpAny_bind (wpAny_dictEpoch ho hd (wpAny_bind (ak_eq hu hib hkey (wpAny_bind (wpAny_dictEpoch ho hd ?_)))))
            show wpAny _ _ (if (ep != ep) = true then _ else _) _ E _
            rw [if_neg (by simp)]
            by_cases hkk : k' = k
            · rw [decide_eq_true hkk]
              subst hkk
              rcases hHx with ⟨rfl, _⟩ | ⟨j, p, _, hjx, hj⟩
              · first | rw [if_pos rfl] | skip
                simp only [Option.isSome_none, Bool.false_eq_true, if_false]
                first | refine wpAny_bind (wpAny_pure ?_) | skip
                refine wpAny_bind (wpAny_rule ?_)
                split
                · exact wpAny_pure (wpAny_pure (hsome x _ hkv))
                · exact wpAny_pure ⟨rfl, x + 1, some x, rfl, hrest', hlt, .inr ⟨x, _, rfl, Nat.lt_succ_self x, hkv⟩⟩
              · exact absurd (r.uniq hj hkv) (by omega)
            · rw [decide_eq_false hkk]
              simp only [Bool.false_eq_true, if_false]
              refine wpAny_bind (wpAny_rule ?_)
              first | rw [if_neg (by simp)] | skip
              first
                | exact wpAny_pure ⟨rfl, x + 1, hit, rfl, hrest', hlt, hstay hkk⟩
                | exact wpAny_bind (wpAny_pure (wpAny_pure ⟨rfl, x + 1, hit, rfl, hrest', hlt, hstay hkk⟩))
          · rw [if_neg hh]
            refine wpAny_pure ⟨rfl, x + 1, hit, rfl, hrest', hlt, hstay ?_⟩
            intro hkk
            have := r.hs _ (List.mem_of_getElem? hkv)
            rw [show e'.hash = hashAK k' from this, hkk] at hh
            simp at hh
        · rintro b s' ⟨rfl, i, hit, rfl, hr, hi, hH⟩
          rcases hH with ⟨rfl, hno⟩ | ⟨j, p, rfl, _, hj⟩
          · exact wpAny_pure (hnone (last i hr.symm hno))
          · exact wpAny_pure (hsome j p hj))
  · dsimp only
    by_cases hall : ((Value.int i t :: (placesWithHash es.size (fun i => es[i]?.map (·.hash)) (hashAK k)).filterMap (fun i => es[i]?.map (·.key))).all carriedByValue) = true
    · rw [if_pos hall]; exact plain
    · rw [if_neg hall]
      by_cases hone : (((placesWithHash es.size (fun i => es[i]?.map (·.hash)) (hashAK k)).filterMap (fun i => es[i]?.map (·.key))) == [Value.int i t]) = true <;>
      (first | rw [if_pos hone] | rw [if_neg hone]) <;> (first | refine wpAny_bind (wpAny_pure ?_) | refine wpAny_bind (ak_tells hkey hst ?_)) <;> (
        rw [if_neg (by simp)]
        refine wpAny_bind ?_
        refine wpAny_forIn_list _
          (fun rest b s' => s' = s ∧ ∃ i hit, b = (none, hit) ∧ rest = (List.range' i (es.size - i)).filter (fun i => (es[i]?.map (·.hash)) == some (hashAK k)) ∧ i ≤ es.size ∧
            ((hit = none ∧ ∀ j p, j < i → xs[j]? ≠ some (k, p)) ∨ ∃ j p, hit = some j ∧ j < i ∧ xs[j]? = some (k, p))) _ ?_ ?_ _ _
          ⟨rfl, 0, none, rfl, by rw [placesWithHash, List.range_eq_range', Nat.sub_zero], Nat.zero_le _, .inl ⟨rfl, fun _ _ h => absurd h (Nat.not_lt_zero _)⟩⟩
        · rintro x rest b s' ⟨rfl, i, hit, rfl, hr, hi, hH⟩
          obtain ⟨hix, hxn, hpx, hskip, hrest⟩ := filter_range'_cons _ _ _ _ _ hr.symm
          have hlt : x < es.size := by omega
          have hrest' : rest = (List.range' (x + 1) (es.size - (x + 1))).filter (fun i => (es[i]?.map (·.hash)) == some (hashAK k)) := by rw [hrest]; congr 2; omega
          obtain ⟨⟨k', e'⟩, hkv⟩ : ∃ y, xs[x]? = some y := ⟨xs[x]'(by rw [← hsz]; exact hlt), List.getElem?_eq_getElem _⟩
          have hib : KIs s'.heap k' e'.key := r.is _ (List.mem_of_getElem? hkv)
          have hex : es[x]? = some e' := by rw [at_ x, hkv]; rfl
          have hHx := inv x k' e' hit i hkv hix hskip hH
          have hstay := fun hne => inv2 x k' e' hit hkv hne hHx
          rw [hex]
          dsimp only
          by_cases hh : (e'.hash == hashAK k) = true
          · rw [if_pos hh]
            refine wpAny_bind (wpAny_dictEpoch ho hd (wpAny_bind (ak_eq hu hib hkey (wpAny_bind (wpAny_dictEpoch ho hd ?_)))))
            show wpAny _ _ (if (ep != ep) = true then _ else _) _ E _
            rw [if_neg (by simp)]
            by_cases hkk : k' = k
            · rw [decide_eq_true hkk]
              subst hkk
              rcases hHx with ⟨rfl, _⟩ | ⟨j, p, _, hjx, hj⟩
              · first | rw [if_pos rfl] | skip
                simp only [Option.isSome_none, Bool.false_eq_true, if_false]
                first | refine wpAny_bind (wpAny_pure ?_) | skip
                refine wpAny_bind (wpAny_rule ?_)
                split
                · exact wpAny_pure (wpAny_pure (hsome x _ hkv))
                · exact wpAny_pure ⟨rfl, x + 1, some x, rfl, hrest', hlt, .inr ⟨x, _, rfl, Nat.lt_succ_self x, hkv⟩⟩
              · exact absurd (r.uniq hj hkv) (by omega)
            · rw [decide_eq_false hkk]
              simp only [Bool.false_eq_true, if_false]
              refine wpAny_bind (wpAny_rule ?_)
              first | rw [if_neg (by simp)] | skip
              first
                | exact wpAny_pure ⟨rfl, x + 1, hit, rfl, hrest', hlt, hstay hkk⟩
                | exact wpAny_bind (wpAny_pure (wpAny_pure ⟨rfl, x + 1, hit, rfl, hrest', hlt, hstay hkk⟩))
          · rw [if_neg hh]
            refine wpAny_pure ⟨rfl, x + 1, hit, rfl, hrest', hlt, hstay ?_⟩
            intro hkk
            have := r.hs _ (List.mem_of_getElem? hkv)
            rw [show e'.hash = hashAK k' from this, hkk] at hh
            simp at hh
        · rintro b s' ⟨rfl, i, hit, rfl, hr, hi, hH⟩
          rcases hH with ⟨rfl, hno⟩ | ⟨j, p, rfl, _, hj⟩
          · exact wpAny_pure (hnone (last i hr.symm hno))
          · exact wpAny_pure (hsome j p hj))
end
end PL

/-! P20: dicts of owned lists: get, setdefault. -/
namespace PL
open PySem PySem.Spec L2 PyProof.Rows
def RawD (h : Heap) (d : Addr) (es : List DictEntry) : Prop := ∃ (o : Obj) (ar : Array DictEntry) (ep : Nat), h.get? d = some o ∧ o.ExactDict ∧ o.data = .dict ar ep ∧ ar.toList = es
theorem RawD.typeIs {s : Shared} {d : Addr} {es : List DictEntry} (r : RawD s.heap d es) : s.TypeIs (.ref d) "dict" := let ⟨o, _, _, ho, hc, _⟩ := r; ⟨o, ho, hc.1⟩
section
variable {prog : Program} {w : World} {A : Around} {E : Value → Shared → Prop} {s : Shared} {d : Addr} {key dflt : Value} {k : AK} {xs : List (AK × DictEntry)}
theorem at_ents {ar : Array DictEntry} (he : ar.toList = xs.map (·.2)) (j : Nat) : ar[j]? = (xs[j]?).map (·.2) := by rw [← Array.getElem?_toList, he, List.getElem?_map]
theorem ak_get2 {Q : Value → Shared → Prop} (hu : A.units + 9 < cLine) (hd : (d == sysModules) = false) (raw : RawD s.heap d (xs.map (·.2))) (r : Ents s.heap xs) (hkey : KIs s.heap k key)
    (h1 : ∀ (j : Nat) (e : DictEntry), xs[j]? = some (k, e) → Q e.val { s with toks := s.toks + (nk k).draws }) (h2 : (∀ (j : Nat) (e : DictEntry), xs[j]? ≠ some (k, e)) → Q dflt { s with toks := s.toks + (nk k).draws }) :
    wpAny (model prog w) A (call (.builtin "dict.get") [.ref d, key, dflt]) Q E s := by
  refine call_meetsIn F.slot_dict_get raw.typeIs F.entry_dict_get (F.args_dict_get_3 _ _ _) (S := fun A' R s' => A' = A ∧ s' = s ∧ (∀ (j : Nat) (e : DictEntry), xs[j]? = some (k, e) → R (.ok (.ret e.val)) { s with toks := s.toks + (nk k).draws }) ∧ ((∀ (j : Nat) (e : DictEntry), xs[j]? ≠ some (k, e)) → R (.ok (.ret dflt)) { s with toks := s.toks + (nk k).draws })) (.of_wp fun A' R s' hS => ?_) ⟨rfl, rfl, h1, h2⟩
  obtain ⟨rfl, rfl, h1, h2⟩ := hS
  obtain ⟨o, ar, ep, ho, hc, hdd, he⟩ := raw
  show wpAny _ _ (dictGet d key >>= _) _ _ s'
  refine wpAny_bind ?_
  unfold dictGet
  try with_reducible refine wpAny_holding ?_
  refine wpAny_bind (ak_hash (by show _ + 1 + 8 < cLine; omega) hkey (wpAny_bind (ak_find (s := { s' with toks := s'.toks + (nk k).draws }) (by show _ + 1 + 8 < cLine; omega) hkey ho hdd he r ?_ ?_)))
  · intro hno
    refine wpAny_pure ?_
    show wpAny _ _ (Builtin.Dict.missed d key >>= _) _ _ _
    exact wpAny_bind (wpAny_missed_other hd (wpAny_pure ⟨dflt, rfl, h2 hno⟩))
  · intro j p hj
    refine wpAny_bind (wpAny_dictEntries (s := { s' with toks := s'.toks + (nk k).draws }) ho hdd ?_)
    rw [at_ents he j, hj]
    exact wpAny_pure (wpAny_pure ⟨p.val, rfl, h1 j p hj⟩)
theorem ak_setd {Q : Value → Shared → Prop} (hu : A.units + 9 < cLine) (hd : (d == sysModules) = false) (raw : RawD s.heap d (xs.map (·.2))) (r : Ents s.heap xs) (hkey : KIs s.heap k key) (hz : xs.length ≤ sizeLine)
    (h1 : ∀ (j : Nat) (e : DictEntry), xs[j]? = some (k, e) → Q e.val { s with toks := s.toks + (nk k).draws })
    (h2 : (∀ (j : Nat) (e : DictEntry), xs[j]? ≠ some (k, e)) → ∀ h', RawD h' d (xs.map (·.2) ++ [⟨hashAK k, key, dflt⟩]) → Heap.SameBut d s.heap h' → Q dflt { s with heap := h', toks := s.toks + (nk k).draws }) :
    wpAny (model prog w) A (call (.builtin "dict.setdefault") [.ref d, key, dflt]) Q E s := by
  refine call_meetsIn F.slot_dict_setdefault raw.typeIs F.entry_dict_setdefault (F.args_dict_setdefault_3 _ _ _) (S := fun A' R s' => A' = A ∧ s' = s ∧ (∀ (j : Nat) (e : DictEntry), xs[j]? = some (k, e) → R (.ok (.ret e.val)) { s with toks := s.toks + (nk k).draws }) ∧
    ((∀ (j : Nat) (e : DictEntry), xs[j]? ≠ some (k, e)) → ∀ h', RawD h' d (xs.map (·.2) ++ [⟨hashAK k, key, dflt⟩]) → Heap.SameBut d s.heap h' → R (.ok (.ret dflt)) { s with heap := h', toks := s.toks + (nk k).draws })) (.of_wp fun A' R s' hS => ?_) ⟨rfl, rfl, h1, h2⟩
  obtain ⟨rfl, rfl, h1, h2⟩ := hS
  have ty := raw.typeIs
  obtain ⟨o, ar, ep, ho, hc, hdd, he⟩ := raw
  unfold Builtin.«dict.setdefault»
  refine wpAny_bind ?_
  unfold Builtin.Dict.keyAndDefault
  refine wpAny_bind (wpAny_notOrdered_dict ty ?_)
  show wpAny _ _ (pure (d, key, some dflt)) _ _ s'
  refine wpAny_pure ?_
  show wpAny _ _ (if (d == sysModules) = true then _ else (dictSetDefault d key dflt >>= _)) _ _ s'
  rw [if_neg (by rw [hd]; exact Bool.false_ne_true)]
  refine wpAny_bind ?_
  unfold dictSetDefault
  try with_reducible refine wpAny_holding ?_
  refine wpAny_bind (ak_hash (by show _ + 1 + 8 < cLine; omega) hkey (wpAny_bind (ak_find (s := { s' with toks := s'.toks + (nk k).draws }) (by show _ + 1 + 8 < cLine; omega) hkey ho hdd he r ?_ ?_)))
  · intro hno
    refine wpAny_bind (wpAny_rule (wpAny_bind (wpAny_updateDictKeys (hz := by have e : ar.size = xs.length := by rw [← Array.length_toList, he, List.length_map]
                                                                              omega) (s := { s' with toks := s'.toks + (nk k).draws }) ho hdd (wpAny_pure (wpAny_pure ⟨dflt, rfl, h2 hno _ ⟨_, _, ep + 1, Heap.get?_update_self _ ho (Obj.isFreed_of_dict (Obj.data_mapDictKeys hdd _)),
      hc.mapDictKeys _, Obj.data_mapDictKeys hdd _, ?_⟩ (Heap.SameBut.update ..)⟩)))))
    simp [he]
  · intro j p hj
    refine wpAny_bind (wpAny_dictEntries (s := { s' with toks := s'.toks + (nk k).draws }) ho hdd ?_)
    rw [at_ents he j, hj]
    exact wpAny_bind (wpAny_rule (wpAny_pure (wpAny_pure ⟨p.val, rfl, h1 j p hj⟩)))
end
/-! ### over the tracked heap -/
/-- the value y is the key k -/
def AKv (H : Hp) (k : AK) (y : V) : Prop := match k with
  | .non => y = .non
  | .int i => y = .int i
  | .tup ks => ∃ b, y = .ref b ∧ H b = some (.tup (ks.map V.int))
theorem nested_ints {h : Heap} : ∀ {ks : List Int} {us : List Value}, Vals (ks.map V.int) us → NestedAll h (ks.map .num) us
  | [], _, r => by rw [List.map_nil] at r; cases r; exact .nil
  | k :: ks, _, r => by
    rw [List.map_cons] at r
    cases r with
    | cons h1 t =>
      obtain ⟨tk, rfl⟩ := h1
      exact .cons (.int _ _) (nested_ints t)
section
variable {P : Program} {w : World} {H : Hp} {h : Heap}
theorem kis_tup (ok : HOk P w H h) {b : Addr} {ks : List Int} (e : H b = some (.tup (ks.map V.int))) : KIs h (.tup ks) (.ref b) := by
  obtain ⟨_, its, r, o, h1, h2, n, h3⟩ := (show ObjOk P w H h b (.tup (ks.map V.int)) from ok b _ e)
  exact .tup h1 h2 h3 (by simpa using nested_ints r)
theorem kis_of (ok : HOk P w H h) {k : AK} {y : V} {u : Value} (a : AKv H k y) (r : RelV y u) : KIs h k u := by
  cases k with
  | non => cases (show y = _ from a); cases (show u = _ from r); exact .none
  | int i => cases (show y = _ from a); obtain ⟨t, rfl⟩ := (show ∃ t, u = Value.int i t from r); exact .int i t
  | tup ks => obtain ⟨b, rfl, e⟩ := a; cases (show u = _ from r); exact kis_tup ok e
theorem kis_ent (ok : HOk P w H h) {k : AK} {e : DictEntry} (a : AKe H k e) : KIs h k e.key := by
  obtain ⟨_, a⟩ := a
  cases k with
  | non => rw [show e.key = _ from a]; exact .none
  | int i => obtain ⟨t, q⟩ := a; rw [q]; exact .int i t
  | tup ks => obtain ⟨b, q, z⟩ := a; rw [q]; exact kis_tup ok z
theorem ake_of {k : AK} {y : V} {u r : Value} (a : AKv H k y) (ry : RelV y u) : AKe H k ⟨hashAK k, u, r⟩ := by
  refine ⟨rfl, ?_⟩
  cases k with
  | non => cases (show y = _ from a); exact ry
  | int i => cases (show y = _ from a); exact ry
  | tup ks => obtain ⟨b, rfl, e⟩ := a; exact ⟨b, ry, e⟩
/-- the entries es have the keys ks -/
def EK (H : Hp) (es : List DictEntry) (ks : List AK) : Prop := Paired (fun e k => AKe H k e) es ks ∧ ks.Nodup
theorem EK.ents (ok : HOk P w H h) {es : List DictEntry} {ks : List AK} (r : EK H es ks) : ∃ xs : List (AK × DictEntry), xs.map (·.2) = es ∧ xs.map (·.1) = ks ∧ Ents h xs := by
  obtain ⟨r, nd⟩ := r
  have go : ∀ {es : List DictEntry} {ks : List AK}, Paired (fun e k => AKe H k e) es ks → ∃ xs : List (AK × DictEntry), xs.map (·.2) = es ∧ xs.map (·.1) = ks ∧ (∀ x ∈ xs, x.2.hash = hashAK x.1) ∧ ∀ x ∈ xs, KIs h x.1 x.2.key := by
    intro es ks r
    induction r with
    | nil => exact ⟨[], rfl, rfl, (fun _ z => nomatch z), fun _ z => nomatch z⟩
    | @cons e k es ks a t ih =>
      obtain ⟨xs, e1, e2, h1, h2⟩ := ih
      refine ⟨(k, e) :: xs, by rw [List.map_cons, e1], by rw [List.map_cons, e2], fun x m => ?_, fun x m => ?_⟩
      · rcases List.mem_cons.mp m with q | m
        · rw [q]; exact a.1
        · exact h1 x m
      · rcases List.mem_cons.mp m with q | m
        · rw [q]; exact kis_ent ok a
        · exact h2 x m
  obtain ⟨xs, e1, e2, h1, h2⟩ := go r
  exact ⟨xs, e1, e2, h1, h2, by rw [e2]; exact nd⟩
end
section
variable {X : Cx} {pins : List (Addr × Obj)} {σ : L2.St} {H : Hp} {s : Shared} {a : Addr} {es : List DictEntry}
theorem ext_raw (I : Inv X pins σ H s) (e : Rd H a (ExtD a es)) : (a == sysModules) = false ∧ es.length ≤ sizeLine ∧ RawD s.heap a es := by
  have q := e.ok I.hok
  exact q.1
theorem ext_ty (I : Inv X pins σ H s) (e : Rd H a (ExtD a es)) : s.TypeIs (.ref a) "dict" ∧ (∀ b, Value.ref a = .ref b → ∃ ob, s.heap.get? b = some ob ∧ ob.dict = none) := by
  obtain ⟨_, _, raw⟩ := ext_raw I e
  refine ⟨raw.typeIs, fun b q => ?_⟩
  cases q
  obtain ⟨o, _, _, h1, h2, _⟩ := raw
  exact ⟨o, h1, h2.2.1⟩
theorem ext_ok {P : Program} {w : World} {H : Hp} {h : Heap} (h1 : (a == sysModules) = false) (h2 : es.length ≤ sizeLine) (h3 : RawD h a es) : ObjOk P w H h a (ExtD a es) :=
  ⟨⟨h1, h2, h3⟩, let ⟨o, _, _, e, _⟩ := h3; ⟨o, e⟩, fun g1 g2 ⟨a1, a2, o, ar, ep, e, r⟩ k => ⟨a1, a2, o, ar, ep, k _ e, r⟩⟩
/-- {} with keys of several kinds -/
theorem pe_dnewN {pos : Pos} : PE X (.Dict [] [] pos) (fun _ H Q => ∀ p, H p = none → Q (.ref p) (upd H p (ExtD p []))) := ⟨fun pins s σ H Q I h =>
  wpAny_Dict_empty ⟨.ref s.heap.objs.size, _, I.laid (a := s.heap.objs.size) (o := ExtD s.heap.objs.size []) (t' := s.toks) (fun _ _ q => Heap.get?_push_of_some _ q) (Nat.le_refl _)
    (ext_ok (beq_eq_false_iff_ne.mpr (Ne.symm (Nat.ne_of_lt I.big))) (Nat.zero_le _) ⟨_, #[], 0, Heap.get?_push_size _ rfl, ⟨rfl, rfl, rfl⟩, rfl, rfl⟩), rfl, h _ (I.hok.fresh (Nat.le_refl _))⟩⟩
variable {o e f : Expr} {td ty tx : TE} {apos cpos : Pos}
/-- d.setdefault(y, z) -/
def tSetA (td ty tx : TE) : TE := fun σ H Q => td σ H fun x H1 => ∃ (a : Addr) (es0 : List DictEntry), x = .ref a ∧ Rd H1 a (ExtD a es0) ∧ ty σ H1 fun y H2 => tx σ H2 fun z H3 => ∃ (es : List DictEntry) (ks : List AK) (k : AK), H3 a = some (ExtD a es) ∧ EK H3 es ks ∧ AKv H3 k y ∧ es.length < sizeLine ∧
  (∀ (j : Nat) (e : DictEntry), es[j]? = some e → ks[j]? = some k → ∃ v, RelV v e.val ∧ Q v H3) ∧ (k ∉ ks → ∀ e : DictEntry, AKe H3 k e → RelV z e.val → Q z (upd H3 a (ExtD a (es ++ [e]))))
theorem pe_setA (hu : X.A.units + 9 < cLine) (ho : PE X o td) (he : PE X e ty) (hf : PE X f tx) (m : M2 X o "setdefault" apos e f cpos) : PE X (.Call (.Attribute o "setdefault" apos) [e, f] [] cpos) (tSetA td ty tx) := by
  refine ⟨fun pins s σ H Q I h => ?_⟩
  refine wpAny_Call_method m.base m.few m.line PySem.F.plainAttrs_dict PySem.F.slot_dict_setdefault PySem.F.type_dict_setdefault (thn (ho.run pins s σ H _ I h) fun u s1 ⟨x, H1, I1, rx, a, es0, ex, d, q1⟩ => ?_)
  subst ex
  obtain rfl : u = Value.ref a := rx
  obtain ⟨t1, t2⟩ := ext_ty I1 d
  refine ⟨t1, t2, ?_⟩
  rw [m.trees]
  refine Calls.callWith_builtin rfl (Calls.evalArgs_plain (Calls.spliced_cons (thn (he.run pins s1 σ H1 _ I1 q1) fun iv s2 ⟨y, H2, I2, ry, q2⟩ =>
    Calls.spliced_cons (thn (hf.run pins s2 σ H2 _ I2 q2) fun fv s3 ⟨z, H3, I3, rz, es, ks, k, ea, ek, ky, hl, q3, q4⟩ => Calls.spliced_nil ?_))))
  obtain ⟨g1, g2, raw⟩ := ext_raw I3 (.inl ea)
  obtain ⟨xs, e1, e2, en⟩ := ek.ents I3.hok
  subst e1 e2
  have at1 : ∀ (j : Nat) (e : DictEntry), xs[j]? = some (k, e) → (xs.map (·.2))[j]? = some e ∧ (xs.map (·.1))[j]? = some k := fun j e q => ⟨by rw [List.getElem?_map, q]; rfl, by rw [List.getElem?_map, q]; rfl⟩
  refine ak_setd hu g1 raw en (kis_of I3.hok ky ry) (by rw [List.length_map] at hl; omega) (fun j e q => ?_) fun hno h' raw' sb => ?_
  · obtain ⟨v, rv, qq⟩ := q3 j e (at1 j e q).1 (at1 j e q).2
    exact ⟨v, H3, I3.tok _, rv, qq⟩
  · have hk : k ∉ xs.map (·.1) := fun m => by
      obtain ⟨x, hx, rfl⟩ := List.mem_map.mp m
      obtain ⟨j, hj⟩ := List.mem_iff_getElem?.mp hx
      exact hno j x.2 hj
    refine ⟨z, _, d_write (t' := s3.toks + (nk k).draws) I3 (by rw [ea]; exact True.intro) sb (let ⟨q, _, _, hq, _⟩ := raw'; ⟨q, hq⟩) (ext_ok g1 (by rw [List.length_append, List.length_singleton]; omega) raw'), rz, q4 hk _ (ake_of ky ry) rz⟩
/-- d.get(y, z) -/
def tGetA (td ty tx : TE) : TE := fun σ H Q => td σ H fun x H1 => ∃ (a : Addr) (es0 : List DictEntry), x = .ref a ∧ Rd H1 a (ExtD a es0) ∧ ty σ H1 fun y H2 => tx σ H2 fun z H3 => ∃ (es : List DictEntry) (ks : List AK) (k : AK), Rd H3 a (ExtD a es) ∧ EK H3 es ks ∧ AKv H3 k y ∧
  (∀ (j : Nat) (e : DictEntry), es[j]? = some e → ks[j]? = some k → ∃ v, RelV v e.val ∧ Q v H3) ∧ (k ∉ ks → Q z H3)
theorem pe_getA (hu : X.A.units + 9 < cLine) (ho : PE X o td) (he : PE X e ty) (hf : PE X f tx) (m : M2 X o "get" apos e f cpos) : PE X (.Call (.Attribute o "get" apos) [e, f] [] cpos) (tGetA td ty tx) := by
  refine ⟨fun pins s σ H Q I h => ?_⟩
  refine wpAny_Call_method m.base m.few m.line PySem.F.plainAttrs_dict PySem.F.slot_dict_get PySem.F.type_dict_get (thn (ho.run pins s σ H _ I h) fun u s1 ⟨x, H1, I1, rx, a, es0, ex, d, q1⟩ => ?_)
  subst ex
  obtain rfl : u = Value.ref a := rx
  obtain ⟨t1, t2⟩ := ext_ty I1 d
  refine ⟨t1, t2, ?_⟩
  rw [m.trees]
  refine Calls.callWith_builtin rfl (Calls.evalArgs_plain (Calls.spliced_cons (thn (he.run pins s1 σ H1 _ I1 q1) fun iv s2 ⟨y, H2, I2, ry, q2⟩ =>
    Calls.spliced_cons (thn (hf.run pins s2 σ H2 _ I2 q2) fun fv s3 ⟨z, H3, I3, rz, es, ks, k, ea, ek, ky, q3, q4⟩ => Calls.spliced_nil ?_))))
  obtain ⟨g1, g2, raw⟩ := ext_raw I3 ea
  obtain ⟨xs, e1, e2, en⟩ := ek.ents I3.hok
  subst e1 e2
  have at1 : ∀ (j : Nat) (e : DictEntry), xs[j]? = some (k, e) → (xs.map (·.2))[j]? = some e ∧ (xs.map (·.1))[j]? = some k := fun j e q => ⟨by rw [List.getElem?_map, q]; rfl, by rw [List.getElem?_map, q]; rfl⟩
  refine ak_get2 hu g1 raw en (kis_of I3.hok ky ry) (fun j e q => ?_) fun hno => ?_
  · obtain ⟨v, rv, qq⟩ := q3 j e (at1 j e q).1 (at1 j e q).2
    exact ⟨v, H3, I3.tok _, rv, qq⟩
  · refine ⟨z, H3, I3.tok _, rz, q4 fun m => ?_⟩
    obtain ⟨x, hx, rfl⟩ := List.mem_map.mp m
    obtain ⟨j, hj⟩ := List.mem_iff_getElem?.mp hx
    exact hno j x.2 hj
end
end PL

/-! P21: dicts of owned lists: slots and statements. -/
namespace PL
open PySem PySem.Spec L2
open Classical in
noncomputable def ghost (at_ : Nat → Option Addr) (n i : Nat) (l : Addr) : Nat → Option Addr := fun j => if ∃ m, j = i + (m + 1) * n then (if j = i + n then some l else at_ (j - n)) else at_ j
section
variable {at_ : Nat → Option Addr} {n i j k m : Nat} {l a b : Addr}
theorem mul_pos_le (m n : Nat) : n ≤ (m + 1) * n := Nat.le_mul_of_pos_left _ (Nat.succ_pos m)
theorem ghost_0 : ghost at_ n i l (i + (0 + 1) * n) = some l := by
  unfold ghost
  rw [if_pos ⟨0, rfl⟩, if_pos (by rw [Nat.zero_add, Nat.one_mul])]
theorem ghost_s (hn : 0 < n) : ghost at_ n i l (i + (m + 1 + 1) * n) = at_ (i + (m + 1) * n) := by
  have e : (m + 1 + 1) * n = (m + 1) * n + n := Nat.succ_mul _ _
  have h := mul_pos_le m n
  unfold ghost
  rw [if_pos ⟨m + 1, rfl⟩, if_neg (by omega)]
  congr 1
  omega
theorem ghost_o (h : ∀ m, j ≠ i + (m + 1) * n) : ghost at_ n i l j = at_ j := if_neg fun ⟨m, e⟩ => h m e
theorem ghost_lt (hj : j < n) : ghost at_ n i l j = at_ j := ghost_o fun m e => by
  have := mul_pos_le m n
  omega
/-- where it comes from -/
theorem ghost_from (hn : 0 < n) (h : ghost at_ n i l j = some a) : (j = i + n ∧ a = l) ∨ (∃ m, j = i + (m + 1 + 1) * n ∧ at_ (i + (m + 1) * n) = some a) ∨ ((∀ m, j ≠ i + (m + 1) * n) ∧ at_ j = some a) := by
  by_cases q : ∃ m, j = i + (m + 1) * n
  · obtain ⟨m, rfl⟩ := q
    cases m with
    | zero => rw [ghost_0] at h; cases h; exact .inl ⟨by rw [Nat.zero_add, Nat.one_mul], rfl⟩
    | succ m => rw [ghost_s hn] at h; exact .inr (.inl ⟨m, rfl, h⟩)
  · rw [ghost_o fun m e => q ⟨m, e⟩] at h
    exact .inr (.inr ⟨fun m e => q ⟨m, e⟩, h⟩)
theorem ghost_some (hn : 0 < n) (h : ghost at_ n i l j = some a) : a = l ∨ ∃ j', at_ j' = some a := by
  rcases ghost_from hn h with ⟨_, e⟩ | ⟨m, _, e⟩ | ⟨_, e⟩
  · exact .inl e
  · exact .inr ⟨_, e⟩
  · exact .inr ⟨_, e⟩
theorem ghost_gs (hi : i < n) (hj : j < n) (h : gsl at_ n j a) : gsl (ghost at_ n i l) n j a := by
  obtain ⟨m, h⟩ := h
  by_cases e : j = i
  · subst e; exact ⟨m + 1, by rw [ghost_s (by omega)]; exact h⟩
  · exact ⟨m, by rw [ghost_o fun k => slot_ne hi hj e]; exact h⟩
end
section
variable {Y : Yx} {fo : Addr → Prop} {at_ : Nat → Option Addr} {B : Hp} {σ : L2.St} {H : Hp} {ρ : List Sl} {gs : Addr → Prop} {G : Hp}
theorem OAs.mem : ∀ {vs : List DictEntry} {es : List (AK × List D)}, OAs Y gs G H vs es → ∀ e ∈ vs, ∃ l ws, e.val = .ref l ∧ gs l ∧ H l = some (.lst ws)
  | _, [], r, e, m => by cases (show _ = [] from r); cases m
  | _, (k, ds) :: es, ⟨e0, q, l, vs, rfl, ke, ev, g, hl, z, al, nd, t⟩, e, m => by
    rcases List.mem_cons.mp m with rfl | m
    · exact ⟨l, vs, ev, g, hl⟩
    · exact OAs.mem t e m
theorem OAs.snoc {en : DictEntry} {k : AK} {l : Addr} {ws : List V} {ds : List D} (ke : AKe G k en) (ev : en.val = .ref l) (g : gs l) (hl : H l = some (.lst ws)) (z : ws.length ≤ cap) (al : AtL Y G ws ds) :
    ∀ {vs : List DictEntry} {es : List (AK × List D)}, (∀ e ∈ vs, e.val ≠ .ref l) → OAs Y gs G H vs es → OAs Y gs G H (vs ++ [en]) (es ++ [(k, ds)])
  | _, [], n, r => by cases (show _ = [] from r); exact ⟨en, [], l, ws, rfl, ke, ev, g, hl, z, al, (fun _ m => nomatch m), rfl⟩
  | _, (k0, ds0) :: es, n, ⟨e0, q, l0, vs, e1, ke0, ev0, g0, hl0, z0, al0, nd, t⟩ => by
    subst e1
    exact ⟨e0, q ++ [en], l0, vs, rfl, ke0, ev0, g0, hl0, z0, al0, fun e m => (List.mem_append.mp m).elim (nd e) fun m => by
      rw [List.mem_singleton.mp m]
      intro z
      exact n e0 (List.mem_cons_self ..) (by rw [ev0, ← z, ev]), OAs.snoc ke ev g hl z al (fun e m => n e (List.mem_cons_of_mem _ m)) t⟩
theorem OAs.ek : ∀ {vs : List DictEntry} {es : List (AK × List D)}, OAs Y gs G H vs es → Paired (fun e k => AKe G k e) vs (es.map (·.1))
  | _, [], r => by cases (show _ = [] from r); exact .nil
  | _, (k, ds) :: es, ⟨e0, q, l, vs, rfl, ke, ev, g, hl, z, al, nd, t⟩ => .cons ke (OAs.ek t)
/-- the j-th list -/
theorem OAs.get : ∀ {vs : List DictEntry} {es : List (AK × List D)} {j : Nat} {e : DictEntry} {k : AK}, OAs Y gs G H vs es → vs[j]? = some e → (es.map (·.1))[j]? = some k → ∃ l ws ds, es[j]? = some (k, ds) ∧ e.val = .ref l ∧ gs l ∧ H l = some (.lst ws) ∧ ws.length ≤ cap ∧ AtL Y G ws ds
  | _, [], j, e, k, r, h1, h2 => by simp at h2
  | _, (k0, ds) :: es, 0, e, k, ⟨e0, q, l, vs, rfl, ke, ev, g, hl, z, al, nd, t⟩, h1, h2 => by
    simp at h1 h2; subst h1; subst h2
    exact ⟨l, vs, ds, rfl, ev, g, hl, z, al⟩
  | _, (k0, ds) :: es, j + 1, e, k, ⟨e0, q, l, vs, rfl, ke, ev, g, hl, z, al, nd, t⟩, h1, h2 => by
    obtain ⟨l', ws, ds', r⟩ := OAs.get t (j := j) (by simpa using h1) (by simpa using h2)
    exact ⟨l', ws, ds', by simpa using r.1, r.2⟩
/-- one of the lists is changed -/
theorem OAs.upd {l : Addr} {ws : List V} {ds' : List D} (z' : ws.length ≤ cap) (al' : AtL Y G ws ds') : ∀ {vs : List DictEntry} {es : List (AK × List D)} {j : Nat} {e : DictEntry} {k : AK}, OAs Y gs G H vs es → vs[j]? = some e → (es.map (·.1))[j]? = some k → e.val = .ref l →
    OAs Y gs G (upd H l (.lst ws)) vs (es.set j (k, ds'))
  | _, [], j, e, k, r, h1, h2, _ => by simp at h2
  | _, (k0, ds) :: es, 0, e, k, ⟨e0, q, l0, vs, rfl, ke, ev, g, hl, z, al, nd, t⟩, h1, h2, h3 => by
    simp at h1 h2; subst h1; subst h2
    have e1 : l0 = l := by rw [ev] at h3; injection h3
    subst e1
    refine ⟨e0, q, l0, ws, rfl, ke, ev, g, upd_same, z', al', nd, ?_⟩
    have keep : ∀ {vs : List DictEntry} {es : List (AK × List D)}, (∀ e ∈ vs, e.val ≠ .ref l0) → OAs Y gs G H vs es → OAs Y gs G (L2.upd H l0 (.lst ws)) vs es := by
      intro vs es
      induction es generalizing vs with
      | nil => intro _ r; exact r
      | cons p es ih =>
        intro n ⟨e0, q, l, vs, e1, ke, ev, g, hl, z, al, nd, t⟩
        subst e1
        exact ⟨e0, q, l, vs, rfl, ke, ev, g, (upd_ne fun z => n e0 (List.mem_cons_self ..) (by rw [ev, z])).trans hl, z, al, nd, ih (fun e m => n e (List.mem_cons_of_mem _ m)) t⟩
    exact keep nd t
  | _, (k0, ds) :: es, j + 1, e, k, ⟨e0, q, l0, vs, rfl, ke, ev, g, hl, z, al, nd, t⟩, h1, h2, h3 => by
    have h1' : q[j]? = some e := by simpa using h1
    have n0 : l0 ≠ l := fun z => nd e (List.mem_of_getElem? h1') (by rw [h3, z])
    exact ⟨e0, q, l0, vs, rfl, ke, ev, g, (upd_ne n0).trans hl, z, al, nd, OAs.upd z' al' t h1' (by simpa using h2) h3⟩
theorem EnvO.ownA (E : EnvO Y fo at_ B σ H ρ) {i : Nat} {es : List (AK × List D)} (e : ρ[i]? = some (.oA es)) :
    ∃ a vs, at_ i = some a ∧ σ[i]? = some (some (.ref a)) ∧ H a = some (ExtD a vs) ∧ (es.map (·.1)).Nodup ∧ OAs Y (gsl at_ ρ.length i) (hd (hid fo at_) H) H vs es := by
  obtain ⟨q, vs, e1, e2, e3, e4, al⟩ := E.sl i _ e
  exact ⟨q, vs, e1, join_some e2, e3, e4, al⟩
/-- a new list within the dict -/
theorem EnvO.addA (E : EnvO Y fo at_ B σ H ρ) {i : Nat} {es : List (AK × List D)} {a l : Addr} {vs : List DictEntry} {en : DictEntry} {k : AK} (e : ρ[i]? = some (.oA es)) (ha : at_ i = some a) (hs : σ[i]? = some (some (.ref a))) (hH : H a = some (ExtD a vs)) (nd : (es.map (·.1)).Nodup)
    (oa : OAs Y (gsl at_ ρ.length i) (hd (hid fo at_) H) H vs es) (nl : H l = none) (hk : k ∉ es.map (·.1)) (ke : AKe (hd (hid fo at_) H) k en) (ev : en.val = .ref l) :
    EnvO Y fo (ghost at_ ρ.length i l) B σ (upd (upd H l (.lst [])) a (ExtD a (vs ++ [en]))) (ρ.set i (.oA (es ++ [(k, [])]))) ∧
    OAs Y (gsl (ghost at_ ρ.length i l) ρ.length i) (hd (hid fo (ghost at_ ρ.length i l)) (upd (upd H l (.lst [])) a (ExtD a (vs ++ [en])))) (upd (upd H l (.lst [])) a (ExtD a (vs ++ [en]))) (vs ++ [en]) (es ++ [(k, [])]) := by
  have hi : i < ρ.length := (List.getElem?_eq_some_iff.mp e).1
  have hn : 0 < ρ.length := by omega
  have nla : l ≠ a := fun z => by rw [z, hH] at nl; cases nl
  have keep : ∀ b u, b ≠ a → H b = some u → upd (upd H l (.lst [])) a (ExtD a (vs ++ [en])) b = some u := fun b u n z => by
    rw [upd_ne n, upd_ne (ne_of_none z nl)]; exact z
  have hl : upd (upd H l (.lst [])) a (ExtD a (vs ++ [en])) l = some (.lst []) := by rw [upd_ne nla, upd_same]
  have vis : Same (hd (hid fo at_) H) (hd (hid fo (ghost at_ ρ.length i l)) (upd (upd H l (.lst [])) a (ExtD a (vs ++ [en])))) := fun b u z => by
    obtain ⟨n, z⟩ := hd_some z
    refine (hd_not ?_).trans (keep b u (fun q => n (.inr ⟨i, by rw [q]; exact ha⟩)) z)
    rintro (m | ⟨j, m⟩)
    · exact n (.inl m)
    · rcases ghost_some hn m with q | ⟨j', q⟩
      · rw [q, nl] at z; cases z
      · exact n (.inr ⟨j', q⟩)
  have fin : OAs Y (gsl (ghost at_ ρ.length i l) ρ.length i) (hd (hid fo (ghost at_ ρ.length i l)) (upd (upd H l (.lst [])) a (ExtD a (vs ++ [en])))) (upd (upd H l (.lst [])) a (ExtD a (vs ++ [en]))) (vs ++ [en]) (es ++ [(k, [])]) := by
    refine OAs.snoc (l := l) (ws := []) (ds := []) (ke.mono fun _ _ z => vis _ _ z) ev ⟨0, ghost_0⟩ hl (Nat.zero_le _) rfl (fun e0 m z => ?_) (oa.mono (RLe.of_same vis) (fun x q => ghost_gs hi hi q) fun x u ⟨m, q⟩ z => keep x u (fun z2 => ?_) z)
    · obtain ⟨l0, ws, e1, _, e2⟩ := oa.mem e0 m
      rw [e1] at z
      cases z
      rw [nl] at e2; cases e2
    · have := E.dj _ i a (by rw [← z2]; exact q) ha
      have := mul_pos_le m ρ.length
      omega
  refine ⟨⟨fun b u z => ?_, ⟨fun b q => ?_, fun b xs q => ?_⟩, fun j1 j2 b h1 h2 => ?_, fun j b h q => ?_, fun j b h => ?_, by rw [List.length_set]; exact E.len, fun j b h hge => ?_, fun j x ex => ?_⟩, fin⟩
  · exact keep b u (fun q => by rw [q, E.nw i a ha] at z; cases z) (E.same b u z)
  · have n := E.fin b q
    cases z : H b with
    | none => exact absurd z n
    | some u => rw [keep b u (fun z2 => E.df i a ha (by rw [← z2]; exact q)) z]; exact fun z => nomatch z
  · have n := E.fin b q
    cases z : H b with
    | none => exact absurd z n
    | some u =>
      rw [keep b u (fun z2 => E.df i a ha (by rw [← z2]; exact q)) z]
      rw [← z]; exact E.fin.nt b xs q
  · have nol : ∀ j', at_ j' ≠ some l := fun j' z => E.al l (.inr ⟨j', z⟩) nl
    rcases ghost_from hn h1 with ⟨a1, b1⟩ | ⟨m1, a1, b1⟩ | ⟨a1, b1⟩ <;> rcases ghost_from hn h2 with ⟨a2, b2⟩ | ⟨m2, a2, b2⟩ | ⟨a2, b2⟩
    · rw [a1, a2]
    · exact absurd (by rw [← b1]; exact b2) (nol _)
    · exact absurd (by rw [← b1]; exact b2) (nol _)
    · exact absurd (by rw [← b2]; exact b1) (nol _)
    · have q := E.dj _ _ b b1 b2
      have q2 : (m1 + 1) * ρ.length = (m2 + 1) * ρ.length := by omega
      have e1 : (m1 + 1 + 1) * ρ.length = (m1 + 1) * ρ.length + ρ.length := Nat.succ_mul _ _
      have e2 : (m2 + 1 + 1) * ρ.length = (m2 + 1) * ρ.length + ρ.length := Nat.succ_mul _ _
      omega
    · exact absurd (E.dj _ _ b b1 b2).symm (a2 m1)
    · exact absurd (by rw [← b2]; exact b1) (nol _)
    · exact absurd (E.dj _ _ b b1 b2) (a1 m2)
    · exact E.dj _ _ b b1 b2
  · rcases ghost_some hn h with z | ⟨j', z⟩
    · exact E.fin b q (by rw [z]; exact nl)
    · exact E.df j' b z q
  · rcases ghost_some hn h with z | ⟨j', z⟩
    · rw [z]; exact E.same.free nl
    · exact E.nw j' b z
  · rw [List.length_set] at hge
    rcases ghost_from hn h with ⟨a1, b1⟩ | ⟨m1, a1, b1⟩ | ⟨a1, b1⟩
    · rw [b1, hl]; exact ⟨_, rfl, fun _ z => nomatch z⟩
    · have h3 := mul_pos_le m1 ρ.length
      obtain ⟨o, eo, no⟩ := E.gt _ b b1 (by omega)
      refine ⟨o, keep b o (fun z => ?_) eo, no⟩
      have := E.dj _ i a (by rw [← z]; exact b1) ha
      omega
    · obtain ⟨o, eo, no⟩ := E.gt _ b b1 hge
      refine ⟨o, keep b o (fun z => ?_) eo, no⟩
      have := E.dj _ i a (by rw [← z]; exact b1) ha
      omega
  · rw [List.length_set]
    by_cases hj : j = i
    · subst hj
      rw [List.getElem?_set_self hi] at ex
      cases ex
      rw [ghost_lt hi, ha, hs]
      refine ⟨a, vs ++ [en], rfl, rfl, upd_same, by rw [List.map_append, List.nodup_append]; exact ⟨nd, by simp, fun x hx y hy => by
        rw [List.mem_singleton.mp hy]; exact fun z => hk (by have z2 : x = k := z; rw [← z2]; exact hx)⟩, fin⟩
    · rw [List.getElem?_set_ne (Ne.symm hj)] at ex
      have hj2 : j < ρ.length := (List.getElem?_eq_some_iff.mp ex).1
      rw [ghost_lt hj2]
      refine (E.sl j x ex).mono vis (fun b u hb z => keep b u (fun z2 => hj (E.dj j i a (by rw [← z2]; exact hb) ha)) z) (fun x q => ghost_gs hi hj2 q) fun b u ⟨m, hb⟩ z => keep b u (fun z2 => ?_) z
      have := E.dj _ i a (by rw [← z2]; exact hb) ha
      have := mul_pos_le m ρ.length
      omega
/-- a list within the dict is changed -/
theorem EnvO.mutG (E : EnvO Y fo at_ B σ H ρ) {i j : Nat} {es : List (AK × List D)} {a l : Addr} {vs : List DictEntry} {en : DictEntry} {k : AK} {ws : List V} {ds : List D} (e : ρ[i]? = some (.oA es)) (ha : at_ i = some a) (hs : σ[i]? = some (some (.ref a))) (hH : H a = some (ExtD a vs)) (nd : (es.map (·.1)).Nodup)
    (oa : OAs Y (gsl at_ ρ.length i) (hd (hid fo at_) H) H vs es) (hj : vs[j]? = some en) (hk : (es.map (·.1))[j]? = some k) (ev : en.val = .ref l) (z : ws.length ≤ cap) (al : AtL Y (hd (hid fo at_) H) ws ds) :
    EnvO Y fo at_ B σ (upd H l (.lst ws)) (ρ.set i (.oA (es.set j (k, ds)))) := by
  have hi : i < ρ.length := (List.getElem?_eq_some_iff.mp e).1
  obtain ⟨l', _, _, _, e1, ⟨m0, hg⟩, _⟩ := oa.get hj hk
  have el : l' = l := by rw [ev] at e1; injection e1 with e1; exact e1.symm
  subst el
  have h0 := mul_pos_le m0 ρ.length
  have hh : hid fo at_ l' := .inr ⟨_, hg⟩
  have nla : a ≠ l' := fun q => by
    have := E.dj _ i a (by rw [q]; exact hg) ha
    omega
  refine ⟨fun b u q => ?_, ⟨fun b q => ?_, fun b xs q => ?_⟩, E.dj, E.df, E.nw, by rw [List.length_set]; exact E.len, fun j2 b h hge => ?_, fun j2 x ex => ?_⟩
  · rw [upd_ne (fun z => by rw [z, E.nw _ l' hg] at q; cases q)]; exact E.same b u q
  · rw [upd_ne (fun z => E.df _ l' hg (by rw [← z]; exact q))]; exact E.fin b q
  · rw [upd_ne (fun z => E.df _ l' hg (by rw [← z]; exact q))]; exact E.fin.nt b xs q
  · rw [List.length_set] at hge
    by_cases q : b = l'
    · rw [q, upd_same]; exact ⟨_, rfl, fun _ z => nomatch z⟩
    · rw [upd_ne q]; exact E.gt j2 b h hge
  · rw [hd_upd hh, List.length_set]
    by_cases hj2 : j2 = i
    · subst hj2
      rw [List.getElem?_set_self hi] at ex
      cases ex
      rw [ha, hs]
      refine ⟨a, vs, rfl, rfl, (upd_ne nla).trans hH, ?_, OAs.upd z al oa hj hk ev⟩
      rw [List.map_set]
      have : (es.map (·.1)).set j k = es.map (·.1) := by
        obtain ⟨hl, e3⟩ := List.getElem?_eq_some_iff.mp hk
        rw [← e3, List.set_getElem_self]
      rw [this]; exact nd
    · rw [List.getElem?_set_ne (Ne.symm hj2)] at ex
      have h2 : j2 < ρ.length := (List.getElem?_eq_some_iff.mp ex).1
      refine (E.sl j2 x ex).mono (Same.refl _) (fun b u hb z => ?_) (fun _ z => z) fun b u ⟨m, hb⟩ z => ?_
      · rw [upd_ne (fun q => ?_)]; exact z
        have := E.dj j2 _ l' (by rw [← q]; exact hb) hg
        omega
      · rw [upd_ne (fun q => ?_)]; exact z
        exact slot_ne hi h2 hj2 (E.dj _ _ l' (by rw [← q]; exact hb) hg)
end
end PL

/-! P22: dicts of owned lists: the mirrors. -/
namespace PL
open PySem PySem.Spec L2
def akD : D → Option AK
  | .non => some .non
  | .int i => some (.int i)
  | .tup ds => (intsD ds).map .tup
  | _ => none
def cO (s : Sl) : EF Sl := fun _ => .ok s
def ask0 (es : List (AK × List D)) (k : AK) : List (AK × List D) := if k ∈ es.map (·.1) then es else es ++ [(k, [])]
def askP (es : List (AK × List D)) (k : AK) (x : D) : List (AK × List D) := es.map fun p => if p.1 = k then (p.1, p.2 ++ [x]) else p
def askF (i : Nat) (fk fx : EF D) : SF := fun ρ => match ρ[i]? with
  | some (.oA es) => lf (fk ρ) ρ fun d => (match akD d with
    | some k => if es.length < cap then lf (fx (ρ.set i (.oA (ask0 es k)))) (ρ.set i (.oA (ask0 es k))) fun x => if ((ask0 es k).all fun p => decide (p.2.length < cap)) = true then some (.nx (ρ.set i (.oA (askP (ask0 es k) k x)))) else none else none
    | none => none)
  | _ => none
section
variable {X : Cx} {Y : Yx} {W : WX}
theorem akD_v {G : Hp} {y : V} {d : D} {k : AK} (e : akD d = some k) (a : At Y G y d) : AKv G k y := by
  cases d with
  | non => cases e; exact a
  | int i => cases e; exact a
  | tup ds =>
    have e2 : (intsD ds).map AK.tup = some k := e
    obtain ⟨ks, e3, rfl⟩ := Option.map_eq_some_iff.mp e2
    obtain ⟨b, vs, rfl, g, _, al⟩ := a
    exact ⟨b, rfl, by rw [← intsD_v e3 al]; exact g⟩
  | _ => cases e
theorem AKv.mono {G G' : Hp} {k : AK} {y : V} (h : ∀ a xs, G a = some (.tup xs) → G' a = some (.tup xs)) (r : AKv G k y) : AKv G' k y := by
  cases k with
  | non => exact r
  | int i => exact r
  | tup ks => obtain ⟨b, e1, e2⟩ := r; exact ⟨b, e1, h _ _ e2⟩
theorem po_dnewN {pos : Pos} : PE X (.Dict [] [] pos) (tO Y W (cO (.oA []))) := PE.imp pe_dnewN fun σ H Q ⟨fo, at_, B, ρ, E, h⟩ p np =>
  (h : Post Y W σ H (.ok (Sl.oA [])) _) _ (same_new np) (.ref p) (some p) (fun a e => by cases e; exact np) ⟨p, [], rfl, rfl, upd_same, .nil, rfl⟩ (fun z => nomatch z)
theorem po_dnewK {pos : Pos} : PE X (.Dict [] [] pos) (tO Y W (cO (.oK []))) := PE.imp pe_dnewK fun σ H Q ⟨fo, at_, B, ρ, E, h⟩ p np =>
  (h : Post Y W σ H (.ok (Sl.oK [])) _) _ (same_new np) (.ref p) (some p) (fun a e => by cases e; exact np) ⟨p, [], rfl, rfl, upd_same, rfl⟩ (fun z => nomatch z)
theorem po_dnewT {pos : Pos} : PE X (.Dict [] [] pos) (tO Y W (cO (.oT []))) := PE.imp pe_dnewT fun σ H Q ⟨fo, at_, B, ρ, E, h⟩ p np =>
  (h : Post Y W σ H (.ok (Sl.oT [])) _) _ (same_new np) (.ref p) (some p) (fun a e => by cases e; exact np) ⟨p, [], rfl, rfl, upd_same, rfl⟩ (fun z => nomatch z)
theorem ask0_len {es : List (AK × List D)} {k : AK} : es.length ≤ (ask0 es k).length := by
  unfold ask0; split
  · exact Nat.le_refl _
  · simp
/-- the list of a key gets one item more -/
theorem askP_set : ∀ {es : List (AK × List D)} {j : Nat} {k : AK} {ds : List D} {x : D}, (es.map (·.1)).Nodup → es[j]? = some (k, ds) → askP es k x = es.set j (k, ds ++ [x])
  | [], j, k, ds, x, _, h => by simp at h
  | p :: es, 0, k, ds, x, nd, h => by
    simp at h; subst h
    have nd2 := List.nodup_cons.mp nd
    unfold askP
    rw [List.map_cons, if_pos rfl, List.set_cons_zero]
    congr 1
    refine (List.map_congr_left fun q m => ?_).trans (List.map_id _)
    rw [if_neg fun z => nd2.1 (List.mem_map.mpr ⟨q, m, z⟩)]; rfl
  | p :: es, j + 1, k, ds, x, nd, h => by
    have h' : es[j]? = some (k, ds) := by simpa using h
    have nd2 := List.nodup_cons.mp nd
    unfold askP
    rw [List.map_cons, List.set_cons_succ, if_neg fun z => nd2.1 (List.mem_map.mpr ⟨_, List.mem_of_getElem? h', z.symm⟩)]
    congr 1
    exact askP_set nd2.2 h'
variable {o e x : Expr} {fk fx : EF D} {ap1 cp1 ap2 cp2 pos lp : Pos} {i : Nat}
theorem sx_ask (hu : X.A.units + 9 < cLine) (ho : PE X o (tVar i)) (he : PE X e (tE Y W fk)) (hx : PE X x (tE Y W fx)) (m : M2 X o "setdefault" ap1 e (.List [] lp) cp1)
    (hbase : attributeBase (.Call (.Attribute o "setdefault" ap1) [e, .List [] lp] [] cp1) "append" X.env (eval (.Call (.Attribute o "setdefault" ap1) [e, .List [] lp] [] cp1) X.env) = eval (.Call (.Attribute o "setdefault" ap1) [e, .List [] lp] [] cp1) X.env := by rfl)
    (hfew : ((backTo cp2 (starEach [x] X.env)).all (fun x => !x.1) && (backToKw cp2 (keywordEach [] X.env)).all (fun x => x.1.isSome)
      && decide (([x] : List Expr).length + ([] : List Keyword).length + (if ([] : List Keyword).isEmpty then 0 else 1) < 30)) = true := by rfl)
    (hline : (ap2.endLine == cp2.line) = true := by rfl) (hs : starEach [x] X.env = (false, eval x X.env) :: starEach [] X.env := by rfl) (hplain : (backTo cp2 (starEach [] X.env)).any (·.1) = false := by rfl)
    (hw : swapsWith (.Call (.Attribute (.Call (.Attribute o "setdefault" ap1) [e, .List [] lp] [] cp1) "append" ap2) [x] [] cp2) none pos.line X.env = pure false := by rfl) :
    PS X (.Expr (.Call (.Attribute (.Call (.Attribute o "setdefault" ap1) [e, .List [] lp] [] cp1) "append" ap2) [x] [] cp2) pos) (tS Y W (askF i fk fx)) :=
  PS.imp (ps_expr (pe_bm PySem.F.plainAttrs_list PySem.F.slot_list_append PySem.F.type_list_append mt_append (pe_setA hu ho he (pe_lst pa_nil) m) (pa_cons hx pa_nil hs) hbase hfew hline hs hplain) hw) fun Dn σ H ⟨fo, at_, B, ρ, E, h⟩ => by
    unfold askF at h
    cases es0 : ρ[i]? with
    | none => rw [es0] at h; exact h.elim
    | some sl =>
      rw [es0] at h
      cases sl with
      | oA es =>
        have hi : i < ρ.length := (List.getElem?_eq_some_iff.mp es0).1
        obtain ⟨a, vs, ha, hsv, hH, nd, oa⟩ := E.ownA es0
        refine ⟨.ref a, hsv, a, vs, rfl, .inl hH, fo, at_, B, ρ, E, (lf_post E h).mono fun d H1 s1 ⟨E1, h1⟩ y ay => ?_⟩
        cases ek : akD d with
        | none => rw [ek] at h1; exact h1.elim
        | some k =>
          rw [ek] at h1
          dsimp only at h1
          by_cases hc : es.length < cap
          case neg => rw [if_neg hc] at h1; exact h1.elim
          rw [if_pos hc] at h1
          refine ⟨Nat.zero_le _, fun p np => ?_⟩
          have sp : Same H1 (upd H1 p (.lst [])) := same_new np
          have E3 := E1.ext sp
          obtain ⟨a', vs', ha', hsv', hH', nd', oa'⟩ := E3.ownA es0
          rw [ha] at ha'; cases ha'
          have hH1 := s1 _ _ hH
          have hH3 : upd H1 p (.lst []) a = some (ExtD a vs) := sp _ _ hH1
          obtain ⟨a1, vs1, ha1, _, hH1', nd1, oa1⟩ := E1.ownA es0
          rw [ha] at ha1; cases ha1
          -- the entries as they stand
          have oaH : OAs Y (gsl at_ ρ.length i) (hd (hid fo at_) H1) H1 vs es := oa.mono (RLe.of_same (hd_same s1)) (fun _ z => z) fun l u _ z => s1 _ _ z
          have oa3 : OAs Y (gsl at_ ρ.length i) (hd (hid fo at_) (upd H1 p (.lst []))) (upd H1 p (.lst [])) vs es := oaH.mono (RLe.of_same (hd_same sp)) (fun _ z => z) fun l u _ z => sp _ _ z
          have kv : AKv (hd (hid fo at_) H1) k y := akD_v ek ay
          have lenV : vs.length = es.length := by have := Paired.length oa.ek; rw [List.length_map] at this; exact this
          have app : ∀ (at2 : Nat → Option Addr) (H4 : Hp) (es4 : List (AK × List D)) (vs4 : List DictEntry) (j : Nat) (en : DictEntry) (l : Addr), EnvO Y fo at2 B σ H4 (ρ.set i (.oA es4)) → es4 = ask0 es k → H4 a = some (ExtD a vs4) → at2 i = some a → (es4.map (·.1)).Nodup →
              OAs Y (gsl at2 ρ.length i) (hd (hid fo at2) H4) H4 vs4 es4 → vs4[j]? = some en → (es4.map (·.1))[j]? = some k → en.val = .ref l →
              tyV X.K "list" (.ref l) H4 ∧ tCons (tE Y W fx) tNil σ H4 fun xs H2 => rAppend (.ref l) xs H2 fun _ H5 => Dn.nx σ H5 := by
            intro at2 H4 es4 vs4 j en l E4 e4 hH4 ha4 nd4 oa4 hj hk ev
            obtain ⟨l2, ws, ds, g1, g2, g3, g4, g5, g6⟩ := oa4.get hj hk
            have el : l2 = l := by rw [ev] at g2; injection g2 with g2; exact g2.symm
            subst el
            rw [← e4] at h1
            refine ⟨.inl ⟨rfl, ws, SqL.of g4⟩, fo, at2, B, _, E4, (lf_post E4 h1).mono fun x H5 s5 ⟨E5, h5⟩ v av => ?_⟩
            by_cases ha2 : (es4.all fun p => decide (p.2.length < cap)) = true
            · rw [if_pos ha2] at h5
              have hl : ds.length < cap := of_decide_eq_true (List.all_eq_true.mp ha2 _ (List.mem_of_getElem? g1))
              have lw := g6.length
              refine ⟨l2, ws, v, rfl, rfl, s5 _ _ g4, by rw [← cap_eq]; omega, ?_⟩
              have lset : (ρ.set i (Sl.oA es4)).length = ρ.length := List.length_set
              have hs4 : σ[i]? = some (some (.ref a)) := hsv
              have oa5 : OAs Y (gsl at2 (ρ.set i (Sl.oA es4)).length i) (hd (hid fo at2) H5) H5 vs4 es4 := by
                rw [lset]
                exact oa4.mono (RLe.of_same (hd_same s5)) (fun _ z => z) fun _ _ _ z => s5 _ _ z
              have E6 := E5.mutG (ws := ws ++ [v]) (ds := ds ++ [x]) (List.getElem?_set_self hi) ha4 hs4 (s5 _ _ hH4) nd4 oa5 hj hk ev (by rw [List.length_append, List.length_singleton]; omega) ((g6.same (hd_same s5)).snoc av)
              rw [List.set_set, ← askP_set nd4 g1] at E6
              exact h5 at2 σ _ E6
            · rw [if_neg ha2] at h5; exact h5.elim
          refine ⟨vs, es.map (·.1), k, hH3, ⟨L2.Paired.mapP oa3.ek fun e k q => q.mono fun _ _ z => hd_le _ _ z, nd⟩, kv.mono fun _ _ z => sp _ _ (hd_le _ _ z), by rw [← cap_eq]; omega, fun j en h1j h2j => ?_, fun hnk en aen rz => ?_⟩
          · -- there
            obtain ⟨l, ws, ds, g1, g2, g3, g4, g5, g6⟩ := oa3.get h1j h2j
            have hk0 : k ∈ es.map (·.1) := List.mem_of_getElem? h2j
            have e0 : ask0 es k = es := if_pos hk0
            have eρ : ρ.set i (.oA es) = ρ := by
              obtain ⟨hl, e3⟩ := List.getElem?_eq_some_iff.mp es0
              rw [← e3, List.set_getElem_self]
            refine ⟨.ref l, g2, ?_⟩
            exact app at_ (upd H1 p (.lst [])) es vs j en l (by rw [eρ]; exact E3) e0.symm hH3 ha nd oa3 h1j h2j g2
          · -- new
            have ev : en.val = .ref p := rz
            have e0 : ask0 es k = es ++ [(k, [])] := if_neg hnk
            have pa : p ≠ a := fun z => by rw [z, hH1] at np; cases np
            have aen2 : AKe (hd (hid fo at_) H1) k en := by
              refine ⟨aen.1, ?_⟩
              cases k with
              | non => exact aen.2
              | int i => exact aen.2
              | tup ks =>
                obtain ⟨b, b1, b2⟩ := aen.2
                refine ⟨b, b1, (hd_not fun m => ?_).trans ?_⟩
                · have b3 : H1 b = some (.tup (ks.map V.int)) := by
                    by_cases z : b = p
                    · rw [z, upd_same] at b2; cases b2
                    · rw [upd_ne z] at b2; exact b2
                  exact E1.al.nt b _ m b3
                · by_cases z : b = p
                  · rw [z, upd_same] at b2; cases b2
                  · rw [upd_ne z] at b2; exact b2
            obtain ⟨E4, fin⟩ := E1.addA es0 ha hsv hH1 nd oaH np hnk aen2 ev
            have hg := ghost_lt (at_ := at_) (i := i) (l := p) hi
            obtain ⟨_, _, _, _, _, nd4, _⟩ := E4.ownA (List.getElem?_set_self hi)
            exact app _ _ (es ++ [(k, [])]) (vs ++ [en]) vs.length en p E4 e0.symm upd_same (by rw [hg]; exact ha) nd4 fin (by rw [List.getElem?_append_right (Nat.le_refl _), Nat.sub_self]; rfl) (by rw [List.map_append, List.getElem?_append_right (by rw [List.length_map]; omega), List.length_map, lenV, Nat.sub_self]; rfl) ev
      | _ => exact h.elim
end
end PL

/-! P23: sorted of lists and of dicts, any number of items. -/
namespace PL
open PySem PySem.Spec L2 PyProof.Rows
section
variable {X : Cx} {pins : List (Addr × Obj)} {σ : L2.St} {H : Hp} {s : Shared}
/-- sorted of what is collected -/
theorem sorted_src {r : Addr} {T : String} {d : Addr} {n : Nat} {Pr : Nat → Value → Prop} {OK : Heap → Prop} {ltv : Value → Value → Bool} {Q : VK} (K : PySem.W.KdlSrc X.prog X.w T r d n Pr OK) (I : L2.Inv X pins σ H s) (hc : X.calm = true) (ok : OK s.heap) (hn : n ≤ sizeLine) (O : SrtO.Swo ltv)
    (h : ∀ (h' : Heap) (tk : Nat) (acc : List Value), (∀ b u, s.heap.get? b = some u → h'.get? b = some u) → (acc.length = n ∧ ∀ j v, acc[j]? = some v → Pr j v) →
      (2 ≤ acc.length → ∀ (h₁ : Heap) (a : Addr), h₁.get? a = some (seqObj "list" acc.toArray 0) → (∀ b o, h'.get? b = some o → b ≠ a ∧ h₁.get? b = some o) → SrtO.SortableO X.prog X.w X.A.in1.in1 { s with heap := h₁, toks := tk } a acc ltv) ∧
      ∀ out : List Value, SrtO.Srtd ltv out → SrtO.Stb ltv out acc → ∃ ys, Vals ys out ∧ ∀ p, H p = none → Q (.ref p) (upd H p (.lst ys))) :
    wpAny (model X.prog X.w) X.A (call (.builtin "sorted") [.ref r]) (EP X pins σ Q) X.xe s := by
  refine Calls.call_function_entry PyProof.Rows.kind_sorted PyProof.Rows.plain_sorted PyProof.Rows.entry_sorted (PyProof.Rows.args_sorted1 _) ?_
  unfold Builtin.«sorted»
  refine wpAny_bind (m := checkCount "sorted" 1 1 _) (wpAny_pure ?_)
  refine wpAny_bind (PySem.W.kdu_collect (A := X.A.in1) K (I.ok.hd hc) ok hn fun h' tk acc hk hacc => ?_)
  have hal : acc.toList.length = n := by rw [Array.length_toList, hacc.1]
  obtain ⟨hS, hQ⟩ := h h' tk acc.toList hk ⟨hal, fun j v e => hacc.2 j v (by rw [← Array.getElem?_toList]; exact e)⟩
  have I1 : L2.Inv X pins σ H { s with heap := h', toks := tk } := I.kept hk
  refine wpAny_bind (wpAny_newList ?_ (by rw [hal]; exact hn))
  have hoL : (h'.push (seqObj "list" acc.toList.toArray 0)).get? h'.objs.size = some (seqObj "list" acc.toList.toArray 0) := Heap.get?_push_size _ rfl
  have keep : ∀ b o, h'.get? b = some o → b ≠ h'.objs.size ∧ (h'.push (seqObj "list" acc.toList.toArray 0)).get? b = some o := fun b o e => ⟨Nat.ne_of_lt (Heap.lt_size e), Heap.get?_push_of_some _ e⟩
  show wpAny _ _ _ _ _ { s with heap := h'.push (seqObj "list" acc.toList.toArray 0), toks := tk }
  refine wpAny_bind (wpAny_holding (wpAny_call_entry PyProof.Rows.slot_list_sort ⟨_, hoL, rfl⟩ PyProof.Rows.entry_list_sort
    (SrtO.list_sort_ord (s := { s with heap := h'.push (seqObj "list" acc.toList.toArray 0), toks := tk }) O hoL (by rw [hal]; exact hn) (fun h2 => hS h2 _ _ hoL keep) fun out g1 g2 => ⟨_, rfl, ?_⟩) (PyProof.Rows.args_list_sort _)))
  obtain ⟨e', he'⟩ := PyProof.Rows.sortedHeap_at (vs := acc.toList) (out := out.toArray) hoL
  obtain ⟨ys, rv, q⟩ := hQ out g1 g2
  have hlen : ys.length ≤ sizeLine := by
    rw [rv.length, g2.len, hal]; exact hn
  refine wpAny_pure ⟨_, rfl, .ref h'.objs.size, upd H h'.objs.size (.lst ys), I1.laid (t' := tk) (fun b u e => ?_) (Nat.le_refl _)
    (show ObjOk X.prog X.w _ _ _ (.lst ys) from ⟨hlen, out, e', rv, he'⟩), rfl, q _ (I1.hok.fresh (Nat.le_refl _))⟩
  have hb : b < h'.objs.size := Heap.lt_size e
  rw [PyProof.Rows.sortedHeap_old (Nat.ne_of_lt hb) (by rw [size_push']; exact Nat.lt_succ_of_lt hb)]
  exact Heap.get?_push_of_some _ e

/-- sorted(d), the keys whole numbers -/
def rSortDK : List V → Hp → VK → Prop := fun xs H Q => ∃ (a : Addr) (kvs : List (Key × V)) (ks : List Int), xs = [V.ref a] ∧ Rd H a (.dK kvs) ∧ kvs.map (·.1) = ks.map Sum.inl ∧ ∀ ys : List Int, ys.Perm ks → ys.Pairwise (· ≤ ·) → ∀ p, H p = none → Q (.ref p) (upd H p (.lst (ys.map V.int)))
theorem cr_sortDK (hc : X.calm = true) : CallR X (.builtin "sorted") rSortDK := by
  intro pins s σ H xs us Q I r q
  obtain ⟨a, kvs, ks, rfl, hd, hks, q⟩ := q
  obtain ⟨u, rfl, rx⟩ := vals1 r
  cases rx
  obtain ⟨z, lo, vs, rel, dd⟩ := dk_rd I.hok hd
  obtain ⟨ep, hat⟩ := dd.dictAt
  have hkeys : vs.map (·.1) = ks.map Sum.inl := rel.keys.symm.trans hks
  have hl : vs.length = ks.length := by
    have e := congrArg List.length hkeys
    rw [List.length_map, List.length_map] at e
    exact e
  have h16 : vs.length ≤ sizeLine := by rw [← rel.length]; exact z
  refine sorted_src (PySem.W.kdl_dict (knd := mixKind X.prog X.w) (kvs := vs) (ep := ep) lo) I hc hat h16 SrtO.swo_int fun h' tk acc hk hacc => ?_
  have hS : IntsAre acc ks := ints_each (by rw [hacc.1, hl]) fun j v e => by
    obtain ⟨k, x, e1, e2⟩ := hacc.2 j v e
    have e3 : (vs.map (·.1))[j]? = some k := by rw [List.getElem?_map, e1]; rfl
    rw [hkeys, List.getElem?_map] at e3
    cases e4 : ks[j]? with
    | none => rw [e4] at e3; cases e3
    | some y =>
      rw [e4] at e3
      have e5 : Sum.inl y = k := Option.some.inj e3
      subst e5
      rcases keyIs_shape (show keyIs (Sum.inl y) v = true from e2) with ⟨i, t, ek, ev⟩ | ⟨z, t, ek, ev⟩
      · cases ek
        exact ⟨y, t, rfl, ev⟩
      · cases ek
  refine ⟨fun h2 h₁ a _ _ => SrtO.ints_sortable hS h2, fun out h1 h2 => ?_⟩
  obtain ⟨k1, k2, k3⟩ := SrtO.ints_out hS h1 h2
  exact ⟨_, vals_of_ints k1, fun p np => q _ k2 k3 p np⟩
def pairAt (H : Hp) (v : V) : Int × Int := match v with
  | .ref b => (match H b with
    | some (.tup [.int i, .int j]) => (i, j)
    | _ => (0, 0))
  | _ => (0, 0)
/-- what sorted tells of pairs -/
def SortedPs (H : Hp) (Q : VK) (ks : List (Int × Int)) : Prop := ∀ (ys : List V) (kk : V → Int × Int), (∀ y ∈ ys, ∃ t, y = V.ref t ∧ H t = some (.tup [.int (kk y).1, .int (kk y).2])) → (ys.map kk).Perm ks → (ys.map kk).Pairwise (fun p q => SrtO.lexB q p = false) → ∀ p, H p = none → Q (.ref p) (upd H p (.lst ys))
def rSortDT : List V → Hp → VK → Prop := fun xs H Q => ∃ (a : Addr) (kvs : List (List Key × V)) (ks : List (Int × Int)), xs = [V.ref a] ∧ Rd H a (.dT kvs) ∧ kvs.map (·.1) = ks.map (fun p => [Sum.inl p.1, Sum.inl p.2]) ∧ SortedPs H Q ks
theorem cr_sortDT (hc : X.calm = true) : CallR X (.builtin "sorted") rSortDT := by
  intro pins s σ H xs us Q I r q
  obtain ⟨a, kvs, ks, rfl, hd, hks, q⟩ := q
  obtain ⟨u, rfl, rx⟩ := vals1 r
  cases rx
  obtain ⟨z, lo, ys, rel, dd⟩ := dt_rd I.hok hd
  obtain ⟨es, ep, hraw, hsz, hent⟩ := dd.raw
  have ly : ys.length = kvs.length := (Paired.length rel).symm
  have lk : ks.length = kvs.length := by have := congrArg List.length hks; rw [List.length_map, List.length_map] at this; exact this.symm
  -- where the keys stand
  have key : ∀ (j : Nat) (y : List Key × Addr × Value), ys[j]? = some y → ∃ p, ks[j]? = some p ∧ H y.2.1 = some (.tup [.int p.1, .int p.2]) := by
    have go : ∀ {kvs : List (List Key × V)} {ys : List (List Key × Addr × Value)} {ks : List (Int × Int)}, KT H kvs ys → kvs.map (·.1) = ks.map (fun p => [Sum.inl p.1, Sum.inl p.2]) → ∀ (j : Nat) (y : List Key × Addr × Value), ys[j]? = some y → ∃ p, ks[j]? = some p ∧ H y.2.1 = some (.tup [.int p.1, .int p.2]) := by
      intro kvs ys ks r
      induction r generalizing ks with
      | nil => intro _ j y e; simp at e
      | @cons a b as bs h t ih =>
        intro e j y ey
        cases ks with
        | nil => simp at e
        | cons k ks =>
          rw [List.map_cons, List.map_cons] at e
          injection e with e1 e2
          cases j with
          | zero =>
            simp at ey; subst ey
            exact ⟨k, rfl, by rw [h.2.1, e1]; rfl⟩
          | succ j => obtain ⟨p, h1, h2⟩ := ih e2 j y (by simpa using ey); exact ⟨p, by simpa using h1, h2⟩
    exact go rel hks
  refine sorted_src (KdlSrc.rawDict (es := es) (ep := ep) lo) I hc hraw (by rw [hsz, ly]; exact z) (SrtO.swo_lex fun v => pairAt H (backV v)) fun h' tk acc hk hacc => ?_
  have la : acc.length = ks.length := by rw [hacc.1, hsz, ly, lk]
  have item : ∀ (j : Nat) v, acc[j]? = some v → ∃ b p, v = Value.ref b ∧ ks[j]? = some p ∧ H b = some (.tup [.int p.1, .int p.2]) := fun j v e => by
    obtain ⟨hi, ev⟩ := hacc.2 j v e
    obtain ⟨y, hy, e1, _, _⟩ := hent j hi
    obtain ⟨p, hp, hH⟩ := key j y hy
    exact ⟨y.2.1, p, by rw [ev, e1], hp, hH⟩
  have mem : ∀ v ∈ acc, ∃ b p, v = Value.ref b ∧ H b = some (.tup [.int p.1, .int p.2]) ∧ pairAt H (backV v) = p := fun v m => by
    obtain ⟨j, hj⟩ := List.mem_iff_getElem?.mp m
    obtain ⟨b, p, e1, _, e3⟩ := item j v hj
    refine ⟨b, p, e1, e3, ?_⟩
    subst e1
    show pairAt H (.ref b) = p
    unfold pairAt
    simp only [e3]
  have hmap : acc.map (fun v => pairAt H (backV v)) = ks := by
    apply List.ext_getElem?
    intro j
    rw [List.getElem?_map]
    cases e : acc[j]? with
    | none =>
      rw [List.getElem?_eq_none_iff] at e
      rw [List.getElem?_eq_none (by omega)]; rfl
    | some v =>
      obtain ⟨b, p, e1, e2, e3⟩ := item j v e
      rw [e2]
      subst e1
      show some (pairAt H (.ref b)) = _
      unfold pairAt
      simp only [e3]
  refine ⟨fun h2 h₁ a ha kk => SrtO.pairs_sortableO (by omega) (fun v m => ?_) fun o e => ?_, fun out h1 h2 => ?_⟩
  · obtain ⟨b, p, e1, e2, e3⟩ := mem v m
    rw [e3]
    obtain ⟨_, its2, r2, o, ho, hcl, n, hdd⟩ := (show ObjOk X.prog X.w H s.heap b (.tup [.int p.1, .int p.2]) from I.hok _ _ e2)
    obtain ⟨u1, u2, rfl, ri, rj⟩ := vals2 r2
    obtain ⟨t1, rfl⟩ := ri
    obtain ⟨t2, rfl⟩ := rj
    exact ⟨b, o, t1, t2, n, e1, (kk b o (hk b o ho)).2, hcl, hdd⟩
  · have e' : some o = some (seqObj "list" acc.toArray 0) := e.symm.trans ha
    cases e'
    intro c
    exact absurd (Value.type.inj c) (by decide)
  · have pm := h2.perm
    have h3 : ∀ u ∈ out, ∃ a, u = Value.ref a := fun u hu => by
      obtain ⟨b, p, e1, _⟩ := mem u (pm.mem_iff.mp hu)
      exact ⟨b, e1⟩
    have hm2 : (out.map backV).map (pairAt H) = out.map (fun v => pairAt H (backV v)) := by rw [List.map_map]; rfl
    refine ⟨out.map backV, vals_back h3, fun p np => q (out.map backV) (pairAt H) (fun y m => ?_) (by rw [hm2, ← hmap]; exact pm.map _) (by rw [hm2]; exact List.pairwise_map.mpr h1) p np⟩
    obtain ⟨u, hu, rfl⟩ := List.mem_map.mp m
    obtain ⟨b, pr, e1, e2, e3⟩ := mem u (pm.mem_iff.mp hu)
    rw [e3]
    subst e1
    exact ⟨b, rfl, e2⟩
/-- sorted of a list of pairs -/
def rSortLP (K : PySem.W.Frag) : List V → Hp → VK → Prop := fun xs H Q => ∃ (a : Addr) (vs : List V) (ks : List (Int × Int)), xs = [V.ref a] ∧ SqL K H a vs ∧ Paired (fun v k => ∃ t, v = V.ref t ∧ H t = some (.tup [.int k.1, .int k.2])) vs ks ∧ SortedPs H Q ks
theorem cr_sortLP : CallR X (.builtin "sorted") (rSortLP X.K) := by
  intro pins s σ H xs us Q I r h
  obtain ⟨a, vs, ks, rfl, sq, pr, q⟩ := h
  have kk : ∀ v k, (∃ t, v = V.ref t ∧ H t = some (.tup [.int k.1, .int k.2])) → pairAt H v = k := fun v k ⟨t, e, ht⟩ => by
    subst e
    unfold pairAt
    simp only [ht]
  have go : ∀ {vs : List V} {ks : List (Int × Int)}, Paired (fun v k => ∃ t, v = V.ref t ∧ H t = some (.tup [.int k.1, .int k.2])) vs ks → vs.map (pairAt H) = ks ∧ ∀ x ∈ vs, ∃ t, x = V.ref t ∧ H t = some (.tup [.int (pairAt H x).1, .int (pairAt H x).2]) := by
    intro vs ks r
    induction r with
    | nil => exact ⟨rfl, fun _ m => nomatch m⟩
    | @cons v k vs ks h t ih =>
      refine ⟨by rw [List.map_cons, kk v k h, ih.1], fun x m => ?_⟩
      rcases List.mem_cons.mp m with e | m
      · subst e; rw [kk x k h]; exact h
      · exact ih.2 x m
  obtain ⟨g1, g2⟩ := go pr
  refine cr_sortedPO pins s σ H _ us Q I r ⟨a, vs, pairAt H, rfl, sq, g2, fun ys p h1 h2 np => ?_⟩
  refine q ys (pairAt H) (fun y m => g2 y (h2.perm.mem_iff.mp m)) (by rw [← g1]; exact h2.perm.map _) (List.pairwise_map.mpr h1) p np
end
theorem two_le_cap : (2 : Nat) ≤ cap := by unfold cap; omega
/-! ### the mirror -/
def sortI (ks : List Int) : List Int := ks.mergeSort fun a b => decide (a ≤ b)
def leP (p q : Int × Int) : Bool := !SrtO.lexB q p
def sortP (ks : List (Int × Int)) : List (Int × Int) := ks.mergeSort leP
theorem sortI_perm {ks : List Int} : (sortI ks).Perm ks := List.mergeSort_perm ..
theorem sortI_pw {ks : List Int} : (sortI ks).Pairwise (· ≤ ·) := by
  have h := List.pairwise_mergeSort (le := fun (a b : Int) => decide (a ≤ b)) (fun a b c h1 h2 => decide_eq_true (Int.le_trans (of_decide_eq_true h1) (of_decide_eq_true h2))) (fun a b => by
    rcases Int.le_total a b with h | h <;> simp [h]) ks
  exact h.imp fun {a b} q => of_decide_eq_true q
theorem sortI_uniq {ks ys : List Int} (h1 : ys.Perm ks) (h2 : ys.Pairwise (· ≤ ·)) : ys = sortI ks := List.Perm.eq_of_pairwise (le := (· ≤ ·)) (fun a b _ _ x y => Int.le_antisymm x y) h2 sortI_pw (h1.trans sortI_perm.symm)
theorem leP_iff {p q : Int × Int} : leP p q = true ↔ p.1 < q.1 ∨ (p.1 = q.1 ∧ p.2 ≤ q.2) := by
  unfold leP
  rw [Bool.not_eq_true', SrtO.lexB_no]
  omega
theorem sortP_perm {ks : List (Int × Int)} : (sortP ks).Perm ks := List.mergeSort_perm ..
theorem sortP_pw {ks : List (Int × Int)} : (sortP ks).Pairwise fun p q => leP p q = true := List.pairwise_mergeSort (fun a b c h1 h2 => by rw [leP_iff] at *; omega) (fun a b => by rw [Bool.or_eq_true, leP_iff, leP_iff]; omega) ks
theorem sortP_uniq {ks ys : List (Int × Int)} (h1 : ys.Perm ks) (h2 : ys.Pairwise fun p q => leP p q = true) : ys = sortP ks := List.Perm.eq_of_pairwise (le := fun p q => leP p q = true) (fun a b _ _ x y => by
  rw [leP_iff] at x y; exact Prod.ext (by omega) (by omega)) h2 sortP_pw (h1.trans sortP_perm.symm)
def pairOf : D → Option (Int × Int)
  | .tup [.int i, .int j] => some (i, j)
  | _ => none
def pairsOf : List D → Option (List (Int × Int))
  | [] => some []
  | d :: ds => (pairOf d).bind fun p => (pairsOf ds).map (p :: ·)
def pairT (p : Int × Int) : D := .tup [.int p.1, .int p.2]
def keyInts : List (Key × D) → Option (List Int)
  | [] => some []
  | (.inl i, _) :: r => (keyInts r).map (i :: ·)
  | _ => none
def keyPairs : List (List Key × D) → Option (List (Int × Int))
  | [] => some []
  | ([.inl i, .inl j], _) :: r => (keyPairs r).map ((i, j) :: ·)
  | _ => none
def sortedD : List D → Option Sl
  | [.lst xs] => (match intsD xs with
    | some ns => if ns.length ≤ cap then some (.ol ((sortI ns).map .int)) else none
    | none => (pairsOf xs).bind fun ps => if ps.length ≤ cap then some (.ol ((sortP ps).map pairT)) else none)
  | [.dK kvs] => (keyInts kvs).bind fun ns => if ns.length ≤ cap then some (.ol ((sortI ns).map .int)) else none
  | [.dT kvs] => (keyPairs kvs).bind fun ps => if ps.length ≤ cap then some (.ol ((sortP ps).map pairT)) else none
  | _ => none
def rSortAll (K : PySem.W.Frag) : List V → Hp → VK → Prop := fun xs H Q => rSortedI K xs H Q ∨ (rSortLP K xs H Q ∨ (rSortDK xs H Q ∨ rSortDT xs H Q))
theorem o_sorted {X : Cx} (hc : X.calm = true) : CallR X (.builtin "sorted") (rSortAll X.K) := cr_sortedI.or (cr_sortLP.or ((cr_sortDK hc).or (cr_sortDT hc)))
section
variable {Y : Yx}
theorem at_ints_new {h : Addr → Prop} {H : Hp} {p : Addr} {ns : List Int} (al : Al h H) (np : H p = none) (z : ns.length ≤ cap) : SlR Y noG (hd (fun b => h b ∨ some p = some b) (upd H p (.lst (ns.map V.int)))) (upd H p (.lst (ns.map V.int))) (some (.ref p)) (.ol (ns.map .int)) (some p) :=
  sl_newL al np (by rw [List.length_map]; exact z) (at_ints ns)
theorem keyInts_v {G : Hp} : ∀ {kvs : List (Key × D)} {ns : List Int} {xs : List (Key × V)}, keyInts kvs = some ns → AtK Y G xs kvs → xs.map (·.1) = ns.map Sum.inl
  | [], ns, xs, e, a => by cases e; cases (show xs = [] from a); rfl
  | (.inl i, d) :: r, ns, xs, e, ⟨v, q, ex, av, t⟩ => by
    subst ex
    obtain ⟨ms, e1, e2⟩ := Option.map_eq_some_iff.mp (show (keyInts r).map (i :: ·) = some ns from e)
    subst e2
    rw [List.map_cons, List.map_cons, keyInts_v e1 t]
  | (.inr _, _) :: _, _, _, e, _ => by cases e
theorem keyPairs_v {G : Hp} : ∀ {kvs : List (List Key × D)} {ns : List (Int × Int)} {xs : List (List Key × V)}, keyPairs kvs = some ns → AtT Y G xs kvs → xs.map (·.1) = ns.map fun p => [Sum.inl p.1, Sum.inl p.2]
  | [], ns, xs, e, a => by cases e; cases (show xs = [] from a); rfl
  | (k, d) :: r, ns, xs, e, ⟨v, q, ex, av, t⟩ => by
    subst ex
    match k, e with
    | [.inl i, .inl j], e =>
      obtain ⟨ms, e1, e2⟩ := Option.map_eq_some_iff.mp (show (keyPairs r).map ((i, j) :: ·) = some ns from e)
      subst e2
      rw [List.map_cons, List.map_cons, keyPairs_v e1 t]
theorem pairsOf_v {h : Addr → Prop} {H : Hp} : ∀ {ds : List D} {ps : List (Int × Int)} {vs : List V}, pairsOf ds = some ps → AtL Y (hd h H) vs ds → Paired (fun v k => ∃ t, v = V.ref t ∧ H t = some (.tup [.int k.1, .int k.2])) vs ps
  | [], ps, vs, e, a => by cases e; cases (show vs = [] from a); exact .nil
  | d :: ds, ps, vs, e, ⟨v, r, ev, q, t⟩ => by
    subst ev
    unfold pairsOf at e
    obtain ⟨p, e1, e2⟩ := Option.bind_eq_some_iff.mp e
    obtain ⟨ms, e3, e4⟩ := Option.map_eq_some_iff.mp e2
    subst e4
    match d, e1, q with
    | .tup [.int i, .int j], e1, q =>
      cases e1
      obtain ⟨c, us, rfl, g, _, au⟩ := q
      obtain ⟨u1, u2, rfl, a1, a2⟩ := args2 au
      cases (show u1 = _ from a1); cases (show u2 = _ from a2)
      exact .cons ⟨c, rfl, hd_le _ _ g⟩ (pairsOf_v e3 t)
theorem at_pairs {h : Addr → Prop} {H : Hp} (al : Al h H) {kk : V → Int × Int} : ∀ {ys : List V}, (∀ y ∈ ys, ∃ t, y = V.ref t ∧ H t = some (.tup [.int (kk y).1, .int (kk y).2])) → AtL Y (hd h H) ys ((ys.map kk).map pairT)
  | [], _ => rfl
  | y :: ys, hy => by
    obtain ⟨t, e, ht⟩ := hy y (List.mem_cons_self ..)
    refine ⟨y, ys, rfl, ⟨t, [.int (kk y).1, .int (kk y).2], e, (hd_not fun m => al.nt t _ m ht).trans ht, two_le_cap, .two rfl rfl⟩, at_pairs al fun z m => hy z (List.mem_cons_of_mem _ m)⟩
theorem sortedPs_v {h : Addr → Prop} {H : Hp} {ps : List (Int × Int)} {Q : VK} (al : Al h H) (z : ps.length ≤ cap) (q : ∀ v H' oa, Same H H' → (∀ a, oa = some a → H a = none) → SlR Y noG (hd (fun a => h a ∨ oa = some a) H') H' (some v) (.ol ((sortP ps).map pairT)) oa → Sl.ol ((sortP ps).map pairT) ≠ .no → Q v H') : SortedPs H Q ps := fun ys kk hy pm pw p np => by
  have e : ys.map kk = sortP ps := sortP_uniq pm (pw.imp fun {a b} h => by unfold leP; rw [h]; rfl)
  have a := at_pairs (Y := Y) al hy
  rw [e] at a
  refine q _ _ (some p) (same_new np) (fun a e => by cases e; exact np) (sl_newL al np ?_ a) (fun z => nomatch z)
  rw [List.length_map, sortP_perm.length_eq]; exact z
theorem v_sorted : VCo Y (rSortAll Y.K) sortedD := fun hh H xs ds s Q al a z q => by
  match ds, z, a with
  | [.lst ys], z, a =>
    obtain ⟨x, rfl, ax⟩ := args1 a
    obtain ⟨r, vs, rfl, g, sq, ln, zc, av⟩ := at_seqL ax
    unfold sortedD at z
    dsimp only at z
    cases e : intsD ys with
    | some ns =>
      rw [e] at z
      dsimp only at z
      split at z
      · rename_i hz
        cases z
        refine .inl ⟨r, ns, rfl, by rw [← intsD_v e av]; exact sq, fun ns' p pm pw np => ?_⟩
        rw [sortI_uniq pm pw]
        exact q _ _ (some p) (same_new np) (fun a e => by cases e; exact np) (at_ints_new al np (by rw [sortI_perm.length_eq]; exact hz)) (fun z => nomatch z)
      · cases z
    | none =>
      rw [e] at z
      obtain ⟨ps, e1, e2⟩ := Option.bind_eq_some_iff.mp z
      split at e2
      · rename_i hz
        cases e2
        exact .inr (.inl ⟨r, vs, ps, rfl, sq, pairsOf_v e1 av, sortedPs_v al hz q⟩)
      · cases e2
  | [.dK kvs], z, a =>
    obtain ⟨x, rfl, ax⟩ := args1 a
    obtain ⟨r, vs, rfl, g, av⟩ := at_K ax
    obtain ⟨ns, e1, e2⟩ := Option.bind_eq_some_iff.mp (show (keyInts kvs).bind _ = some s from z)
    split at e2
    · rename_i hz
      cases e2
      refine .inr (.inr (.inl ⟨r, vs, ns, rfl, g, keyInts_v e1 av, fun ys pm pw p np => ?_⟩))
      rw [sortI_uniq pm pw]
      exact q _ _ (some p) (same_new np) (fun a e => by cases e; exact np) (at_ints_new al np (by rw [sortI_perm.length_eq]; exact hz)) (fun z => nomatch z)
    · cases e2
  | [.dT kvs], z, a =>
    obtain ⟨x, rfl, ax⟩ := args1 a
    obtain ⟨r, vs, rfl, g, av⟩ := ax
    obtain ⟨ps, e1, e2⟩ := Option.bind_eq_some_iff.mp (show (keyPairs kvs).bind _ = some s from z)
    split at e2
    · rename_i hz
      cases e2
      exact .inr (.inr (.inr ⟨r, vs, ps, rfl, (RLe.of_same hd_le).rd (fun _ _ e => nomatch e) g, keyPairs_v e1 av, sortedPs_v al hz q⟩))
    · cases e2
end
end PL

/-! P24: more operations: get, dicts stored and cleared, dict(..) of tuple keys, bit_length, split, upper, index, reversed. -/
namespace PL
open PySem PySem.Spec L2
section
variable {X : Cx} {Y : Yx} {W : WX} {o e x : Expr} {f fk fx : EF D} {apos cpos pos pos' : Pos}
/-! ### d.get(k, x) -/
def getD3 (d k x : D) : Option D := match d with
  | .dN kvs => (akD k).map fun k => (lk kvs k).getD x
  | d => (dk d k).map fun o => o.getD x
def okDc : D → Bool
  | .dN _ => true
  | .dK _ => true
  | .dT _ => true
  | _ => false
@[simp] def get3 (f fk fx : EF D) : EF D := fun ρ => (f ρ).bind fun d => if okDc d = true then (fk ρ).bind fun k => (fx ρ).bind fun x => ofO (getD3 d k x) else .bad
theorem AtN.get {G : Hp} : ∀ {es : List DictEntry} {kvs : List (AK × D)} {j : Nat} {e : DictEntry} {k : AK}, AtN Y G es kvs → (kvs.map (·.1)).Nodup → es[j]? = some e → (kvs.map (·.1))[j]? = some k → ∃ d v, lk kvs k = some d ∧ RelV v e.val ∧ At Y G v d
  | _, [], j, e, k, a, nd, h1, h2 => by simp at h2
  | _, (k0, d0) :: r, 0, e, k, ⟨v, e0, q, ex, ke, rv, av, t⟩, nd, h1, h2 => by
    subst ex
    simp at h1 h2; subst h1; subst h2
    exact ⟨d0, v, by rw [lk_cons, if_pos rfl], rv, av⟩
  | _, (k0, d0) :: r, j + 1, e, k, ⟨v, e0, q, ex, ke, rv, av, t⟩, nd, h1, h2 => by
    subst ex
    have nd2 := List.nodup_cons.mp nd
    have h2' : (r.map (·.1))[j]? = some k := by simpa using h2
    obtain ⟨d, w, e1, e2, e3⟩ := AtN.get t nd2.2 (j := j) (by simpa using h1) h2'
    exact ⟨d, w, by rw [lk_cons, if_neg fun z => nd2.1 (by have z2 : k0 = k := z; rw [← z2] at h2'; exact List.mem_of_getElem? h2')]; exact e1, e2, e3⟩
theorem AtN.ek {G : Hp} : ∀ {es : List DictEntry} {kvs : List (AK × D)}, AtN Y G es kvs → Paired (fun e k => AKe G k e) es (kvs.map (·.1))
  | _, [], a => by cases (show _ = [] from a); exact .nil
  | _, (k0, d0) :: r, ⟨v, e0, q, ex, ke, rv, av, t⟩ => by subst ex; exact .cons ke (AtN.ek t)
theorem lk_not {κ α : Type} [DecidableEq κ] : ∀ {kvs : List (κ × α)} {k : κ}, k ∉ kvs.map (·.1) → lk kvs k = none
  | [], k, _ => rfl
  | p :: r, k, h => by
    rw [List.map_cons, List.mem_cons, not_or] at h
    rw [lk_cons, if_neg fun z => h.1 z.symm]
    exact lk_not h.2
theorem px_get3 (hu : X.A.units + 65 < cLine) (ho : PE X o (tE Y W f)) (he : PE X e (tE Y W fk)) (hx : PE X x (tE Y W fx)) (m : M2 X o "get" apos e x cpos) : PE X (.Call (.Attribute o "get" apos) [e, x] [] cpos) (tE Y W (get3 f fk fx)) :=
  PE.imp (PE.or (pe_dget2 (by omega) ho he hx m) (pe_getA (by omega) ho he hx m)) fun σ H Q ⟨fo, at_, B, ρ, E, h⟩ => by
    unfold get3 at h
    cases ef : f ρ with
    | bad => rw [ef] at h; exact h.elim
    | ex c ps => rw [ef] at h; exact .inl ⟨fo, at_, B, ρ, E, by rw [ef]; exact h⟩
    | ok d =>
      rw [ef, bind_ok] at h
      by_cases hN : ∃ kvs, d = .dN kvs
      · obtain ⟨kvs, rfl⟩ := hN
        rw [if_pos (show okDc (.dN kvs) = true from rfl)] at h
        refine .inr ⟨fo, at_, B, ρ, E, ?_⟩
        rw [ef]
        intro H1 s1 v a
        obtain ⟨p, es, rfl, rd, nd, an⟩ := a
        refine ⟨p, es, rfl, (RLe.of_same hd_le).rd (fun _ _ e => by unfold ExtD at e; cases e) rd, fo, at_, B, ρ, E.ext s1, (Post.bind (Post.ext s1 h)).mono fun kd H2 s2 h2 y ay => ⟨fo, at_, B, ρ, (E.ext s1).ext s2, (Post.bind h2).mono fun xd H3 s3 h3 z az => ?_⟩⟩
        obtain ⟨c, ec, h4⟩ := Post.op h3
        obtain ⟨k, ek, rfl⟩ := Option.map_eq_some_iff.mp (show (akD kd).map (fun k => (lk kvs k).getD xd) = some c from ec)
        have rd3 : Rd H3 p (ExtD p es) := (RLe.of_same (hd_le.trans (s2.trans s3))).rd (fun _ _ e => by unfold ExtD at e; cases e) rd
        have an3 : AtN Y (hd (hid fo at_) H3) es kvs := an.same (hd_same (s2.trans s3))
        refine ⟨es, kvs.map (·.1), k, rd3, ⟨L2.Paired.mapP an3.ek fun e k q => q.mono fun _ _ z => hd_le _ _ z, nd⟩, (akD_v ek ay).mono fun _ _ z => s3 _ _ (hd_le _ _ z), fun j en h1 h2 => ?_, fun hk => ?_⟩
        · obtain ⟨d, w, e1, e2, e3⟩ := an3.get nd h1 h2
          exact ⟨w, e2, h4 H3 (Same.refl H3) w (by rw [e1]; exact e3)⟩
        · exact h4 H3 (Same.refl H3) z (by rw [lk_not hk]; exact az)
      · refine .inl ⟨fo, at_, B, ρ, E, ?_⟩
        rw [ef]
        intro H1 s1 v a
        have isd : (∃ kvs, d = .dK kvs) ∨ (∃ kvs, d = .dT kvs) → ∃ p, v = .ref p ∧ IsD H1 p := fun q => by
          rcases q with ⟨kvs, rfl⟩ | ⟨kvs, rfl⟩
          · obtain ⟨p, xs, rfl, rd, _⟩ := a
            exact ⟨p, rfl, .inl ⟨xs, (RLe.of_same hd_le).rd (fun _ _ e => nomatch e) rd⟩⟩
          · obtain ⟨p, xs, rfl, rd, _⟩ := a
            exact ⟨p, rfl, .inr ⟨xs, (RLe.of_same hd_le).rd (fun _ _ e => nomatch e) rd⟩⟩
        have go : ((∃ kvs, d = .dK kvs) ∨ ∃ kvs, d = .dT kvs) → ∃ a, v = .ref a ∧ IsD H1 a ∧ tE Y W fk σ H1 fun y H2 => tE Y W fx σ H2 fun z H3 => ∃ o, DGet H3 a y o ∧ Q (o.getD z) H3 := fun hd => by
          obtain ⟨p, rfl, ip⟩ := isd hd
          rw [if_pos (by rcases hd with ⟨kvs, rfl⟩ | ⟨kvs, rfl⟩ <;> rfl)] at h
          refine ⟨p, rfl, ip, fo, at_, B, ρ, E.ext s1, (Post.bind (Post.ext s1 h)).mono fun kd H2 s2 h2 y ay => ⟨fo, at_, B, ρ, (E.ext s1).ext s2, (Post.bind h2).mono fun xd H3 s3 h3 z az => ?_⟩⟩
          obtain ⟨c, ec, h4⟩ := Post.op h3
          have ec2 : (dk d kd).map (fun o => o.getD xd) = some c := by
            rcases hd with ⟨kvs, rfl⟩ | ⟨kvs, rfl⟩ <;> exact ec
          obtain ⟨o, e1, rfl⟩ := Option.map_eq_some_iff.mp ec2
          obtain ⟨p2, r, e2, _, g, k1, k2⟩ := dk_v (a.same (hd_same (s2.trans s3))) (ay.same (hd_same s3)) e1
          cases e2
          refine ⟨r, g, ?_⟩
          cases o with
          | none => rw [k2 rfl]; exact h4 H3 (Same.refl H3) z az
          | some c => obtain ⟨w, e5, aw⟩ := k1 c rfl; rw [e5]; exact h4 H3 (Same.refl H3) w aw
        cases d with
        | dK kvs => exact go (.inl ⟨kvs, rfl⟩)
        | dT kvs => exact go (.inr ⟨kvs, rfl⟩)
        | dN kvs => exact absurd ⟨kvs, rfl⟩ hN
        | _ => exact h.elim
/-! ### d[k] = v, d.clear() -/
def dpF (i : Nat) (fk fv : EF D) : SF := fun ρ => lf (fv ρ) ρ fun v => match ρ[i]? with
  | some (.oK kvs) => lf (fk ρ) ρ fun k => (match keyD k with
    | some q => if kvs.length < cap then some (.nx (ρ.set i (.oK (pk kvs q v)))) else none
    | none => none)
  | some (.oT kvs) => lf (fk ρ) ρ fun k => (match k with
    | .tup ks => (match tkey ks with
      | some q => if kvs.length < cap then some (.nx (ρ.set i (.oT (pk kvs q v)))) else none
      | none => none)
    | _ => none)
  | _ => none
variable {i : Nat} {value : Expr} {fv : EF D}
theorem sx_dput (hu : X.A.units + 65 < cLine) (ho : PE X o (tVar i)) (he : PE X e (tE Y W fk)) (hv : PE X value (tE Y W fv)) (hs : swapsWith value (some (.Subscript o e pos')) pos.line X.env = pure false := by rfl) :
    PS X (.Assign [.Subscript o e pos'] value pos) (tS Y W (dpF i fk fv)) := PS.imp (ps_dput (by omega) ho he hv hs) fun Dn σ H ⟨fo, at_, B, ρ, E, h⟩ => by
  refine ⟨fo, at_, B, ρ, E, (lf_post E h).mono fun d H1 s1 ⟨E1, h1⟩ v av => ?_⟩
  cases es : ρ[i]? with
  | none => rw [es] at h1; exact h1.elim
  | some s =>
    rw [es] at h1
    have hi : i < ρ.length := (List.getElem?_eq_some_iff.mp es).1
    cases s with
    | oK kvs =>
      obtain ⟨a, ws, ha, hs, hH, ak⟩ := E1.sl i _ es
      refine ⟨.ref a, join_some hs, fo, at_, B, ρ, E1, (lf_post E1 h1).mono fun kd H2 s2 ⟨E2, h2⟩ y ay => ?_⟩
      cases ek : keyD kd with
      | none => rw [ek] at h2; exact h2.elim
      | some q =>
        rw [ek] at h2
        dsimp only at h2
        by_cases hc : kvs.length < cap
        · rw [if_pos hc] at h2
          rw [key_v ek ay]
          refine ⟨a, _, rfl, DPut.k (s2 _ _ hH) (by rw [← cap_eq, ak.length]; exact hc), h2 at_ σ _ (E2.mut hi ha fun w ew => ⟨a, _, rfl, by rw [ew]; exact hs, upd_same, (ak.same (hd_same s2)).put q (av.same (hd_same s2))⟩)⟩
        · rw [if_neg hc] at h2; exact h2.elim
    | oT kvs =>
      obtain ⟨a, ws, ha, hs, hH, ak⟩ := E1.sl i _ es
      refine ⟨.ref a, join_some hs, fo, at_, B, ρ, E1, (lf_post E1 h1).mono fun kd H2 s2 ⟨E2, h2⟩ y ay => ?_⟩
      cases kd with
      | tup ks =>
        dsimp only at h2
        cases ek : tkey ks with
        | none => rw [ek] at h2; exact h2.elim
        | some q =>
          rw [ek] at h2
          dsimp only at h2
          by_cases hc : kvs.length < cap
          · rw [if_pos hc] at h2
            obtain ⟨b, us, rfl, g, _, al⟩ := ay
            have g2 : H2 b = some (.tup (q.map kV)) := by rw [← tkey_v ek al]; exact hd_le _ _ g
            refine ⟨a, _, rfl, DPut.t (s2 _ _ hH) g2 (by rw [← cap_eq, ak.length]; exact hc), h2 at_ σ _ (E2.mut hi ha fun w ew => ⟨a, _, rfl, by rw [ew]; exact hs, upd_same, (ak.same (hd_same s2)).put q (av.same (hd_same s2))⟩)⟩
          · rw [if_neg hc] at h2; exact h2.elim
      | _ => exact h2.elim
    | _ => exact h1.elim
/-- d.clear(), the keys tuples -/
theorem mtd_clearT : MtR X "dict.clear" (fun x xs H Q => ∃ a kvs, x = V.ref a ∧ xs = [] ∧ H a = some (.dT kvs) ∧ Q .non (upd H a (.dT []))) := by
  intro pins s σ H x xs v us Q I rx rxs h
  obtain ⟨a, kvs, rfl, rfl, ha, q⟩ := h
  cases rx
  cases rxs
  obtain ⟨z, lo, ys, rel, dd⟩ := dt_rd I.hok (.inl ha)
  have ty := dd.typeIs
  obtain ⟨es, ep, hr, hs, _⟩ := dd.raw
  refine call_meetsIn PySem.F.slot_dict_clear ty PySem.F.entry_dict_clear (PySem.F.args_dict_clear_1 _) (meets_dict_clear_raw a) ⟨es, ep, hr, by rw [hs, ← Paired.length rel]; exact z, fun h' hr' hs' => ?_⟩
  obtain ⟨o, ho, hc, hdat⟩ := hr'
  exact ⟨.non, _, d_write (t' := s.toks) I (by rw [ha]; exact True.intro) hs' ⟨o, ho⟩ (show ObjOk X.prog X.w _ _ _ (.dT []) from ⟨Nat.zero_le _, lo, [], .nil, o, #[], ep + 1, ho, hc, hdat, rfl, List.nodup_nil⟩), rfl, q⟩
def dclF (i : Nat) : SF := fun ρ => match ρ[i]? with
  | some (.oK _) => some (.nx (ρ.set i (.oK [])))
  | some (.oT _) => some (.nx (ρ.set i (.oT [])))
  | _ => none
theorem sx_dclr (ho : PE X o (tVar i)) (hbase : attributeBase o "clear" X.env (eval o X.env) = eval o X.env := by rfl) (hline : (apos.endLine == cpos.line) = true := by rfl) (hw : swapsWith (.Call (.Attribute o "clear" apos) [] [] cpos) none pos.line X.env = pure false := by rfl) :
    PS X (.Expr (.Call (.Attribute o "clear" apos) [] [] cpos) pos) (tS Y W (dclF i)) :=
  PS.imp (PS.or (ps_expr (pe_dclear ho hbase hline) hw) (ps_expr (pe_bm0 PySem.F.plainAttrs_dict PySem.F.slot_dict_clear PySem.F.type_dict_clear mtd_clearT ho hbase hline) hw)) fun Dn σ H ⟨fo, at_, B, ρ, E, h⟩ => by
    unfold dclF at h
    cases es : ρ[i]? with
    | none => rw [es] at h; exact h.elim
    | some s =>
      rw [es] at h
      have hi : i < ρ.length := (List.getElem?_eq_some_iff.mp es).1
      cases s with
      | oK kvs =>
        obtain ⟨a, ws, ha, hs, hH, ak⟩ := E.sl i _ es
        exact .inl ⟨.ref a, join_some hs, .inr (.inr (.inl ⟨rfl, .inl ⟨ws, hH⟩⟩)), a, ws, rfl, rfl, hH, h at_ σ _ (E.mut hi ha fun w ew => ⟨a, [], rfl, by rw [ew]; exact hs, upd_same, rfl⟩)⟩
      | oT kvs =>
        obtain ⟨a, ws, ha, hs, hH, ak⟩ := E.sl i _ es
        exact .inr ⟨.ref a, join_some hs, .inr (.inr (.inl ⟨rfl, .inr ⟨ws, hH⟩⟩)), a, ws, rfl, rfl, hH, h at_ σ _ (E.mut hi ha fun w ew => ⟨a, [], rfl, by rw [ew]; exact hs, upd_same, rfl⟩)⟩
      | _ => exact h.elim
end
/-! ### dict(..) of a list of pairs whose keys are tuples -/
section
open PyProof.Rows
variable {X : Cx} {Y : Yx}
theorem storedAllH_v {H : Hp} : ∀ {ps : List (List Key × Addr × Value)} {kvs : List (List Key × V)} {acc : List (List Key × Addr × Value)} {as : List (List Key × V)}, KT H kvs ps → KT H as acc → KT H (kvs.foldl (fun acc kv => putK acc kv.1 kv.2) as) (storedAllH acc ps)
  | [], _, acc, as, r, r0 => by cases r; exact r0
  | p :: ps, _, acc, as, r, r0 => by
    cases r with
    | @cons kv _ kvs _ h t =>
      have e : KT H (putK as kv.1 kv.2) (storedH acc p.1 p.2.1 p.2.2) := by
        rw [← h.1]
        exact r0.put kv.1 h.2.1 h.2.2
      exact storedAllH_v (ps := ps) (kvs := kvs) (acc := storedH acc p.1 p.2.1 p.2.2) (as := putK as kv.1 kv.2) t e
theorem foldT_len : ∀ (more kvs : List (List Key × V)), (more.foldl (fun acc kv => putK acc kv.1 kv.2) kvs).length ≤ kvs.length + more.length
  | [], kvs => by show kvs.length ≤ kvs.length + 0; omega
  | p :: r, kvs => by
    have h1 := foldT_len r (putK kvs p.1 p.2)
    have h2 := length_putK kvs p.1 p.2
    show (r.foldl (fun acc kv => putK acc kv.1 kv.2) (putK kvs p.1 p.2)).length ≤ _
    rw [List.length_cons]; omega
/-- a list of pairs, their keys tuples -/
def rDictT (K : PySem.W.Frag) : List V → Hp → VK → Prop := fun xs H Q => ∃ (a : Addr) (ps : List Addr) (bs : List Addr) (kvs : List (List Key × V)), xs = [V.ref a] ∧ SqL K H a (ps.map V.ref) ∧ ps.length = kvs.length ∧ bs.length = kvs.length ∧
  (∀ (j : Nat) p b kv, ps[j]? = some p → bs[j]? = some b → kvs[j]? = some kv → SqT K H p [V.ref b, kv.2] ∧ H b = some (.tup (kv.1.map kV))) ∧ ∀ p, H p = none → Q (.ref p) (upd H p (.dT (kvs.foldl (fun acc kv => putK acc kv.1 kv.2) [])))
theorem cr_dictT (hcalm : X.calm = true) (hu : X.A.units + 65 < cLine) : CallR X (.type "dict") (rDictT X.K) := by
  intro pins s σ H xs us Q I r q
  obtain ⟨a, ps, bs, kvs, rfl, hq, l1, l2, hp, q⟩ := q
  obtain ⟨u, rfl, rx⟩ := vals1 r
  cases rx
  obtain ⟨its, rv, pl, hz⟩ := I.list hq
  have ei := refs_at rv
  subst ei
  rw [List.length_map] at hz
  obtain ⟨o, n, ho, hc, hd, hdat⟩ := pl
  -- the entries
  have ex : ∃ xs : List (List Key × Addr × Value), KT H kvs xs ∧ ∀ (j : Nat) y, xs[j]? = some y → ∃ p, ps[j]? = some p ∧ IsTup s.heap p #[.ref y.2.1, y.2.2] := by
    have go : ∀ {kvs : List (List Key × V)} {ps bs : List Addr}, ps.length = kvs.length → bs.length = kvs.length → (∀ (j : Nat) p b kv, ps[j]? = some p → bs[j]? = some b → kvs[j]? = some kv → SqT X.K H p [V.ref b, kv.2] ∧ H b = some (.tup (kv.1.map kV))) →
        ∃ xs : List (List Key × Addr × Value), KT H kvs xs ∧ ∀ (j : Nat) y, xs[j]? = some y → ∃ p, ps[j]? = some p ∧ IsTup s.heap p #[.ref y.2.1, y.2.2] := by
      intro kvs
      induction kvs with
      | nil => intro ps bs h1 h2 _; exact ⟨[], .nil, fun j y e => by simp at e⟩
      | cons kv kvs ih =>
        intro ps bs h1 h2 h
        match ps, bs, h1, h2 with
        | p :: ps, b :: bs, h1, h2 =>
          obtain ⟨xs, r, hx⟩ := ih (ps := ps) (bs := bs) (by simpa using h1) (by simpa using h2) fun j p b kv e1 e2 e3 => h (j + 1) p b kv (by simpa using e1) (by simpa using e2) (by simpa using e3)
          obtain ⟨q1, q2⟩ := h 0 p b kv rfl rfl rfl
          obtain ⟨its, rv, ht, _⟩ := I.tuple q1
          obtain ⟨u, y, ei, ru, ry⟩ := vals2 rv
          subst ei
          cases (show u = Value.ref b from ru)
          refine ⟨(kv.1, b, y) :: xs, .cons ⟨rfl, q2, ry⟩ r, fun j z e => ?_⟩
          cases j with
          | zero => simp at e; subst e; exact ⟨p, rfl, ht⟩
          | succ j => obtain ⟨p2, e1, e2⟩ := hx j z (by simpa using e); exact ⟨p2, by simpa using e1, e2⟩
    exact go l1 l2 hp
  obtain ⟨xs, kt, hx⟩ := ex
  have lx : xs.length = kvs.length := (Paired.length kt).symm
  let pv : List (Value × Value) := xs.map fun y => (.ref y.2.1, y.2.2)
  have lpv : pv.length = ps.length := by show (xs.map _).length = _; rw [List.length_map, lx, l1]
  have P := PairArg.list (prog := X.prog) (w := X.w) a (ps.map Value.ref).toArray (fun j => ps.getD j 0) pv
  have all : ∀ {l : List (List Key × V)} {m : List (List Key × Addr × Value)}, KT H l m → ∀ x ∈ m, (tupleKind (mixKind X.prog X.w)).is s.heap x.1 x.2.1 := by
    intro l m q
    induction q with
    | nil => intro x hx; exact nomatch hx
    | @cons p q ps qs hq t ih =>
      intro x hx
      rcases List.mem_cons.mp hx with e | hx
      · subst e
        exact key_of I.hok (by rw [← hq.1]; exact hq.2.1)
      · exact ih x hx
  have okA : PlainSeq "list" s.heap a (ps.map Value.ref).toArray ∧ PairItems s.heap (ps.map Value.ref).toArray (fun j => ps.getD j 0) pv := by
    refine ⟨⟨o, n, ho, hc, hd, hdat⟩, by simp [lpv], fun j k v e => ?_⟩
    have e2 : (xs.map fun y => ((Value.ref y.2.1 : Value), y.2.2))[j]? = some (k, v) := e
    rw [List.getElem?_map] at e2
    obtain ⟨y, ey, e3⟩ := Option.map_eq_some_iff.mp e2
    injection e3 with e3 e4
    subst e3; subst e4
    obtain ⟨p, ep, it⟩ := hx j y ey
    have eg : ps.getD j 0 = p := by rw [List.getD_eq_getElem?_getD, ep]; rfl
    refine ⟨by simp [ep], ?_⟩
    show PairAt s.heap (ps.getD j 0) _ _
    rw [eg]
    exact .inl it
  refine call_dict_pairsH (knd := tupleKind (mixKind X.prog X.w)) (ps := xs) P (I.ok.hd hcalm) (by show X.A.units + 1 + 1 < cLine; omega) okA ⟨by rw [lpv, lx, l1], fun j k v e => ?_⟩ (fun h' hk y hy => ?_) (by rw [lpv]; exact hz) fun h' tk hd' k => ?_
  · have e2 : (xs.map fun y => ((Value.ref y.2.1 : Value), y.2.2))[j]? = some (k, v) := e
    rw [List.getElem?_map] at e2
    obtain ⟨y, ey, e3⟩ := Option.map_eq_some_iff.mp e2
    injection e3 with e3 e4
    subst e3; subst e4
    exact ⟨y.1, y.2.1, ey, rfl⟩
  · obtain ⟨ob, its, m, ho', hc', hd', hi⟩ := all kt y hy
    exact ⟨ob, its, m, hk _ _ (Nat.ne_of_lt (Heap.lt_size ho')) (fun z => nomatch z) ho', hc', hd', hi⟩
  · have hm : (s.heap.objs.size == sysModules) = false := beq_eq_false_iff_ne.mpr (Nat.ne_of_gt I.big)
    have k' : ∀ b o, s.heap.get? b = some o → h'.get? b = some o := fun b o e => k b o (fun z => nomatch z) e
    have rel : KT H (kvs.foldl (fun acc kv => putK acc kv.1 kv.2) []) (storedAllH [] xs) := storedAllH_v kt .nil
    have hlen : (kvs.foldl (fun acc kv => putK acc kv.1 kv.2) []).length ≤ sizeLine := by
      have := foldT_len kvs []
      rw [List.length_nil] at this
      omega
    obtain ⟨ob, es, ep, h1, h2, h3, h4, _, h5⟩ := hd'
    have hf : H s.heap.objs.size = none := I.hok.fresh (Nat.le_refl _)
    exact ⟨.ref s.heap.objs.size, upd H s.heap.objs.size (.dT _), I.laid (t' := tk) k' (Nat.le_refl _) (show ObjOk X.prog X.w _ _ _ (.dT _) from ⟨hlen, hm, _, rel.keeps fun c ys ec => by rw [upd_ne (ne_of_none ec hf)]; exact ec, ob, es, ep, h1, h2, h3, h4, h5⟩), rfl, q _ hf⟩
def pairDT : D → Option (List Key × D)
  | .tup [.tup ks, v] => (tkey ks).map fun k => (k, v)
  | _ => none
def pairsDT : List D → Option (List (List Key × D))
  | [] => some []
  | d :: ds => (pairDT d).bind fun p => (pairsDT ds).map (p :: ·)
def mkT (kvs : List (List Key × D)) : List (List Key × D) := kvs.foldl (fun acc kv => pk acc kv.1 kv.2) []
def dictTO : List D → Option Sl
  | [.lst xs] => (pairsDT xs).map fun kvs => .oT (mkT kvs)
  | _ => none
theorem pairsT_v {h : Addr → Prop} {H : Hp} : ∀ {ds : List D} {vs : List V} {kvs : List (List Key × D)}, pairsDT ds = some kvs → AtL Y (hd h H) vs ds → ∃ (ps bs : List Addr) (xs : List (List Key × V)), vs = ps.map V.ref ∧ ps.length = xs.length ∧ bs.length = xs.length ∧ AtT Y (hd h H) xs kvs ∧
    ∀ (j : Nat) p b kv, ps[j]? = some p → bs[j]? = some b → xs[j]? = some kv → SqT Y.K H p [V.ref b, kv.2] ∧ H b = some (.tup (kv.1.map kV))
  | [], vs, kvs, e, a => by cases e; cases (show vs = [] from a); exact ⟨[], [], [], rfl, rfl, rfl, rfl, fun j p b kv e => by simp at e⟩
  | d :: ds, vs, kvs, e, ⟨v, r, ev, q, t⟩ => by
    unfold pairsDT at e
    obtain ⟨pr, e1, e2⟩ := Option.bind_eq_some_iff.mp e
    obtain ⟨kvs', e3, rfl⟩ := Option.map_eq_some_iff.mp e2
    obtain ⟨ps, bs, xs, er, l1, l2, at_, hp⟩ := pairsT_v e3 t
    match d, e1, q with
    | .tup [.tup ks, w], e1, q =>
      have e4 : (tkey ks).map (fun k => (k, w)) = some pr := e1
      obtain ⟨k, e5, rfl⟩ := Option.map_eq_some_iff.mp e4
      obtain ⟨c, us, rfl, g, sq, _, _, au⟩ := at_seqT q
      obtain ⟨u1, u2, rfl, a1, a2⟩ := args2 au
      obtain ⟨b, ws, rfl, gb, _, ab⟩ := a1
      refine ⟨c :: ps, b :: bs, (k, u2) :: xs, by rw [ev, er]; rfl, by simp [l1], by simp [l2], ⟨u2, xs, rfl, a2, at_⟩, fun j p b' kv h1 h2 h3 => ?_⟩
      cases j with
      | zero => simp at h1 h2 h3; subst h1; subst h2; subst h3; exact ⟨sq, by rw [← tkey_v e5 ab]; exact hd_le _ _ gb⟩
      | succ j => exact hp j p b' kv (by simpa using h1) (by simpa using h2) (by simpa using h3)
theorem AtT.fold {G : Hp} : ∀ {xs : List (List Key × V)} {kvs : List (List Key × D)} {as : List (List Key × V)} {bs : List (List Key × D)}, AtT Y G xs kvs → AtT Y G as bs → AtT Y G (xs.foldl (fun acc kv => putK acc kv.1 kv.2) as) (kvs.foldl (fun acc kv => pk acc kv.1 kv.2) bs)
  | _, [], _, _, a, b => by cases (show _ = [] from a); exact b
  | _, (k, d) :: ds, as, bs, ⟨v, q, e, av, t⟩, b => by
    subst e
    exact AtT.fold (as := putK as k v) (bs := pk bs k d) (kvs := ds) t (b.put k av)
theorem sl_newT {h : Addr → Prop} {H : Hp} {q : Addr} {vs : List (List Key × V)} {ds : List (List Key × D)} (np : H q = none) (a : AtT Y (hd h H) vs ds) : SlR Y noG (hd (fun b => h b ∨ some q = some b) (upd H q (.dT vs))) (upd H q (.dT vs)) (some (.ref q)) (.oT ds) (some q) := by
  refine ⟨q, vs, rfl, rfl, upd_same, a.same fun b o e => ?_⟩
  obtain ⟨n, e⟩ := hd_some e
  have nb : b ≠ q := ne_of_none e np
  refine (hd_not ?_).trans ((upd_ne nb).trans e)
  rintro (m | m)
  · exact n m
  · cases m; exact nb rfl
theorem v_dictT : VCo Y (rDictT Y.K) dictTO := fun hh H xs ds s Q al a z q => by
  match ds, z, a with
  | [.lst ys], z, a =>
    obtain ⟨kvs, e, rfl⟩ := Option.map_eq_some_iff.mp (show (pairsDT ys).map (fun kvs => Sl.oT (mkT kvs)) = some s from z)
    obtain ⟨x, rfl, ax⟩ := args1 a
    obtain ⟨r, vs, rfl, g, sq, ln, z, av⟩ := at_seqL ax
    obtain ⟨ps, bs, xs, rfl, l1, l2, at_, hp⟩ := pairsT_v e av
    exact ⟨r, ps, bs, xs, rfl, sq, l1, l2, hp, fun p np => q _ _ (some p) (same_new np) (fun a e => by cases e; exact np) (sl_newT np (at_.fold (as := []) (bs := []) rfl)) (fun z => nomatch z)⟩
end
/-! ### bit_length, split, upper, index -/
section
variable {X : Cx} {Y : Yx} {W : WX} {o e : Expr} {f : EF D} {apos pos : Pos}
def bitsD : D → Option D
  | .int i => some (.int (Builtin.Int.intBits i : Nat))
  | _ => none
theorem px_bits (ho : PE X o (tE Y W f)) (hbase : attributeBase o "bit_length" X.env (eval o X.env) = eval o X.env := by rfl) (hline : (apos.endLine == pos.line) = true := by rfl) : PE X (.Call (.Attribute o "bit_length" apos) [] [] pos) (tE Y W (un f bitsD)) :=
  PE.imp (pe_bits ho hbase hline) fun σ H Q ⟨fo, at_, B, ρ, E, h⟩ => ⟨fo, at_, B, ρ, E, (Post.bind h).mono fun d H1 s1 h1 v a => by
    obtain ⟨c, e, h2⟩ := Post.op h1
    cases d <;> first | cases e | skip
    exact ⟨_, a, h2 H1 (Same.refl H1) _ rfl⟩⟩
def splitD : D → List D → Option D
  | .str a, [.str b] => if (b.length == 0) = false ∧ a.length + 2 ≤ cap ∧ (Txt.split a b).length ≤ cap then some (.lst ((Txt.split a b).map .str)) else none
  | _, _ => none
theorem at_strs {G : Hp} : ∀ (xs : List Str), AtL Y G (xs.map V.str) (xs.map D.str)
  | [] => rfl
  | x :: xs => ⟨.str x, _, rfl, rfl, at_strs xs⟩
theorem v_split : VMt Y "str" (fun x xs H Q => ∃ a b, x = V.str a ∧ xs = [V.str b] ∧ (b.length == 0) = false ∧ a.length + 2 ≤ sizeLine ∧ rNewStrs (Txt.split a b) H Q) okS splitD := fun hh H x d al a ok => by
  match d, ok, a with
  | .str z, _, a =>
    cases (show x = _ from a)
    refine ⟨rfl, fun H1 xs ds c Q s1 b e q => ?_⟩
    match ds, e, b with
    | [.str y], e, b =>
      have e2 : (if (y.length == 0) = false ∧ z.length + 2 ≤ cap ∧ (Txt.split z y).length ≤ cap then some (D.lst ((Txt.split z y).map .str)) else none) = some c := e
      split at e2
      · rename_i hc
        cases e2
        obtain ⟨w, rfl, aw⟩ := args1 b
        cases (show w = _ from aw)
        refine ⟨z, y, rfl, rfl, hc.1, by rw [← cap_eq]; exact hc.2.1, fun p np => q _ _ (same_new np) (at_newL (al.same s1) np (by rw [List.length_map]; exact hc.2.2) (at_strs _))⟩
      · cases e2
def upperD : D → List D → Option D
  | .str a, [] => if a.length ≤ 5592405 then some (.str (Txt.upper a)) else none
  | _, _ => none
theorem v_upper : VMt Y "str" (fun x xs H Q => ∃ a, x = V.str a ∧ xs = [] ∧ a.length ≤ 5592405 ∧ Q (.str (Txt.upper a)) H) okS upperD := fun hh H x d al a ok => by
  match d, ok, a with
  | .str z, _, a =>
    cases (show x = _ from a)
    refine ⟨rfl, fun H1 xs ds c Q s1 b e q => ?_⟩
    match ds, e, b with
    | [], e, b =>
      have e2 : (if z.length ≤ 5592405 then some (D.str (Txt.upper z)) else none) = some c := e
      split at e2
      · rename_i hc
        cases e2
        cases (show xs = [] from b)
        exact ⟨z, rfl, rfl, hc, q _ H1 (Same.refl H1) rfl⟩
      · cases e2
def okL : D → Bool
  | .lst _ => true
  | _ => false
def indexD : D → List D → Option D
  | .lst xs, [.int k] => (intsD xs).bind fun ns => if k ∈ ns then some (.int (ns.idxOf k : Nat)) else none
  | _, _ => none
theorem v_index : VMt Y "list" (rIndex Y.K) okL indexD := fun hh H x d al a ok => by
  match d, ok, a with
  | .lst zs, _, a =>
    obtain ⟨r, vs, rfl, g, sq, ln, _, av⟩ := at_seqL a
    refine ⟨.inl ⟨rfl, vs, sq⟩, fun H1 xs ds c Q s1 b e q => ?_⟩
    match ds, e, b with
    | [.int k], e, b =>
      obtain ⟨ns, e1, e2⟩ := Option.bind_eq_some_iff.mp (show (intsD zs).bind (fun ns => if k ∈ ns then some (D.int (ns.idxOf k : Nat)) else none) = some c from e)
      split at e2
      · rename_i hk
        cases e2
        obtain ⟨w, rfl, aw⟩ := args1 b
        cases (show w = _ from aw)
        have ev := intsD_v e1 av
        subst ev
        have hl := List.idxOf_lt_length_of_mem hk
        refine ⟨r, ns.map V.int, .int k, ns.idxOf k, .int k, rfl, rfl, SqL.of (s1 _ _ g), rfl, ?_, ?_, ?_, fun m z' hm hz => ?_, q _ H1 (Same.refl H1) rfl⟩
        · rw [List.all_map, List.all_eq_true]; exact fun _ _ => rfl
        · rw [List.getElem?_map, List.getElem?_eq_getElem hl, List.getElem_idxOf]; rfl
        · simp [eqV]
        · rw [List.getElem?_map] at hz
          obtain ⟨y, ey, rfl⟩ := Option.map_eq_some_iff.mp hz
          obtain ⟨hml, ey2⟩ := List.getElem?_eq_some_iff.mp ey
          have hne : y ≠ k := fun h => by
            have := List.not_of_lt_findIdx (p := fun x => x == k) (xs := ns) (i := m) hm
            rw [ey2, h] at this
            simp at this
          simp [eqV, hne]
      · cases e2
end
end PL

/-! P25: isinstance of exceptions, of houses; what an exception carries. -/
namespace PL
open PySem PySem.Spec L2
/-- what is leaned on of the classes of exceptions -/
structure ExI (Y : Yx) : Prop where
  xc : ∀ c, c < 8 → ExcC Y.K (Y.cx c)
  ki : ∀ c k, c < 8 → k < 8 → PySem.W.kitOne Y.K (.ref (Y.cx c)) (.ref (Y.cx k)) = some (c == k || k == 0)
  kv : ∀ c, c < 8 → PySem.W.kitOne Y.K (.ref (Y.cx c)) (.type "ValueError") = some true
  em : ∀ c k, c < 8 → k < 8 → PySem.W.exmOne Y.K (.ref (Y.cx c)) (.ref (Y.cx k)) = some (c == k || k == 0)
/-- isinstance(e, C) of a kept exception -/
def rIsX (K : PySem.W.Frag) : List V → Hp → VK → Prop := fun xs H Q => ∃ (a C : Addr) (dd : Option Addr) (c : V) (cv : Value) (b : Bool), xs = [.ref a, c] ∧ (∀ u, RelV c u → u = cv) ∧ Rd H a (ExT (.ref C) dd a) ∧ (dd = none ∨ ∃ e fs, dd = some e ∧ Rd H e (.xd fs)) ∧
  ExcC K C ∧ PySem.W.kitOne K (.ref C) cv = some b ∧ Q (.bl b) H
section
variable {X : Cx} {Y : Yx} {W : WX} {e : Expr} {f : EF D} {p p2 pos : Pos}
theorem ext_inst {pins : List (Addr × Obj)} {σ : L2.St} {H : Hp} {s : Shared} {a C : Addr} {dd : Option Addr} (I : Inv X pins σ H s) (hr : Rd H a (ExT (.ref C) dd a)) (hd : dd = none ∨ ∃ e fs, dd = some e ∧ Rd H e (.xd fs)) :
    ∃ oe od vs, PySem.W.InstAt s.heap a oe C od ∧ oe.dict = dd ∧ oe.data = .fields vs := by
  have q := hr.ok I.hok
  obtain ⟨oe, vs, e1, ⟨e2, e3⟩, e4⟩ := q.1
  rcases hd with rfl | ⟨e, fs, rfl, he⟩
  · refine ⟨oe, none, vs, ⟨e1, e2, ?_, ?_⟩, e3, e4⟩
    · unfold PySem.W.notCls; rw [e4]
    · rw [e3]; trivial
  · have x := he.ok I.hok
    obtain ⟨mA, ⟨od, es, ep, h1, h2⟩, _⟩ := x
    refine ⟨oe, some od, vs, ⟨e1, e2, ?_, ?_⟩, e3, e4⟩
    · unfold PySem.W.notCls; rw [e4]
    · rw [e3]; exact h1
theorem call_isX : CallR X (.builtin "isinstance") (rIsX X.K) := by
  intro pins s σ H xs us Q I r h
  obtain ⟨a, C, dd, c, cv, b, rfl, hc, hr, hd, xc, e, q⟩ := h
  obtain ⟨u1, u2, rfl, r1, r2⟩ := vals2 r
  cases (show u1 = Value.ref a from r1)
  obtain rfl := hc _ r2
  obtain ⟨oe, od, vs, J, _, _⟩ := ext_inst I hr hd
  obtain ⟨cd, hcd, _⟩ := PySem.W.any_some xc.hd
  exact PySem.W.kia_one (PySem.W.kitx_exc (by rw [hcd]; rfl) xc.hg xc.hk xc.hs xc.ha xc.hn xc.ht xc.hm) I.kIn J e (fun z => nomatch z) fun tk => ⟨.bl b, H, I.kept (t' := tk) fun _ _ z => z, rfl, q⟩
/-- the mirror of it -/
@[simp] def isE (k : Nat) : D → Option D
  | .exc c _ => if c < 8 ∧ k < 8 then some (.bl (c == k || k == 0)) else none
  | _ => none
@[simp] def isVE : D → Option D
  | .exc c _ => if c < 8 then some (.bl true) else none
  | _ => none
@[simp] def isH : D → Option D
  | .ob _ => some (.bl true)
  | _ => none
theorem exc_rd {h : Addr → Prop} {H : Hp} {v : V} {c : Nat} {ps : D} (a : At Y (hd h H) v (.exc c ps)) : ∃ ad dd, v = .ref ad ∧ Rd H ad (ExT (.ref (Y.cx c)) dd ad) ∧ (dd = none ∨ ∃ e fs, dd = some e ∧ Rd H e (.xd fs)) := by
  obtain ⟨ad, dd, rfl, g, r⟩ := a
  have up : ∀ {b u}, Rd (hd h H) b u → Rd H b u := fun {b u} q => q.elim (fun q => .inl (hd_le _ _ q)) fun ⟨o, q⟩ => .inr ⟨o, hd_le _ _ q⟩
  exact ⟨ad, dd, rfl, up g, r.elim (fun r => .inl r.1) fun ⟨e, l, e1, r, _⟩ => .inr ⟨e, _, e1, up r⟩⟩
theorem px_isE {k : Nat} {y : Str} (hg : Gl X "isinstance") (hm : X.mg "isinstance" = none) (hg2 : Gl X y) (hm2 : X.mg y = some (.ref (Y.cx k))) (hK : X.K = Y.K) (xi : ExI Y) (he : PE X e (tE Y W f)) (hd : (y == ("__debug__" : Str)) = false := by decide)
    (hs : starEach [e, .Name y p2] X.env = (false, eval e X.env) :: starEach [.Name y p2] X.env := by rfl) (hs2 : starEach [.Name y p2] X.env = (false, eval (.Name y p2) X.env) :: starEach [] X.env := by rfl) (hpl : (backTo pos (starEach [.Name y p2] X.env)).any (·.1) = false := by rfl) :
    PE X (.Call (.Name "isinstance" p) [e, .Name y p2] [] pos) (tE Y W (un f (isE k))) := by
  refine PE.imp (pe_callB (id := "isinstance") call_isX hg hm (by decide +kernel) (pa_cons he (pa_cons (pe_glob (v := .ref (Y.cx k)) hg2 hm2 rfl hd) pa_nil hs2) hs) (by decide) (by decide) hs hpl) fun σ H Q ⟨fo, at_, B, ρ, E, h⟩ => ?_
  refine ⟨fo, at_, B, ρ, E, (Post.bind h).mono fun d H1 s1 h1 v a => ?_⟩
  obtain ⟨c, ec, h2⟩ := Post.op h1
  cases d <;> first | cases ec | skip
  rename_i c' ps
  have ec2 : (if c' < 8 ∧ k < 8 then some (D.bl (c' == k || k == 0)) else none) = some c := ec
  split at ec2
  · rename_i hc
    cases ec2
    obtain ⟨ad, dd, rfl, r1, r2⟩ := exc_rd a
    refine ⟨ad, _, dd, .ref (Y.cx k), .ref (Y.cx k), _, rfl, fun u r => r, r1, r2, ?_, ?_, h2 H1 (Same.refl H1) _ rfl⟩
    · rw [hK]; exact xi.xc c' hc.1
    · rw [hK]; exact xi.ki c' k hc.1 hc.2
  · cases ec2
theorem px_isVE {y : Str} (hg : Gl X "isinstance") (hm : X.mg "isinstance" = none) (hg2 : Gl X y) (hm2 : X.mg y = none) (hv : bootBuiltins y = some (.type "ValueError")) (hK : X.K = Y.K) (xi : ExI Y) (he : PE X e (tE Y W f)) (hn : y ≠ "__name__" := by decide) (hd : (y == ("__debug__" : Str)) = false := by decide)
    (hs : starEach [e, .Name y p2] X.env = (false, eval e X.env) :: starEach [.Name y p2] X.env := by rfl) (hs2 : starEach [.Name y p2] X.env = (false, eval (.Name y p2) X.env) :: starEach [] X.env := by rfl) (hpl : (backTo pos (starEach [.Name y p2] X.env)).any (·.1) = false := by rfl) :
    PE X (.Call (.Name "isinstance" p) [e, .Name y p2] [] pos) (tE Y W (un f isVE)) := by
  refine PE.imp (pe_callB (id := "isinstance") call_isX hg hm (by decide +kernel) (pa_cons he (pa_cons (pe_bltn (v := .ty "ValueError") hg2 hm2 hv rfl hn hd) pa_nil hs2) hs) (by decide) (by decide) hs hpl) fun σ H Q ⟨fo, at_, B, ρ, E, h⟩ => ?_
  refine ⟨fo, at_, B, ρ, E, (Post.bind h).mono fun d H1 s1 h1 v a => ?_⟩
  obtain ⟨c, ec, h2⟩ := Post.op h1
  cases d <;> first | cases ec | skip
  rename_i c' ps
  have ec2 : (if c' < 8 then some (D.bl true) else none) = some c := ec
  split at ec2
  · rename_i hc
    cases ec2
    obtain ⟨ad, dd, rfl, r1, r2⟩ := exc_rd a
    refine ⟨ad, _, dd, .ty "ValueError", .type "ValueError", _, rfl, fun u r => r, r1, r2, ?_, ?_, h2 H1 (Same.refl H1) _ rfl⟩
    · rw [hK]; exact xi.xc c' hc
    · rw [hK]; exact xi.kv c' hc
  · cases ec2
theorem px_isH {y : Str} (hg : Gl X "isinstance") (hm : X.mg "isinstance" = none) (hg2 : Gl X y) (hm2 : X.mg y = some (.ref Y.C)) (hK : X.K = Y.K) (ic : C8.InsC Y.K Y.C) (he : PE X e (tE Y W f)) (hd : (y == ("__debug__" : Str)) = false := by decide)
    (hs : starEach [e, .Name y p2] X.env = (false, eval e X.env) :: starEach [.Name y p2] X.env := by rfl) (hs2 : starEach [.Name y p2] X.env = (false, eval (.Name y p2) X.env) :: starEach [] X.env := by rfl) (hpl : (backTo pos (starEach [.Name y p2] X.env)).any (·.1) = false := by rfl) :
    PE X (.Call (.Name "isinstance" p) [e, .Name y p2] [] pos) (tE Y W (un f isH)) := by
  refine PE.imp (pe_callB (id := "isinstance") (C8.call_isC (C := Y.C) (by rw [hK]; exact ic)) hg hm (by decide +kernel) (pa_cons he (pa_cons (pe_glob (v := .ref Y.C) hg2 hm2 rfl hd) pa_nil hs2) hs) (by decide) (by decide) hs hpl) fun σ H Q ⟨fo, at_, B, ρ, E, h⟩ => ?_
  refine ⟨fo, at_, B, ρ, E, (Post.bind h).mono fun d H1 s1 h1 v a => ?_⟩
  obtain ⟨c, ec, h2⟩ := Post.op h1
  cases d <;> first | cases ec | skip
  obtain ⟨ad, dx, xs, rfl, g, _⟩ := a
  exact ⟨ad, dx, xs, rfl, hd_le _ _ g, h2 H1 (Same.refl H1) _ rfl⟩
/-! ### e.pairs -/
@[simp] def prsD : D → Option D
  | .exc c (.lst xs) => if c = 7 then some (.lst xs) else none
  | _ => none
/-- what the class of those that carry pairs must say -/
structure PrI (Y : Yx) : Prop where
  xf : XfC Y.K (Y.cx 7)
  no : PySem.W.findIn Y.K (.ref (Y.cx 7)) "pairs" = some none
theorem px_prs (hK : X.K = Y.K) (pi : PrI Y) (he : PE X e (tE Y W f)) (hb : attributeBase e "pairs" X.env (eval e X.env) = eval e X.env := by rfl) : PE X (.Attribute e "pairs" pos) (tE Y W (un f prsD)) := by
  refine ⟨fun pins s σ H Q I h => ?_⟩
  obtain ⟨fo, at_, B, ρ, E, h⟩ := h
  refine attr_of hb (thn (he.run pins s σ H _ I ⟨fo, at_, B, ρ, E, (Post.bind h).mono fun d H1 s1 h1 v a => (show (∃ (ad dd : Addr) (l : V), v = .ref ad ∧ Rd H1 ad (ExT (.ref (Y.cx 7)) (some dd) ad) ∧ Rd H1 dd (.xd [("pairs", l)]) ∧ Q l H1) from ?_)⟩) fun u s1 hh => ?_)
  · obtain ⟨c, ec, h2⟩ := Post.op h1
    match d, ec, a with
    | .exc c' (.lst xs), ec, a =>
      have ec2 : (if c' = 7 then some (D.lst xs) else none) = some c := ec
      split at ec2
      · rename_i hc
        cases ec2
        subst hc
        obtain ⟨ad, dd, rfl, g, r⟩ := a
        have up : ∀ {b u}, Rd (hd (hid fo at_) H1) b u → Rd H1 b u := fun {b u} q => q.elim (fun q => .inl (hd_le _ _ q)) fun ⟨o, q⟩ => .inr ⟨o, hd_le _ _ q⟩
        rcases r with ⟨rfl, x, rfl, z⟩ | ⟨e1, l, rfl, r1, al⟩
        · obtain ⟨_, _, z, _⟩ := z; cases z
        · exact ⟨ad, e1, l, rfl, up g, up r1, h2 H1 (Same.refl H1) l al⟩
      · cases ec2
  · obtain ⟨x, H1, I1, rx, ad, dd, l, ex, g1, g2, q⟩ := hh
    subst ex
    obtain rfl : u = Value.ref ad := rx
    have hx := g2.ok I1.hok
    obtain ⟨mA, hns, hr⟩ := hx
    obtain ⟨od, ho, hl⟩ := lookIn_ns hns
    obtain ⟨u, hu, ru⟩ := RelO.some_of (v := l) (o := mA "pairs") (hr "pairs")
    have q1 := g1.ok I1.hok
    obtain ⟨oe, vs, e1, ⟨e2, e3⟩, e4⟩ := q1.1
    have J : PySem.W.InstAt s1.heap ad oe (Y.cx 7) (some od) := ⟨e1, e2, by unfold PySem.W.notCls; rw [e4], by rw [e3]; exact ho⟩
    have T := pi.xf
    have hno := pi.no
    rw [← hK] at T hno
    exact HandSPX.exc_get I1.kIn J T.ga T.gg T.exC (PySem.W.findObj_own T.hdC hno rfl (by rw [hl, hu])) (handed_of ru) ⟨l, H1, I1.tok _, ru, q⟩
end
end PL

/-! P26: repr of data with {} in it. -/
namespace PL
open PySem PySem.Spec L2
mutual
inductive Rx (h : Heap) : Value → PyData → List Addr → Prop
  | none : Rx h .none .none []
  | bool (b) : Rx h (.bool b) (.bool b) []
  | int (i t) : Rx h (.int i t) (.int i) []
  | str (x t) : Rx h (.str x t) (.str x) []
  | list {a o vs n xs as} : h.get? a = some o → o.cls = .type "list" → o.data = .seq vs n → RxL h vs.toList xs as → Rx h (.ref a) (.list xs) (a :: as)
  | tuple {a o vs n xs as} : h.get? a = some o → o.cls = .type "tuple" → o.data = .seq vs n → RxL h vs.toList xs as → Rx h (.ref a) (.tuple xs) as
  | dict {a o es n} : h.get? a = some o → o.cls = .type "dict" → o.data = .dict es n → es.toList = [] → (a == sysModules) = false → Rx h (.ref a) (.dict []) (a :: [] ++ [])
inductive RxL (h : Heap) : List Value → List PyData → List Addr → Prop
  | nil : RxL h [] [] []
  | cons {v vs d ds as bs} : Rx h v d as → RxL h vs ds bs → RxL h (v :: vs) (d :: ds) (as ++ bs)
end
mutual
theorem Rx.reads {h : Heap} : ∀ {v : Value} {d : PyData} {as : List Addr}, Rx h v d as → Reads h v d as
  | _, _, _, .none => .none
  | _, _, _, .bool b => .bool b
  | _, _, _, .int i t => .int i t
  | _, _, _, .str x t => .str x t
  | _, _, _, .list h1 h2 h3 h4 => .list h1 h2 h3 (RxL.reads h4)
  | _, _, _, .tuple h1 h2 h3 h4 => .tuple h1 h2 h3 (RxL.reads h4)
  | _, _, _, .dict (es := es) h1 h2 h3 h4 h5 => .dict (kvs := []) h1 h2 h3 (by rw [h4]; exact .nil) (by rw [h4]; exact .nil)
theorem RxL.reads {h : Heap} : ∀ {v : List Value} {d : List PyData} {as : List Addr}, RxL h v d as → ReadsAll h v d as
  | _, _, _, .nil => .nil
  | _, _, _, .cons r rs => .cons (Rx.reads r) (RxL.reads rs)
end
section
variable {prog : Program} {w : World} {h₀ : Heap}
mutual
theorem ReprK.of_rx : ∀ {v : Value} {d : PyData} {as : List Addr}, Rx h₀ v d as → d.showable = true → d.shown.length ≤ sizeLine → ∃ bs, ReadAtMost h₀ d.depth bs ∧ ReprK prog w bs h₀ d.depth v d.shown
  | _, _, _, .none, _, _ => ⟨[], (fun _ h => nomatch h), by simp only [PyData.shown]; exact .of_is ReprIs.none _ _ _⟩
  | _, _, _, .bool b, _, _ => ⟨[], (fun _ h => nomatch h), by simp only [PyData.shown]; exact .of_is (ReprIs.bool b) _ _ _⟩
  | _, _, _, .int i t, hs, _ => ⟨[], (fun _ h => nomatch h), by simp only [PyData.shown]; exact .of_is (ReprIs.int t (by simpa [PyData.showable] using hs)) _ _ _⟩
  | _, _, _, .str x t, _, hz => ⟨[], (fun _ h => nomatch h), by simp only [PyData.shown]; exact .of_is (ReprIs.str x t (by simpa only [PyData.shown] using hz)) _ _ _⟩
  | _, _, _, .list (a := a) (vs := vs) (xs := xs) h1 h2 h3 h4, hs, hz => by
    have hz' : (listText (PyData.shownAll xs)).length ≤ sizeLine := by simpa only [PyData.shown] using hz
    obtain ⟨bs, hb, hk⟩ := ReprK.of_rxL h4 (by simpa [PyData.showable] using hs) (fun t ht => Nat.le_trans (listText_mem_le ht) hz')
    have r : Reads h₀ (.ref a) (.list xs) _ := .list h1 h2 h3 h4.reads
    have hna : a ∉ bs := not_mem_of_deeper r (by simp only [PyData.depth]; omega) hb
    refine ⟨a :: bs, ReadAtMost.cons r (by simp only [PyData.depth]; omega) hb, ?_⟩
    simp only [PyData.depth, PyData.shown]
    obtain ⟨l⟩ := vs
    cases l with
    | nil =>
      have h4' : RxL h₀ [] xs _ := h4
      cases h4'
      simp only [PyData.shownAll, listText_nil]
      exact ReprK.listEmpty h1 h2 h3
    | cons x l => exact ReprK.list h1 h2 h3 hna (by simpa using hk.length_eq) (fun i y e => hk.item i y (by simpa using e))
  | _, _, _, .tuple (a := a) (xs := xs) h1 h2 h3 h4, hs, hz => by
    have hz' : (tupleText (PyData.shownAll xs)).length ≤ sizeLine := by simpa only [PyData.shown] using hz
    obtain ⟨bs, hb, hk⟩ := ReprK.of_rxL h4 (by simpa [PyData.showable] using hs) (fun t ht => Nat.le_trans (tupleText_mem_le ht) hz')
    have r : Reads h₀ (.ref a) (.tuple xs) _ := .tuple h1 h2 h3 h4.reads
    have hna : a ∉ bs := not_mem_of_deeper r (by simp only [PyData.depth]; omega) hb
    refine ⟨a :: bs, ReadAtMost.cons r (by simp only [PyData.depth]; omega) hb, ?_⟩
    simp only [PyData.depth, PyData.shown]
    exact ReprK.tuple h1 h2 h3 hna hk
  | _, _, _, .dict (a := a) (es := es) h1 h2 h3 h4 hsys, hs, hz => by
    have r : Reads h₀ (.ref a) (.dict []) _ := (Rx.dict h1 h2 h3 h4 hsys).reads
    refine ⟨a :: [], ReadAtMost.cons r (by simp only [PyData.depth]; omega) (show ReadAtMost h₀ (PyData.depthKv []) [] from fun _ h => nomatch h), ?_⟩
    simp only [PyData.depth, PyData.shown, PyData.shownKv_eq]
    exact ReprK.dict h1 h2 h3 hsys (fun z => nomatch z) (by rw [h4]; exact ReprEntriesK.of_two [] _ _ .nil .nil)
theorem ReprK.of_rxL : ∀ {vs : List Value} {ds : List PyData} {as : List Addr}, RxL h₀ vs ds as → PyData.showableAll ds = true → (∀ t ∈ PyData.shownAll ds, t.length ≤ sizeLine) →
    ∃ bs, ReadAtMost h₀ (PyData.depthAll ds) bs ∧ ReprAllK prog w bs h₀ (PyData.depthAll ds) vs (PyData.shownAll ds)
  | _, _, _, .nil, _, _ => ⟨[], (fun _ h => nomatch h), by simp only [PyData.shownAll]; exact .nil⟩
  | _, _, _, .cons (d := d) (ds := ds) r rs, hs, hz => by
    have hs' : d.showable = true ∧ PyData.showableAll ds = true := by simpa [PyData.showableAll] using hs
    obtain ⟨b1, hb1, k1⟩ := ReprK.of_rx r hs'.1 (hz _ (by simp only [PyData.shownAll]; exact List.mem_cons_self ..))
    obtain ⟨b2, hb2, k2⟩ := ReprK.of_rxL rs hs'.2 (fun t ht => hz t (by simp only [PyData.shownAll]; exact List.mem_cons_of_mem _ ht))
    refine ⟨b1 ++ b2, ?_, ?_⟩
    · intro b hm
      simp only [PyData.depthAll]
      rcases List.mem_append.mp hm with hm | hm
      · obtain ⟨d', as', r', hd'⟩ := hb1 b hm
        exact ⟨d', as', r', Nat.le_trans hd' (Nat.le_max_left _ _)⟩
      · obtain ⟨d', as', r', hd'⟩ := hb2 b hm
        exact ⟨d', as', r', Nat.le_trans hd' (Nat.le_max_right _ _)⟩
    · simp only [PyData.depthAll, PyData.shownAll]
      exact .cons ((k1.more fun b hb => List.mem_append_left _ hb).level_le (Nat.le_max_left _ _)) (k2.more_le (fun b hb => List.mem_append_right _ hb) (Nat.le_max_right _ _))
end
end
/-! ### data -/
mutual
/-- what repr tells, {} among it -/
def shq : D → Bool
  | .non => true
  | .bl _ => true
  | .int i => decide (i.natAbs.log2 < 1920)
  | .str _ => true
  | .lst xs => shqL xs
  | .tup xs => shqL xs
  | .dK kvs => kvs.isEmpty
  | _ => false
def shqL : List D → Bool
  | [] => true
  | x :: xs => shq x && shqL xs
end
mutual
def pyq : D → PyData
  | .non => .none
  | .bl b => .bool b
  | .int i => .int i
  | .str x => .str x
  | .lst xs => .list (pyqL xs)
  | .tup xs => .tuple (pyqL xs)
  | .dK _ => .dict []
  | _ => .none
def pyqL : List D → List PyData
  | [] => []
  | x :: xs => pyq x :: pyqL xs
end
section
variable {X : Cx} {Y : Yx} {pins : List (Addr × Obj)} {σ : L2.St} {H : Hp} {s : Shared}
mutual
theorem rx_of (I : Inv X pins σ H s) (hK : X.K = Y.K) : ∀ {d : D} {v : V} {u : Value}, shq d = true → At Y H v d → RelV v u → ∃ as, Rx s.heap u (pyq d) as
  | .non, v, u, _, a, r => by cases (show v = _ from a); cases r; exact ⟨_, .none⟩
  | .bl b, v, u, _, a, r => by cases (show v = _ from a); cases r; exact ⟨_, .bool b⟩
  | .int i, v, u, _, a, r => by cases (show v = _ from a); obtain ⟨t, rfl⟩ := r; exact ⟨_, .int i t⟩
  | .str x, v, u, _, a, r => by cases (show v = _ from a); obtain ⟨t, rfl⟩ := r; exact ⟨_, .str x t⟩
  | .lst xs, v, u, h, ⟨l, vs, e, z, _, q⟩, r => by
    subst e
    cases (show u = Value.ref l from r)
    obtain ⟨its, rv, ⟨o, n, ho, hc, _, hd⟩, _⟩ := I.list (SqL.of z)
    obtain ⟨as, hr⟩ := rxL_of I hK (ds := xs) h q rv
    exact ⟨_, .list ho hc hd hr⟩
  | .tup xs, v, u, h, ⟨l, vs, e, z, _, q⟩, r => by
    subst e
    cases (show u = Value.ref l from r)
    obtain ⟨its, rv, ⟨o, ho, hc, n, hd⟩, _⟩ := I.tuple (SqT.of z)
    obtain ⟨as, hr⟩ := rxL_of I hK (ds := xs) h q rv
    exact ⟨_, .tuple ho hc hd hr⟩
  | .dK kvs, v, u, h, ⟨l, vs, e, z, q⟩, r => by
    subst e
    cases (show u = Value.ref l from r)
    have hk : kvs.isEmpty = true := h
    rw [List.isEmpty_iff] at hk
    subst hk
    cases (show vs = [] from q)
    obtain ⟨_, hsys, ws, kv, o, es, ep, h1, h2, h3, _, h4, _⟩ := z.ok I.hok
    cases kv
    exact ⟨_, .dict h1 h2.1 h3 (by generalize es.toList = l at h4; cases h4; rfl) hsys⟩
  | .dT _, _, _, h, _, _ => by cases h
  | .ob _, _, _, h, _, _ => by cases h
  | .exc _ _, _, _, h, _, _ => by cases h
  | .scr _, _, _, h, _, _ => by cases h
  | .dN _, _, _, h, _, _ => by cases h
theorem rxL_of (I : Inv X pins σ H s) (hK : X.K = Y.K) : ∀ {ds : List D} {vs : List V} {us : List Value}, shqL ds = true → AtL Y H vs ds → Vals vs us → ∃ as, RxL s.heap us (pyqL ds) as
  | [], vs, us, _, a, r => by cases (show vs = [] from a); cases r; exact ⟨_, .nil⟩
  | d :: ds, vs, us, h, ⟨v, q, e, a, t⟩, r => by
    subst e
    have h2 : (shq d && shqL ds) = true := h
    rw [Bool.and_eq_true] at h2
    cases r with
    | cons r1 r2 =>
      obtain ⟨as, x1⟩ := rx_of I hK (d := d) h2.1 a r1
      obtain ⟨bs, x2⟩ := rxL_of I hK (ds := ds) h2.2 t r2
      exact ⟨_, .cons x1 x2⟩
end
end
def rReprq (K : PySem.W.Frag) (Y : Yx) : List V → Hp → VK → Prop := fun xs H Q => ∃ x d, xs = [x] ∧ At Y H x d ∧ shq d = true ∧ (pyq d).showable = true ∧ (pyq d).depth < 64 ∧ (pyq d).shown.length ≤ sizeLine ∧ Q (.str (pyq d).shown) H
section
variable {X : Cx} {Y : Yx}
mutual
theorem shq_ok : ∀ {d : D}, shq d = true → (pyq d).showable = true
  | .non, _ => rfl
  | .bl _, _ => rfl
  | .int i, h => h
  | .str x, _ => rfl
  | .lst xs, h => shqL_ok (ds := xs) h
  | .tup xs, h => shqL_ok (ds := xs) h
  | .dK _, h => rfl
  | .dT _, h => by cases h
  | .ob _, h => by cases h
  | .exc _ _, h => by cases h
  | .scr _, h => by cases h
  | .dN _, h => by cases h
theorem shqL_ok : ∀ {ds : List D}, shqL ds = true → PyData.showableAll (pyqL ds) = true
  | [], _ => rfl
  | d :: ds, h => by
    have h2 : (shq d && shqL ds) = true := h
    rw [Bool.and_eq_true] at h2
    show ((pyq d).showable && PyData.showableAll (pyqL ds)) = true
    rw [shq_ok h2.1, shqL_ok h2.2]; rfl
end
/-- repr's road for a list, a tuple, an empty dict -/
theorem repr_rx {prog : Program} {w : World} {A : Around} {E : Value → Shared → Prop} {s : Shared} {Q : Value → Shared → Prop} {h₀ : Heap} {a : Addr} {d : PyData} {as : List Addr} (r : Rx h₀ (.ref a) d as) (hs : d.showable = true) (hg : A.guards = some []) (hu : A.units + (d.depth + 1) < cLine) (hk0 : ∀ b o, h₀.get? b = some o → s.heap.get? b = some o)
    (hQ : ∀ h' u tk, (∀ b o, s.heap.get? b = some o → h'.get? b = some o) → Q (.str d.shown u) { s with heap := h', toks := tk }) (hsz : d.shown.length ≤ sizeLine) : wpAny (model prog w) A (call (.builtin "repr") [.ref a]) Q E s := by
  have go : ∃ T idr, ShowsBy prog w h₀ a d T idr := by
    have rr := r.reads
    cases r with
    | list h1 h2 h3 h4 =>
      rename_i o vs n xs bs₀
      have hz' : (listText (PyData.shownAll xs)).length ≤ sizeLine := by simpa only [PyData.shown] using hsz
      obtain ⟨bs, hb, hk⟩ := ReprK.of_rxL (prog := prog) (w := w) h4 (by simpa [PyData.showable] using hs) (fun t ht => Nat.le_trans (listText_mem_le ht) hz')
      have hna : a ∉ bs := not_mem_of_deeper rr (by simp only [PyData.depth]; omega) hb
      refine ⟨"list", "list.__repr__", F.slot_list_repr.toG, F.slot_list_str, F.slot_list_format, fun s hk0 => ⟨o, hk0 _ _ h1, h2⟩, fun A E s Q hg hu hk0 hQ => ?_⟩
      simp only [PyData.depth] at hu
      simp only [PyData.shown] at hQ
      obtain ⟨l⟩ := vs
      cases l with
      | nil =>
        have h4' : RxL h₀ [] xs _ := h4
        cases h4'
        simp only [PyData.shownAll, listText_nil] at hQ
        exact call_list_repr_empty ⟨o, hk0 _ _ h1, h2⟩ (hk0 _ _ h1) h3 (hQ s.heap _ _ fun _ _ e => e)
      | cons x l =>
        exact call_list_reprK h1 h2 h3 hna (by simpa using hk.length_eq) (fun i y e => hk.item i y (by simpa using e)) hg (fun b _ => Clear.nil b) hu hk0 hQ hz'
    | tuple h1 h2 h3 h4 =>
      rename_i o vs n xs
      have hz' : (tupleText (PyData.shownAll xs)).length ≤ sizeLine := by simpa only [PyData.shown] using hsz
      obtain ⟨bs, hb, hk⟩ := ReprK.of_rxL (prog := prog) (w := w) h4 (by simpa [PyData.showable] using hs) (fun t ht => Nat.le_trans (tupleText_mem_le ht) hz')
      have hna : a ∉ bs := not_mem_of_deeper rr (by simp only [PyData.depth]; omega) hb
      refine ⟨"tuple", "tuple.__repr__", F.slot_tuple_repr, F.slot_tuple_str, F.slot_tuple_format, fun s hk0 => ⟨o, hk0 _ _ h1, h2⟩, fun A E s Q hg hu hk0 hQ => ?_⟩
      simp only [PyData.depth] at hu
      simp only [PyData.shown] at hQ
      exact call_tuple_reprK h1 h2 h3 hna hk hg (fun b _ => Clear.nil b) hu hk0 hQ hz'
    | dict h1 h2 h3 h4 hsys =>
      rename_i o es n
      refine ⟨"dict", "dict.__repr__", F.slot_dict_repr, F.slot_dict_str, F.slot_dict_format, fun s hk0 => ⟨o, hk0 _ _ h1, h2⟩, fun A E s Q hg hu hk0 hQ => ?_⟩
      simp only [PyData.depth] at hu
      simp only [PyData.shown, PyData.shownKv_eq] at hQ
      exact call_dict_reprK (as := []) h1 h2 h3 hsys (fun z => nomatch z) (by rw [h4]; exact ReprEntriesK.of_two [] _ _ .nil .nil) hg (fun b _ => Clear.nil b) hu hk0 hQ (by rw [← PyData.shownKv_eq]; simpa only [PyData.shown] using hsz)
  obtain ⟨T, idr, S⟩ := go
  exact call_repr_slot (by omega) (S.typeIs s hk0) S.slotRepr (S.call A.in1 E s _ hg (by show A.units + 1 + d.depth < cLine; omega) hk0 fun h' u tk hk => ⟨_, _, rfl, hQ h' u tk hk⟩)
theorem o_reprq (hK : X.K = Y.K) (gd : X.A.guards = some []) (hu : X.A.units + 65 < cLine) : CallR X (.builtin "repr") (rReprq X.K Y) := by
  intro pins s σ H xs us Q I r h
  obtain ⟨x, d, rfl, hd, hq, hs, hdep, hsz, q⟩ := h
  obtain ⟨u, rfl, rx⟩ := vals1 r
  have seq : ∀ {a : Addr}, u = Value.ref a → wpAny (model X.prog X.w) X.A (call (.builtin "repr") [u]) (EP X pins σ Q) X.xe s := fun {a} e => by
    obtain ⟨as, rr⟩ := rx_of I hK hq hd rx
    subst e
    exact repr_rx rr hs gd (by omega) (fun _ _ e => e) (fun h' u tk k => ⟨.str _, H, I.kept k, ⟨_, rfl⟩, q⟩) hsz
  cases d with
  | non => cases (show x = _ from hd); cases (show u = _ from rx); exact PySem.P.repr_of_none ⟨.str _, H, I.tok _, ⟨_, rfl⟩, q⟩
  | bl b => cases (show x = _ from hd); cases (show u = _ from rx); exact PySem.P.repr_of_bool ⟨.str _, H, I.tok _, ⟨_, rfl⟩, q⟩
  | int i => cases (show x = _ from hd); obtain ⟨t, rfl⟩ := (show ∃ t, u = Value.int i t from rx); exact PySem.P.repr_of_int (of_decide_eq_true hs) ⟨.str _, H, I.tok _, ⟨_, rfl⟩, q⟩
  | str z => cases (show x = _ from hd); obtain ⟨t, rfl⟩ := (show ∃ t, u = Value.str z t from rx); exact PySem.P.repr_of_str ⟨.str _, H, I.tok _, ⟨_, rfl⟩, q⟩ hsz
  | lst xs => obtain ⟨a, vs, rfl, _⟩ := hd; exact seq rx
  | tup xs => obtain ⟨a, vs, rfl, _⟩ := hd; exact seq rx
  | dK xs => obtain ⟨a, vs, rfl, _⟩ := hd; exact seq rx
  | _ => cases hq
def shwq (d : D) : Str := (pyq d).shown
def reprqD : List D → Option D
  | [d] => if shq d = true ∧ (pyq d).depth < 64 ∧ (shwq d).length ≤ cap then some (.str (shwq d)) else none
  | _ => none
theorem v_reprq : VCa Y (rReprq Y.K Y) reprqD := fun hh H xs ds c Q al a z q => by
  match ds, z, a with
  | [d], z, a =>
    have z2 : (if shq d = true ∧ (pyq d).depth < 64 ∧ (shwq d).length ≤ cap then some (D.str (shwq d)) else none) = some c := z
    split at z2
    · rename_i hc
      cases z2
      obtain ⟨x, rfl, ax⟩ := args1 a
      exact ⟨x, d, rfl, ax.same hd_le, hc.1, shq_ok hc.1, hc.2.1, by rw [← cap_eq]; exact hc.2.2, q _ H (Same.refl H) rfl⟩
    · cases z2
end
end PL

/-! P27: x += e, try without a name. -/
namespace PL
open PySem PySem.Spec L2
section
variable {X : Cx} {Y : Yx} {W : WX} {e : Expr} {f : EF D} {p p2 pos pos' : Pos}
/-- x += e of ints -/
def auF (i : Nat) (f : EF D) : SF := fun ρ => match ρ[i]? with
  | some (.dat (.int x)) => lf (f ρ) ρ fun d => (match d with
    | .int y => if i < ρ.length then some (.nx (ρ.set i (.dat (.int (x + y))))) else none
    | _ => none)
  | _ => none
theorem sx_aug {i : Nat} {x : Str} (hN : X.N.Nodup) (hi : X.N[i]? = some x) (hx : Loc X.env.scope x) (he : PE X e (tE Y W f)) (hf : X.fn x = true ∨ X.env.scope.names.lookup x = some .local := by first | exact .inl rfl | exact .inr rfl | assumption) :
    PS X (.AugAssign (.Name x pos') .Add e pos) (tS Y W (auF i f)) := PS.imp (ps_aug hN hi hx he ip_add hf) fun Dn σ H ⟨fo, at_, B, ρ, E, h⟩ => by
  unfold auF at h
  cases es : ρ[i]? with
  | none => rw [es] at h; exact h.elim
  | some s =>
    rw [es] at h
    cases s with
    | dat d =>
      cases d with
      | int x =>
        obtain ⟨v, e2, q⟩ := E.dat es
        cases (show v = V.int x from q)
        refine ⟨.int x, e2, fo, at_, B, ρ, E, (lf_post E h).mono fun d H1 s1 ⟨E1, h1⟩ v a => ?_⟩
        cases d with
        | int y =>
          dsimp only at h1
          by_cases z : i < ρ.length
          · rw [if_pos z] at h1
            exact ⟨x, y, rfl, a, h1 _ _ H1 (E1.putD (Same.refl H1) z rfl)⟩
          · rw [if_neg z] at h1; exact h1.elim
        | _ => exact h1.elim
      | _ => exact h.elim
    | _ => exact h.elim
/-- what the clause 'except c' says of class k -/
def ctE (j k : Nat) : Option Bool := if k < 8 ∧ j < 8 then some (k == j || j == 0) else none
theorem ctE_ok (xi : ExI Y) {j : Nat} : ∀ k b, ctE j k = some b → PySem.W.exmOne Y.K (.ref (Y.cx k)) (.ref (Y.cx j)) = some b := fun k b h => by
  unfold ctE at h
  split at h
  · rename_i hc; cases h; exact xi.em k j hc.1 hc.2
  · cases h
/-- try: body / except c: v = None -/
def tryN (j : Nat) (ct : Nat → Option Bool) (F : SF) : SF := fun ρ => match F ρ with
  | some (.rs ρ' k ps) => (match ct k with
    | some true => if j < ρ'.length then some (.nx (ρ'.set j (.dat .non))) else none
    | some false => some (.rs ρ' k ps)
    | none => none)
  | o => o
theorem sx_tryN {x v : Str} {c : Value} {j jj : Nat} {body : List Stmt} {np pos pos' p1 p2 p3 : Pos} {F : SF} {ct : Nat → Option Bool} (hK : X.K = Y.K) (hst : X.stack = X.env :: X.outer) (hfm : X.env.frame = some X.env.locals) (hN : X.N.Nodup) (hj : X.N[j]? = some v)
    (hlv : X.env.scope.names.lookup v = some .local) (hcl : Names X x c) (tko : Takes X W) (hct : ∀ k b, ct k = some b → PySem.W.exmOne Y.K (.ref (Y.cx k)) c = some b)
    (hbd : ∀ (V : WX) (pn : List (Addr × Obj)) (xf : Value → Shared → Prop), Takes (X.tr pn xf) V → PassesOwn (model X.prog X.w) X.A X.env xf → PSs (X.tr pn xf) body (tS Y V F)) :
    PS X (.Try body [.ExceptHandler (some (.Name x np)) none [.Assign [.Name v p1] (.Constant .none jj p2) p3] pos'] [] [] pos) (tS Y W (tryN j ct F)) :=
  PS.imp (ps_try_only (tb := fun V => tS Y V F) (ts := fun _ _ _ => tAsg (tC .non) (gName j)) hst hfm hcl tko hbd (fun a oe cls d pn _ _ => pss_one (ps_set hN hj (.inl hlv) pe_non rfl (.inr hlv)))) fun D σ H ⟨fo, at_, B, ρ, E, h⟩ => by
    refine ⟨fo, at_, B, ρ, E, ?_⟩
    unfold tryN at h
    cases e : F ρ with
    | none => rw [e] at h; exact h
    | some o =>
      rw [e] at h
      cases o with
      | nx r => exact h
      | ret r => exact h
      | brk r => exact h
      | cnt r => exact h
      | rs ρ' k ps =>
        dsimp only at h
        cases ek : ct k with
        | none => rw [ek] at h; exact h.elim
        | some b =>
          rw [ek] at h
          intro at2 σ2 H2 H3 dd E2 s23 xd
          refine ⟨b, by rw [hK]; exact hct k b ek, fun hb a na => ?_, fun hb => ?_⟩
          · subst hb
            dsimp only at h
            split at h
            case isFalse => exact h.elim
            rename_i lj
            exact h _ _ _ (E2.putD s23 lj rfl)
          · subst hb
            exact h at2 σ2 H2 H3 dd E2 s23 xd
end
end PL

/-! P28: comprehensions that look at owned things; reversed lists. -/
namespace PL
open PySem PySem.Spec L2
theorem u9 {k : Nat} {A : Around} (r : Room k A) : A.units + 9 < cLine := by have := r.un; omega
section
variable {X : Cx} {Y : Yx} {W : WX} {e : Expr} {f : EF D} {p p2 pos pos' : Pos}
theorem viewO_rd {f : EF Sl} {σ : L2.St} {H : Hp} {Q : VK} (h : tO Y W (viewO f) σ H Q) : tO Y W f σ H Q := by
  obtain ⟨fo, at_, B, ρ, E, h⟩ := h
  refine ⟨fo, _, H, _, E.view, (Post.bind h).mono fun s H1 s1 h1 v oa new r hn => ?_⟩
  by_cases z : stillS s = true
  · rw [if_pos z] at h1
    have E1 := E.ext s1
    have up : ∀ a xs, hd (fun a => hid fo (fun _ => none) a ∨ oa = some a) H1 a = some (.tup xs) → hd (fun a => hid fo at_ a ∨ oa = some a) H1 a = some (.tup xs) := fun a xs e => by
      obtain ⟨n, e⟩ := hd_some e
      refine (hd_not ?_).trans e
      rintro ((m | ⟨i, m⟩) | m)
      · exact n (.inl (.inl m))
      · exact E1.noTup m xs e
      · exact n (.inr m)
    refine (h1 : Post Y W σ H1 (.ok s) _).now v oa new ?_ hn
    cases s with
    | dat d => obtain ⟨e1, y, e2, q⟩ := r; exact ⟨e1, y, e2, still_at up z q⟩
    | ol xs => obtain ⟨b, vs, e1, e2, e3, e4, q⟩ := r; exact ⟨b, vs, e1, e2, e3, e4, stillL_at up z q⟩
    | _ => cases z
  · rw [if_neg z] at h1; exact h1.elim
section
variable {i : Nat} {y : Str} {py : Pos} {elt tg iter : Expr} {ifs : List Expr} {scope : Scope} {own : List (Str × Nat)} {spos : Pos} {g : TG} {bs : List Nat} {l : EF (List D)} {b : BF} {tt : EF Bool}
theorem sx_setLcV (hc : X.calm = true) (hN : X.N.Nodup) (hy : X.N[i]? = some y) (hyl : X.env.scope.names.lookup y = some .local)
    (hsw : swapsWith (.ListComp elt [⟨tg, iter, ifs, 0⟩] scope pos) (some (.Name y py)) spos.line X.env = pure true) (hi : PI X tg iter (tI Y W l)) (ok : BlkOk X.N X.env.scope scope own)
    (hg : ∀ (s : Shared) (H : Hp) (C : Addr) (cl : List (Str × Addr)) (fp : List Addr), PG (X.blk s H scope (compEnvC scope cl C X.env) fp) tg g) (tg_ : TgR Y g bs b) (sub : ∀ i ∈ bs, i ∈ own.map (·.2))
    (ht : ∀ (s : Shared) (H : Hp) (C : Addr) (cl : List (Str × Addr)) (fp : List Addr), PTs (X.blk s H scope (compEnvC scope cl C X.env) fp) ifs (tT Y W0 tt))
    (he : ∀ (s : Shared) (H : Hp) (C : Addr) (cl : List (Str × Addr)) (fp : List Addr), PE (X.blk s H scope (compEnvC scope cl C X.env) fp) elt (tE Y W0 f)) (hs : ∀ x, foldedSetIterable iter X.env x = pure x := by intro _; rfl) :
    PS X (.Assign [.Name y py] (.ListComp elt [⟨tg, iter, ifs, 0⟩] scope pos) spos) (tS Y W (soF i (viewO (lcF (own.map (·.2)) l b tt f)))) :=
  sx_setOG (ps_setLc hc hN hy hyl hsw hi ok hg ht he hs) fun σ H Q h => lc_rd (fun _ q => q) tg_ sub (fun _ _ _ q => q) (fun _ _ _ q => q) (viewO_rd h)
theorem sx_setLcDV (hc : X.calm = true) (hN : X.N.Nodup) (hy : X.N[i]? = some y) (hyl : X.env.scope.names.lookup y = some .local)
    (hsw : swapsWith (.ListComp elt [⟨tg, iter, ifs, 0⟩] scope pos) (some (.Name y py)) spos.line X.env = pure true) (hi : PI X tg iter (tI Y W l)) (ok : BlkOk X.N X.env.scope scope own)
    (hg : ∀ (s : Shared) (H : Hp) (C : Addr) (cl : List (Str × Addr)) (fp : List Addr), PG (X.blk s H scope (compEnvC scope cl C X.env) fp) tg g) (tg_ : TgR Y g bs b) (sub : ∀ i ∈ bs, i ∈ own.map (·.2))
    (ht : ∀ (s : Shared) (H : Hp) (C : Addr) (cl : List (Str × Addr)) (fp : List Addr), PTs (X.blk s H scope (compEnvC scope cl C X.env) fp) ifs (tT Y W0 tt))
    (he : ∀ (s : Shared) (H : Hp) (C : Addr) (cl : List (Str × Addr)) (fp : List Addr), PE (X.blk s H scope (compEnvC scope cl C X.env) fp) elt (tE Y W0 f)) (hs : ∀ x, foldedSetIterable iter X.env x = pure x := by intro _; rfl) :
    PS X (.Assign [.Name y py] (.ListComp elt [⟨tg, iter, ifs, 0⟩] scope pos) spos) (tS Y W (stF i (fzE (viewO (lcF (own.map (·.2)) l b tt f))))) :=
  sx_setG (ps_setLc hc hN hy hyl hsw hi ok hg ht he hs) fun σ H Q h => lc_rd (fun _ q => q) tg_ sub (fun _ _ _ q => q) (fun _ _ _ q => q) (viewO_rd (fzE_rd h))
end
/-! ### xs[::-1] -/
def rvE (f : EF D) : EF Sl := fun ρ => (f ρ).bind fun d => match d with
  | .lst xs => .ok (.ol xs.reverse)
  | _ => .bad
theorem po_rev {k : Nat} {p1 p3 : Pos} (hK : X.K = Y.K) (he : PE X e (tE Y W f)) : PE X (.Subscript e (.Slice none none (some (.UnaryOp .USub (.Constant (.int 1) k p1) p2)) p3) pos) (tO Y W (rvE f)) :=
  PE.imp (pe_revL he) fun σ H Q ⟨fo, at_, B, ρ, E, h⟩ => ⟨fo, at_, B, ρ, E, (Post.bind h).mono fun d H1 s1 h1 v a => by
    cases d with
    | lst xs =>
      obtain ⟨r, vs, rfl, g, sq, ln, z, av⟩ := at_seqL a
      refine ⟨r, vs, rfl, by rw [hK]; exact sq, fun n hn => (h1 : Post Y W σ H1 (.ok (Sl.ol xs.reverse)) _) _ (same_new hn) _ (some n) (fun b e => by cases e; exact s1.free hn) (sl_newL (E.ext s1).al hn (by rw [List.length_reverse, ← av.length]; exact z) av.reverse) (fun z => nomatch z)⟩
    | _ => exact h1.elim⟩
end
end PL

/-! P29: facts of the classes, read from the heap. -/
namespace PL
open PySem PySem.Spec L2
def excN (c : Nat) : Str := (["HomeError", "BadHouse", "BadRow", "BadRoom", "BadSet", "BadNumber", "BadText", "NoHome"] : List Str).getD c ""
def yx (K : PySem.W.Frag) : Yx := ⟨K, He.ga K "House", fun c => He.ga K (excN c)⟩
def xcB (K : PySem.W.Frag) (D : Addr) : Bool :=
  decide (PySem.W.findIn K (.ref D) "__getattribute__" = some (some (.builtin "BaseException.__getattribute__"))) && (decide (PySem.W.findIn K (.ref D) "__getattr__" = some none) && (decide (PySem.W.subIn K (.ref D) (.type "BaseException") = some true) && (PySem.W.hasDictIn K D &&
  (decide (PySem.W.findIn K (.ref D) "__class__" = some (some (.builtin "object.__class__"))) && (decide (PySem.W.specialIn K (.builtin "object.__class__") "__get__" = some (some (.builtin "getset_descriptor.__get__"))) && (decide (PySem.W.takesIn K (.builtin "object.__class__") = some true) &&
  decide (PySem.W.mroIn K D (.type "object") = some true)))))))
theorem xcB_ok {K : PySem.W.Frag} {D : Addr} (h : xcB K D = true) : ExcC K D := by
  unfold xcB at h
  simp only [Bool.and_eq_true, decide_eq_true_eq] at h
  obtain ⟨h1, h2, h3, h4, h5, h6, h7, h8⟩ := h
  exact ⟨h1, h2, h3, h4, h5, h6, h7, h8⟩
def xiB (K : PySem.W.Frag) : Bool := (List.range 8).all fun c => xcB K (He.ga K (excN c)) && (decide (PySem.W.kitOne K (.ref (He.ga K (excN c))) (.type "ValueError") = some true) &&
  (List.range 8).all fun k => decide (PySem.W.kitOne K (.ref (He.ga K (excN c))) (.ref (He.ga K (excN k))) = some (c == k || k == 0)) && decide (PySem.W.exmOne K (.ref (He.ga K (excN c))) (.ref (He.ga K (excN k))) = some (c == k || k == 0)))
theorem xiB_ok {K : PySem.W.Frag} (h : xiB K = true) : ExI (yx K) := by
  unfold xiB at h
  rw [List.all_eq_true] at h
  have key : ∀ c, c < 8 → xcB K (He.ga K (excN c)) = true ∧ PySem.W.kitOne K (.ref (He.ga K (excN c))) (.type "ValueError") = some true ∧ ∀ k, k < 8 → PySem.W.kitOne K (.ref (He.ga K (excN c))) (.ref (He.ga K (excN k))) = some (c == k || k == 0) ∧ PySem.W.exmOne K (.ref (He.ga K (excN c))) (.ref (He.ga K (excN k))) = some (c == k || k == 0) := fun c hc => by
    have := h c (List.mem_range.mpr hc)
    simp only [Bool.and_eq_true, decide_eq_true_eq, List.all_eq_true, List.mem_range] at this
    exact this
  exact ⟨fun c hc => xcB_ok (key c hc).1, fun c k hc hk => ((key c hc).2.2 k hk).1, fun c hc => (key c hc).2.1, fun c k hc hk => ((key c hc).2.2 k hk).2⟩
def ihB (K : PySem.W.Frag) : Bool := decide (PySem.W.findIn K (.ref (He.ga K "House")) "__class__" = some (some (.builtin "object.__class__"))) && (decide (PySem.W.specialIn K (.builtin "object.__class__") "__get__" = some (some (.builtin "getset_descriptor.__get__"))) &&
  (decide (PySem.W.takesIn K (.builtin "object.__class__") = some true) && (decide (PySem.W.mroIn K (He.ga K "House") (.type "object") = some true) && decide (PySem.W.kitOne K (.ref (He.ga K "House")) (.ref (He.ga K "House")) = some true))))
theorem ihB_ok {K : PySem.W.Frag} (h : ihB K = true) (c : Cls K (He.ga K "House")) : C8.InsC (yx K).K (yx K).C := by
  unfold ihB at h
  simp only [Bool.and_eq_true, decide_eq_true_eq] at h
  obtain ⟨h1, h2, h3, h4, h5⟩ := h
  exact ⟨c, h1, h2, h3, h4, h5⟩
def prB (K : PySem.W.Frag) : Bool := xfB K (He.ga K (excN 7)) && decide (PySem.W.findIn K (.ref (He.ga K (excN 7))) "pairs" = some none)
theorem prB_ok {K : PySem.W.Frag} (h : prB K = true) : PrI (yx K) := by
  unfold prB at h
  simp only [Bool.and_eq_true, decide_eq_true_eq] at h
  exact ⟨xfB_ok h.1, h.2⟩
end PL

/-! P30: isinstance of dicts whose keys are tuples. -/
namespace PL
open PySem PySem.Spec L2
def rIsT (K : PySem.W.Frag) : List V → Hp → VK → Prop := fun xs H Q => ∃ (a : Addr) (kvs : List (List Key × V)) (c : V) (u : Value) (b : Bool), xs = [.ref a, c] ∧ ClsV c u ∧ Rd H a (.dT kvs) ∧ PySem.W.kitOne K (.type "dict") u = some b ∧ Q (.bl b) H
section
variable {X : Cx} {Y : Yx} {W : WX} {e : Expr} {f : EF D} {p p2 pos : Pos}
theorem call_isT : CallR X (.builtin "isinstance") (rIsT X.K) := by
  intro pins s σ H xs us Q I r h
  obtain ⟨a, kvs, c, u, b, rfl, k, hr, e, q⟩ := h
  obtain ⟨u1, u2, rfl, r1, r2⟩ := vals2 r
  have e2 := k.eq r2
  subst e2
  cases (show u1 = Value.ref a from r1)
  obtain ⟨_, _, xs, _, o, es, ep, h1, h2, _⟩ := hr.ok I.hok
  exact PySem.W.kia_one PySem.W.kitx_dict I.kIn ⟨o, h1, h2.1⟩ e (fun z => nomatch z) fun tk => ⟨.bl b, H, I.tok tk, rfl, q⟩
@[simp] def isTD (n : String) : D → Option D
  | .dT _ => (kitB "dict" n).map .bl
  | d => isT n d
theorem isTD_dT {n : String} {kvs : List (List Key × D)} : isTD n (.dT kvs) = (kitB "dict" n).map .bl := rfl
theorem px_isiD {n : String} {y : Str} (hg : Gl X "isinstance") (hm : X.mg "isinstance" = none) (hg2 : Gl X y) (hm2 : X.mg y = none) (hv : bootBuiltins y = some (.type n)) (hK : X.K = Y.K) (he : PE X e (tE Y W f)) (hn : y ≠ "__name__" := by decide) (hd : (y == ("__debug__" : Str)) = false := by decide)
    (hs : starEach [e, .Name y p2] X.env = (false, eval e X.env) :: starEach [.Name y p2] X.env := by rfl) (hs2 : starEach [.Name y p2] X.env = (false, eval (.Name y p2) X.env) :: starEach [] X.env := by rfl) (hpl : (backTo pos (starEach [.Name y p2] X.env)).any (·.1) = false := by rfl) :
    PE X (.Call (.Name "isinstance" p) [e, .Name y p2] [] pos) (tE Y W (un f (isTD n))) := by
  refine PE.imp (pe_callB (id := "isinstance") (call_isi.or call_isT) hg hm (by decide +kernel) (pa_cons he (pa_cons (pe_bltn (v := .ty n) hg2 hm2 hv rfl hn hd) pa_nil hs2) hs) (by decide) (by decide) hs hpl) fun σ H Q ⟨fo, at_, B, ρ, E, h⟩ => ?_
  refine ⟨fo, at_, B, ρ, E, (Post.bind h).mono fun d H1 s1 h1 v a => ?_⟩
  obtain ⟨c, ec, h2⟩ := Post.op h1
  by_cases hT : ∃ kvs, d = .dT kvs
  · obtain ⟨kvs, rfl⟩ := hT
    cases ek : kitB "dict" n with
    | none => rw [isTD_dT, ek] at ec; cases ec
    | some k =>
      rw [isTD_dT, ek] at ec; cases ec
      obtain ⟨ad, xs, rfl, rd, _⟩ := a
      exact .inr ⟨ad, xs, .ty n, .type n, k, rfl, .ty n, (RLe.of_same hd_le).rd (fun _ _ e => nomatch e) rd, kit_ty ek, h2 H1 (Same.refl H1) _ rfl⟩
  · have ec2 : isT n d = some c := by
      cases d <;> first | exact ec | exact absurd ⟨_, rfl⟩ hT
    unfold isT at ec2
    cases et : tyN d with
    | none => rw [et] at ec2; cases ec2
    | some t =>
      rw [et] at ec2
      cases ek : kitB t n with
      | none => rw [Option.bind_some, ek] at ec2; cases ec2
      | some k =>
        rw [Option.bind_some, ek] at ec2
        cases ec2
        refine .inl ⟨v, .ty n, .type t, .type n, k, rfl, .ty n, ?_, kit_ty ek, h2 H1 (Same.refl H1) _ rfl⟩
        rw [hK]; exact tyN_v et a
@[simp] theorem kB_dd : kitB "dict" "dict" = some true := by decide +kernel
end
end PL

/-! P31: walking a dict of tuple keys under its lock. -/
namespace PL
open PySem PySem.Spec L2
section
variable {X : Cx} {Y : Yx} {W : WX}
def keysTV (kvs : List (List Key × D)) : List D := kvs.map fun kv => .tup (kv.1.map kD)
def keyTL : D → Option (List D)
  | .dT kvs => if (kvs.all fun kv => decide (kv.1.length ≤ cap)) = true then some (keysTV kvs) else none
  | _ => none
@[simp] def keysTE (f : EF D) : EF (List D) := fun ρ => (f ρ).bind fun d => ofO (keyTL d)
theorem AtT.getK {G : Hp} : ∀ {vs : List (List Key × V)} {ds : List (List Key × D)}, AtT Y G vs ds → ∀ {i : Nat} {k : List Key} {v : V}, vs[i]? = some (k, v) → ∃ d, ds[i]? = some (k, d)
  | _, [], a, i, k, v, e => by cases (show _ = [] from a); simp at e
  | _, (k0, d0) :: ds, ⟨w, q, h, _, t⟩, i, k, v, e => by
    subst h
    cases i with
    | zero => simp at e; exact ⟨d0, by simp [e.1]⟩
    | succ i =>
      obtain ⟨d, ed⟩ := AtT.getK t (i := i) (k := k) (v := v) (by simpa using e)
      exact ⟨d, by simpa using ed⟩
theorem items_keysT {h : Addr → Prop} {H : Hp} {d : Addr} {o : Obj} {vs : List (List Key × V)} {ds : List (List Key × D)} (e : hd h H d = some (.frz o (.dT vs))) (a : AtT Y (hd h H) vs ds) (hc : (ds.all fun kv => decide (kv.1.length ≤ cap)) = true) : Items Y (hd h H) (Itkt d o vs) (keysTV ds) := by
  refine ⟨_, _, (show (keysTV ds).length = vs.length by unfold keysTV; rw [List.length_map, a.length]) ▸ walk_keysT, fun H1 s => s _ _ e, fun i H1 x H2 h2 hi s al y => ?_⟩
  obtain ⟨rfl, k, v, q, e1, rfl, e2⟩ := y
  obtain ⟨d2, e3⟩ := a.getK e1
  have hk : k.length ≤ cap := of_decide_eq_true (List.all_eq_true.mp hc _ (List.mem_of_getElem? e3))
  refine ⟨Same.refl _, .tup (k.map kD), ?_, q, k.map kV, rfl, (hd_not fun hb => al.nt q _ hb e2).trans e2, by rw [List.length_map]; exact hk, at_kV k⟩
  unfold keysTV
  rw [List.getElem?_map, e3]; rfl
theorem keysTE_ok {f : EF D} {ρ : List Sl} {α : Type} {σ : L2.St} {H : Hp} {K : List D → Hp → Prop} (noex : ∀ ρ c ps, f ρ ≠ .ex c ps) (k : Post Y W σ H (keysTE f ρ) K) : ∃ kvs, f ρ = .ok (.dT kvs) ∧ (kvs.all fun kv => decide (kv.1.length ≤ cap)) = true ∧ Post Y W σ H (.ok (keysTV kvs)) K := by
  unfold keysTE at k
  cases e : f ρ with
  | bad => rw [e] at k; exact k.elim
  | ex c ps => exact absurd e (noex ρ c ps)
  | ok d =>
    rw [e, bind_ok] at k
    cases d with
    | dT kvs =>
      unfold keyTL at k
      dsimp only at k
      split at k
      · rename_i h; exact ⟨kvs, rfl, h, k⟩
      · exact k.elim
    | _ => exact k.elim
theorem keysT_rd {iter : Expr} {td : TE} {val : L2.St → Hp → Option V} {f : EF D} (De : DEx X Y iter td val f) {σ : L2.St} {H : Hp} {q : Addr} {o : Obj} {ws : List (List Key × V)} (ev : val σ H = some (.ref q)) (eq : H q = some (.frz o (.dT ws))) {Rr : It → Hp → Prop} (h : tI Y W (keysTE f) σ H Rr) : iKeys td σ H Rr := by
  obtain ⟨fo, at_, B, ρ, E, k⟩ := h
  obtain ⟨kvs, ef, hall, k⟩ := keysTE_ok (α := D) De.noex k
  obtain ⟨v2, e2, a⟩ := De.at_ fo at_ B σ H ρ _ E ef
  rw [ev] at e2
  cases e2
  obtain ⟨q', xs, eq', rd, ak⟩ := a
  cases eq'
  rcases rd with rd | ⟨o', rd⟩
  · rw [(hd_some rd).2] at eq; cases eq
  · have e3 := (hd_some rd).2
    rw [eq] at e3
    cases e3
    exact De.run σ H _ _ ev ⟨q, o, rfl, .inr ⟨ws, eq, k H (Same.refl H) _ (items_keysT rd ak hall)⟩⟩
theorem po_lcKT {elt tg iter : Expr} {ifs : List Expr} {scope : Scope} {own : List (Str × Nat)} {pos : Pos} {g : TG} {bs : List Nat} {td : TE} {val : L2.St → Hp → Option V} {fd : EF D} {b : BF} {tt : EF Bool} {f : EF D} (hc : X.calm = true) (hN : X.N.Nodup) (De : DEx X Y iter td val fd) (ok : BlkOk X.N X.env.scope scope own)
    (hg : ∀ (s : Shared) (H : Hp) (C : Addr) (cl : List (Str × Addr)) (fp : List Addr), PG (X.blk s H scope (compEnvC scope cl C X.env) fp) tg g) (tg_ : TgR Y g bs b) (sub : ∀ i ∈ bs, i ∈ own.map (·.2))
    (ht : ∀ (s : Shared) (H : Hp) (C : Addr) (cl : List (Str × Addr)) (fp : List Addr), PTs (X.blk s H scope (compEnvC scope cl C X.env) fp) ifs (tT Y W0 tt))
    (he : ∀ (s : Shared) (H : Hp) (C : Addr) (cl : List (Str × Addr)) (fp : List Addr), PE (X.blk s H scope (compEnvC scope cl C X.env) fp) elt (tE Y W0 f)) (hs : ∀ x, foldedSetIterable iter X.env x = pure x := by intro _; rfl) :
    PE X (.ListComp elt [⟨tg, iter, ifs, 0⟩] scope pos) (tO Y W (lcF (own.map (·.2)) (keysTE fd) b tt f)) := by
  have L := pe_lc hc hN (pi_keys De.pe) ok hg ht he hs (pos := pos)
  refine PE.imp (PE.or (pe_lock L) L) fun σ H Q h => ?_
  obtain ⟨fo, at_, B, ρ, E, h⟩ := h
  have h0 := h
  unfold lcF at h
  obtain ⟨kvs, ef, hall, _⟩ := keysTE_ok (α := D) De.noex (Post.bind h)
  obtain ⟨v, ev, a⟩ := De.at_ fo at_ B σ H ρ _ E ef
  obtain ⟨q, ws, rfl, rd, ak⟩ := a
  rcases rd with rd | ⟨o, rd⟩
  · obtain ⟨nh, eq⟩ := hd_some rd
    have lkd : Lk (.dT ws) := .inr ⟨ws, rfl⟩
    refine .inl ⟨q, .dT ws, eq, lkd.mut, fun od => lc_rd (Y := Y) (W := W) (l := keysTE fd) (fun Rr k => keysT_rd De (by rw [De.stay σ H q od _ lkd eq]; exact ev) upd_same k) tg_ sub (fun _ _ _ q => q) (fun _ _ _ q => q) ⟨fo, at_, _, ρ, E.lock lkd eq nh, ?_⟩⟩
    cases em : lcF (own.map (·.2)) (keysTE fd) b tt f ρ with
    | bad => rw [em] at h0; exact h0.elim
    | ex c ps =>
      exfalso
      unfold lcF keysTE at em
      rw [ef, bind_ok] at em
      unfold keyTL at em
      dsimp only at em
      rw [if_pos hall] at em
      have em2 : (if okW ρ (own.map (·.2)) = true ∧ (keysTV kvs).length ≤ cap then (lcGo (lcSt (own.map (·.2)) b tt f ρ) (keysTV kvs)).bind fun xs => .ok (Sl.ol xs) else .bad) = .ex c ps := em
      split at em2
      · cases er : lcGo (lcSt (own.map (·.2)) b tt f ρ) (keysTV kvs) with
        | bad => rw [er] at em2; cases em2
        | ok xs => rw [er] at em2; cases em2
        | ex c2 ps2 => exact lcGo_noex er
      · cases em2
    | ok s =>
      rw [em] at h0
      intro H2 s2 v oa new r hn
      have e2 : H2 q = some (.frz od (.dT ws)) := s2 _ _ upd_same
      refine ⟨e2, h0 _ (fun b u e => ?_) v oa (fun a e => (upd_none (by rw [eq]; exact fun z => nomatch z)).mp (new a e)) (r.rle (rle_unlock lkd e2) (fix_unlock e2) (fun a u ea e => ?_) (fun _ z => z) fun _ _ z => z.elim) hn⟩
      · by_cases hb : b = q
        · subst hb; rw [upd_same]; rw [eq] at e; exact e
        · rw [upd_ne hb]; exact s2 b u ((upd_ne hb).trans e)
      · refine (upd_ne fun z => ?_).trans e
        have := new a ea
        rw [z, upd_same] at this; cases this
  · exact .inr (lc_rd (Y := Y) (W := W) (l := keysTE fd) (fun Rr k => keysT_rd De ev (hd_some rd).2 k) tg_ sub (fun _ _ _ q => q) (fun _ _ _ q => q) ⟨fo, at_, B, ρ, E, h0⟩)
end
end PL

/-! P32: == of two dicts of tuple keys that hold the same whole numbers. -/
namespace PL
open PySem PySem.Spec PySem.W PySem.Calls PyProof.Rows PyProof.V
section
variable {prog : Program} {w : World} {K : Type} [DecidableEq K] {knd : HeapKind prog w K} {A : Around} {E : Value → Shared → Prop} {s : Shared}
theorem tup_samePairs {nm : String} {a b : Addr} {xa xb : List (K × Addr × Value)} {Q : Bool → Shared → Prop} (ha : (a == sysModules) = false) (hb : (b == sysModules) = false) (hu : knd.room A)
    (da : s.heap.DictOfH knd a xa) (db : s.heap.DictOfH knd b xb) (hlen : xa.length = xb.length) (hits : ∀ x ∈ xa, ∃ q v, (x.1, q, v) ∈ xb ∧ SeqAt.EqAt A s x.2.2 v true) (h : Q true s) :
    wpAny (model prog w) A (Builtin.Dict.samePairs nm a b) Q E s := by
  obtain ⟨oa, es, ep, hoa, _, hda, hea, hia, hna⟩ := da
  obtain ⟨ob, es', ep', hob, _, hdb, heb, hib, hnb⟩ := db
  have hla : es.size = xa.length := size_of_entries hea
  have hlb : es'.size = xb.length := size_of_entries heb
  unfold Builtin.Dict.samePairs Builtin.Dict.showsAll
  rw [if_neg (show ¬ (a == sysModules) = true by rw [ha]; exact Bool.false_ne_true), if_neg (show ¬ (b == sysModules) = true by rw [hb]; exact Bool.false_ne_true)]
  refine wpAny_bind (wpAny_pure (wpAny_bind (wpAny_pure ?_)))
  refine wpAny_bind (wpAny_dictEntries hoa hda ?_)
  dsimp only
  refine wpAny_bind (wpAny_dictEntries hob hdb ?_)
  have hsz : es.size = es'.size := by rw [hla, hlb, hlen]
  rw [if_neg (by rw [hsz]; simp)]
  refine wpAny_bind (wpAny_dictEpoch hoa hda ?_)
  refine wpAny_bind ?_
  rw [Std.Legacy.Range.forIn_eq_forIn_range']
  simp only [Std.Legacy.Range.size, Nat.sub_zero, Nat.add_sub_cancel, Nat.div_one]
  refine wpAny_forIn_list _
    (fun rest q s' => s' = s ∧ q = (none, ()) ∧ ∃ i, rest = List.range' i (es.size - i) ∧ i ≤ es.size)
    _ ?_ ?_ _ _ ⟨rfl, rfl, 0, by simp, Nat.zero_le _⟩
  · rintro x rest q s' ⟨rfl, rfl, i, hr, hi⟩
    have hlt : i < es.size := by
      rcases Nat.lt_or_ge i es.size with h | h
      · exact h
      · rw [Nat.sub_eq_zero_of_le h] at hr; simp at hr
    obtain ⟨rfl, hrest⟩ : x = i ∧ rest = List.range' (i + 1) (es.size - (i + 1)) := by
      have e : es.size - i = (es.size - (i + 1)) + 1 := by omega
      rw [e, List.range'_succ] at hr
      injection hr with h1 h2
      exact ⟨h1, h2⟩
    refine wpAny_bind (wpAny_dictEntries hoa hda ?_)
    have hlt' : x < xa.length := by rw [← hla]; exact hlt
    have hex : es[x]? = some (entryOfKey knd xa[x]) := by rw [entry_at hea x, List.getElem?_eq_getElem hlt']; rfl
    rw [hex]
    have hmem : xa[x] ∈ xa := List.getElem_mem hlt'
    obtain ⟨q, v, hin, heq⟩ := hits _ hmem
    obtain ⟨j, hj, ej⟩ := List.mem_iff_getElem.mp hin
    show wpAny _ _ (holding [(entryOfKey knd xa[x]).key, (entryOfKey knd xa[x]).val] _ >>= _) _ _ _
    refine wpAny_bind (wpAny_holding (wpAny_bind (wpAny_dictFind_heap hu (hia _ hmem) hob hdb heb hib hnb (fun hno => absurd (by rw [List.getElem?_eq_getElem hj, ej]) (hno j (q, v))) fun j2 p hj2 => ?_)))
    have hj3 : xb[j2]? = some (xa[x].1, q, v) := by
      have := idxH_unique hnb hj2 (show xb[j]? = some (xa[x].1, q, v) by rw [List.getElem?_eq_getElem hj, ej])
      rw [this, List.getElem?_eq_getElem hj, ej]
    refine wpAny_bind (wpAny_dictEntries hob hdb ?_)
    rw [entry_at heb j2, hj3]
    refine wpAny_holding (heq prog w _ _ ?_)
    show wpAny _ _ (if (!true) = true then _ else _) _ _ _
    rw [if_neg (by decide)]
    refine wpAny_bind (wpAny_dictEpoch hoa hda ?_)
    rw [if_neg (by simp)]
    exact wpAny_pure ⟨rfl, rfl, x + 1, hrest, hlt⟩
  · rintro q s' ⟨rfl, rfl, i, hr, hi⟩
    exact wpAny_pure h
theorem tup_eq {a b : Addr} {xa xb : List (K × Addr × Value)} {Q : Value → Shared → Prop} (ha : (a == sysModules) = false) (hb : (b == sysModules) = false) (hr : knd.room A.in1)
    (da : s.heap.DictOfH knd a xa) (db : s.heap.DictOfH knd b xb) (hu : A.units < cLine) (hlen : xa.length = xb.length) (hits : ∀ x ∈ xa, ∃ q v, (x.1, q, v) ∈ xb ∧ SeqAt.EqAt A.in1 s x.2.2 v true) (h : Q (.bool true) s) :
    wpAny (model prog w) A (compareOp .Eq (.ref a) (.ref b)) Q E s := by
  refine wpAny_richCompare_same_room (op := .Eq) da.typeIs db.typeIs PySem.F.slot_dict_eq (wpAny_call_entry PySem.F.slot_dict_eq da.typeIs PySem.F.entry_dict_eq ?_ (PySem.F.args_dict_eq_2 _ _)) hu
  show wpAny _ _ (Builtin.Dict.dictSlotArgs "__eq__" ⟨[.ref a, .ref b], []⟩ >>= _) _ _ s
  refine wpAny_bind ?_
  unfold Builtin.Dict.dictSlotArgs
  refine wpAny_bind (wpAny_notOrdered_dict da.typeIs ?_)
  show wpAny _ _ (pure (Value.ref a, Value.ref b)) _ _ s
  refine wpAny_pure ?_
  refine wpAny_bind (wpAny_isInstance (T := "dict") db.typeIs PySem.F.sub_dict_dict ?_)
  simp only [Bool.not_true, Bool.false_eq_true, if_false]
  refine wpAny_bind (wpAny_pure (wpAny_bind (wpAny_pure ?_)))
  refine wpAny_bind (tup_samePairs ha hb hr da db hlen hits ?_)
  refine wpAny_pure ⟨_, rfl, ?_, ?_⟩
  · exact fun x => nomatch x
  · simpa using h
end
end PL

/-! P33: the rule of == of two dicts of tuple keys that hold the same whole numbers. -/
namespace PL
open PySem PySem.Spec L2
def vInts : List (List Key × D) → Option (List (List Key × Int))
  | [] => some []
  | (k, .int i) :: r => (vInts r).map ((k, i) :: ·)
  | _ => none
def eqT : D → D → Option D
  | .dT a, .dT b => (vInts a).bind fun u => (vInts b).bind fun v => if u = v then some (.bl true) else none
  | _, _ => none
def rEqT : R2 := fun x y H Q => ∃ (a b : Addr) (ns : List (List Key × Int)), x = .ref a ∧ y = .ref b ∧ Rd H a (.dT (ns.map fun e => (e.1, V.int e.2))) ∧ Rd H b (.dT (ns.map fun e => (e.1, V.int e.2))) ∧ Q (.bl true) H
theorem kt_int {H : Hp} : ∀ {ns : List (List Key × Int)} {xs : List (List Key × Addr × Value)}, KT H (ns.map fun e => (e.1, V.int e.2)) xs → xs.length = ns.length ∧ (∀ x ∈ xs, ∃ i t, (x.1, i) ∈ ns ∧ x.2.2 = Value.int i t) ∧ ∀ e ∈ ns, ∃ q t, (e.1, q, Value.int e.2 t) ∈ xs
  | [], xs, h => by cases h; exact ⟨rfl, (fun x m => nomatch m), fun e m => nomatch m⟩
  | (k, i) :: ns, xs, h => by
    cases h with
    | @cons p q ps qs hq t =>
      obtain ⟨h1, h2, h3⟩ := kt_int t
      obtain ⟨e1, _, u, eu⟩ := hq
      obtain ⟨qk, qa, qv⟩ := q
      simp only at e1 eu
      subst e1; subst eu
      refine ⟨by rw [List.length_cons, List.length_cons, h1], fun x m => ?_, fun e m => ?_⟩
      · rcases List.mem_cons.mp m with rfl | m
        · exact ⟨i, u, List.mem_cons_self .., rfl⟩
        · obtain ⟨i2, t2, m2, e2⟩ := h2 x m
          exact ⟨i2, t2, List.mem_cons_of_mem _ m2, e2⟩
      · rcases List.mem_cons.mp m with rfl | m
        · exact ⟨qa, u, List.mem_cons_self ..⟩
        · obtain ⟨q2, t2, m2⟩ := h3 e m
          exact ⟨q2, t2, List.mem_cons_of_mem _ m2⟩
theorem op_eqT {X : Cx} (hu : X.A.units + 64 < cLine) : OpR X (compareOp .Eq) rEqT := by
  intro pins s σ H x y v u Q I rx ry h
  obtain ⟨a, b, ns, rfl, rfl, ra, rb, q⟩ := h
  cases rx
  cases ry
  obtain ⟨_, ya, xa, ka, da⟩ := dt_rd I.hok ra
  obtain ⟨_, yb, xb, kb, db⟩ := dt_rd I.hok rb
  obtain ⟨l1, a1, _⟩ := kt_int ka
  obtain ⟨l2, _, b2⟩ := kt_int kb
  refine tup_eq ya yb (show X.A.in1.units < cLine by show X.A.units + 1 < cLine; omega) da db (by omega) (by rw [l1, l2]) (fun z m => ?_) ⟨.bl true, H, I, rfl, q⟩
  obtain ⟨i, t, m2, e⟩ := a1 z m
  obtain ⟨q2, t2, m3⟩ := b2 _ m2
  refine ⟨q2, _, m3, ?_⟩
  rw [e]
  have := PySem.SeqAt.EqAt.int_int (A := X.A.in1) (s := s) i t i t2
  rwa [beq_self_eq_true] at this
section
variable {Y : Yx}
theorem vInts_v {G : Hp} : ∀ {kvs : List (List Key × D)} {u : List (List Key × Int)} {xs : List (List Key × V)}, vInts kvs = some u → AtT Y G xs kvs → xs = u.map fun e => (e.1, V.int e.2)
  | [], u, xs, e, a => by cases e; exact a
  | (k, d) :: r, u, xs, e, ⟨v, q, ex, av, t⟩ => by
    subst ex
    cases d with
    | int i =>
      have e2 : (vInts r).map ((k, i) :: ·) = some u := e
      obtain ⟨u2, e3, rfl⟩ := Option.map_eq_some_iff.mp e2
      rw [vInts_v e3 t, show v = V.int i from av]; rfl
    | _ => cases e
theorem v_eqT : VOp Y rEqT eqT := fun hh H x y d e c Q al a b z q => by
  cases d <;> cases e <;> first | cases z | skip
  rename_i ka kb
  have z2 : (vInts ka).bind (fun u => (vInts kb).bind fun v => if u = v then some (D.bl true) else none) = some c := z
  obtain ⟨u, e1, z2⟩ := Option.bind_eq_some_iff.mp z2
  obtain ⟨v, e2, z2⟩ := Option.bind_eq_some_iff.mp z2
  split at z2
  · rename_i huv
    cases z2
    subst huv
    obtain ⟨pa, xa, rfl, ra, aa⟩ := a
    obtain ⟨pb, xb, rfl, rb, ab⟩ := b
    have h1 := vInts_v e1 aa
    have h2 := vInts_v e2 ab
    subst h1; subst h2
    exact ⟨pa, pb, u, rfl, rfl, (RLe.of_same hd_le).rd (fun _ _ e => (nomatch e)) ra, (RLe.of_same hd_le).rd (fun _ _ e => (nomatch e)) rb, q _ H (Same.refl H) rfl⟩
  · cases z2
end
end PL

/-! P34: what is never reached; for over a locked dict; a dict display of one pair. -/
namespace PL
open PySem PySem.Spec L2
section
variable {X : Cx} {Y : Yx} {W : WX} {F : SF}
/-- a statement that is never reached -/
@[simp] def badF : SF := fun _ => none
theorem sx_bad {st : Stmt} : PS X st (tS Y W badF) := ⟨fun pins s σ H D I h => by
  obtain ⟨fo, at_, B, ρ, E, h⟩ := h
  exact h.elim⟩
theorem for_rd {wi : TI} {g : TG} {l : EF (List D)} {bs : List Nat} {b : BF} {σ : L2.St} {H : Hp} {Dn : Ends} (hw : ∀ Rr, tI Y W l σ H Rr → wi σ H Rr) (ht : TgR Y g bs b) (h : tS Y W (forF l b F) Dn σ H) : tFor wi g (tS Y W F) Dn σ H := by
  obtain ⟨fo, at_, B, ρ, E, h⟩ := h
  refine hw _ ⟨fo, at_, B, ρ, E, (lf_post E h).mono fun ds H1 s1 ⟨E1, h1⟩ J it => ?_⟩
  obtain ⟨G, Yd, w, hG, hY⟩ := it
  have sB : Same (hd (hid fo at_) H1) (hd (fun a => ∃ i, at_ i = some a) H1) := hd_sub fun a m => .inr m
  have iB := E1.inBase
  have E2 := E1.rebase
  refine for_it w (fun i σ' H' => ∃ at' ρ', EnvO Y fo at' (hd (fun a => ∃ i, at_ i = some a) H1) σ' H' ρ' ∧ PoS Y W fo B Dn (forGo b F (ds.drop i) ρ')) ⟨at_, ρ, E2, h1⟩ (fun i σ' H' _ ⟨at', ρ', E', _⟩ => hG H' (sB.trans E'.same)) ?_ ?_
  · rintro i x σ' H' H2 hi ⟨at', ρ', E', p⟩ y
    have s3 : Same (hd (hid fo at_) H1) (hd (hid fo at') H') := fun c o e => by
      obtain ⟨n, e⟩ := hd_some e
      have e3 : hd (fun a => ∃ i, at_ i = some a) H1 c = some o := (hd_not fun m => n (.inr m)).trans e
      refine (hd_not ?_).trans (E'.same c o e3)
      rintro (m | ⟨k, m⟩)
      · exact n (.inl m)
      · rw [E'.nw k c m] at e3; cases e3
    obtain ⟨s2, d, ed, ad⟩ := hY i H' x H2 (hid fo at') hi s3 E'.al y
    rw [List.drop_eq_getElem_cons hi] at p
    have ed' : ds[i] = d := by rw [List.getElem?_eq_getElem hi] at ed; exact Option.some.inj ed
    rw [ed'] at p
    unfold forGo at p
    cases eb : b d ρ' with
    | none => rw [eb] at p; exact p.elim
    | some ρ1 =>
      rw [eb] at p
      refine ht fo at' _ σ' H2 ρ' x d ρ1 _ (E'.ext s2) ad eb fun σ2 E3 _ _ => ⟨fo, _, _, ρ1, E3, ?_⟩
      dsimp only at p
      cases eF : F ρ1 with
      | none => rw [eF] at p; exact p
      | some o =>
        rw [eF] at p
        cases o with
        | nx r => exact fun a σ4 H4 E4 => ⟨a, r, E4, p⟩
        | cnt r => exact fun a σ4 H4 E4 => ⟨a, r, E4, p⟩
        | brk r => exact fun a σ4 H4 E4 => p a σ4 H4 (E4.base iB)
        | ret s => exact fun v H oa sm new r hn => p v H oa (iB.trans sm) (fun a e => iB.free (new a e)) r hn
        | rs r c ps => exact fun a σ' H' H2 dd E4 s4 x => p a σ' H' H2 dd (E4.base iB) s4 x
  · rintro σ' H' ⟨at', ρ', E', p⟩
    rw [List.drop_length] at p
    exact p at' σ' H' (E'.base iB)
/-- only what goes on -/
def onlyNx : Option Fl → Option Fl
  | some (.nx ρ) => some (.nx ρ)
  | _ => none
@[simp] theorem onlyNx_nx {ρ : List Sl} : onlyNx (some (.nx ρ)) = some (.nx ρ) := rfl
theorem po_locked {fo : Addr → Prop} {at_ : Nat → Option Addr} {B : Hp} {σ : L2.St} {H : Hp} {ρ : List Sl} {Dn : Ends} {o : Option Fl} (E : EnvO Y fo at_ B σ H ρ) {q : Addr} {od : Obj} {u : HO} (hu : Lk u) (e : H q = some u) (nh : ¬ hid fo at_ q) (h : PoS Y W fo B Dn (onlyNx o)) :
    PoS Y W fo (hd (fun a => ∃ i, at_ i = some a) (upd H q (.frz od u))) ⟨fun σ' H' => H' q = some (.frz od u) ∧ Dn.nx σ' (upd H' q u), fun v H' => H' q = some (.frz od u) ∧ Dn.rt v (upd H' q u), fun σ' H' => H' q = some (.frz od u) ∧ Dn.bk σ' (upd H' q u), fun σ' H' => H' q = some (.frz od u) ∧ Dn.ct σ' (upd H' q u)⟩ o := by
  cases o with
  | none => exact h
  | some f =>
    cases f with
    | nx ρ' =>
      intro at2 σ2 H2 E2
      obtain ⟨e2, E3⟩ := E.unlock (B' := B) hu e nh E2
      exact ⟨e2, h at2 σ2 _ E3⟩
    | _ => exact h.elim
theorem po_open {fo : Addr → Prop} {B : Hp} {Dn : Ends} {o : Option Fl} (h : PoS Y W fo B Dn (onlyNx o)) : PoS Y W fo B Dn o := by
  cases o with
  | none => exact h
  | some f =>
    cases f with
    | nx ρ' => exact h
    | _ => exact h.elim
/-! ### items -/
def itemsV (kvs : List (Key × D)) : List D := kvs.map fun p => .tup [kD p.1, p.2]
def itemL : D → Option (List D)
  | .dK kvs => some (itemsV kvs)
  | _ => none
@[simp] def itemsE (f : EF D) : EF (List D) := fun ρ => (f ρ).bind fun d => ofO (itemL d)
theorem AtK.getKV {G : Hp} {vs : List (Key × V)} {ds : List (Key × D)} (a : AtK Y G vs ds) {i : Nat} {k : Key} {v : V} (e : vs[i]? = some (k, v)) : ∃ d, ds[i]? = some (k, d) ∧ At Y G v d := by
  induction ds generalizing vs i with
  | nil => cases (show vs = [] from a); simp at e
  | cons p r ih =>
    obtain ⟨k', d'⟩ := p
    obtain ⟨v', q, rfl, av, t⟩ := a
    cases i with
    | zero => simp at e; obtain ⟨rfl, rfl⟩ := e; exact ⟨d', rfl, av⟩
    | succ i =>
      obtain ⟨d, ed, ad⟩ := ih t (i := i) (by simpa using e)
      exact ⟨d, by simpa using ed, ad⟩
theorem items_items {h : Addr → Prop} {H : Hp} {d : Addr} {o : Obj} {vs : List (Key × V)} {ds : List (Key × D)} (e : hd h H d = some (.frz o (.dK vs))) (a : AtK Y (hd h H) vs ds) : Items Y (hd h H) (Iti d o vs) (itemsV ds) := by
  refine ⟨_, _, (show (itemsV ds).length = vs.length by unfold itemsV; rw [List.length_map, a.length]) ▸ walk_items, fun H1 s => s _ _ e, fun i H1 x H2 h2 hi s al y => ?_⟩
  obtain ⟨T, kx, v, rfl, nT, rfl, eu, ew⟩ := y
  dsimp only at eu ew
  cases ev : vs[i]? with
  | none => rw [ev] at eu; cases eu
  | some kv =>
    obtain ⟨k, v'⟩ := kv
    rw [ev] at eu ew
    cases eu
    cases ew
    obtain ⟨d2, ed, ad⟩ := (a.same s).getKV ev
    have sn : Same (hd h2 H1) (hd h2 (upd H1 T (.tup [kV k, v']))) := hd_same (same_new nT)
    refine ⟨same_new nT, .tup [kD k, d2], ?_, T, _, rfl, hd_new al nT, by show 2 ≤ cap; unfold cap; omega, AtL.two (by cases k <;> rfl) (ad.same sn)⟩
    unfold itemsV
    rw [List.getElem?_map, ed]; rfl
@[simp] def forKF (l : EF (List D)) (b : BF) (F : SF) : SF := fun ρ => onlyNx (forF l b F ρ)
theorem var_dat {fo : Addr → Prop} {at_ : Nat → Option Addr} {B : Hp} {σ : L2.St} {H : Hp} {ρ : List Sl} {i : Nat} {d : D} (h : varE i ρ = .ok d) : ρ[i]? = some (.dat d) := by
  unfold varE at h
  cases es : ρ[i]? with
  | none => rw [es] at h; cases h
  | some s =>
    rw [es] at h
    cases s with
    | dat d' => cases h; rfl
    | _ => cases h
theorem for_items_ok {i : Nat} {b : BF} {fo : Addr → Prop} {B : Hp} {Dn : Ends} {ρ : List Sl} (h : PoS Y W fo B Dn (onlyNx (forF (itemsE (varE i)) b F ρ))) : ∃ kvs, varE i ρ = .ok (.dK kvs) := by
  unfold forF itemsE at h
  cases e : varE i ρ with
  | bad => rw [e] at h; exact h.elim
  | ex c ps => unfold varE at e; split at e <;> cases e
  | ok d =>
    rw [e, bind_ok] at h
    cases d with
    | dK kvs => exact ⟨kvs, rfl⟩
    | _ => exact h.elim
theorem items_rd {e : Expr} {i : Nat} {σ : L2.St} {H : Hp} {q : Addr} {o : Obj} {ws : List (Key × V)} (ev : (σ[i]?).join = some (.ref q)) (eq : H q = some (.frz o (.dK ws))) {Rr : It → Hp → Prop} (h : tI Y W (itemsE (varE i)) σ H Rr) : iItems (tVar i) σ H Rr := by
  obtain ⟨fo, at_, B, ρ, E, k⟩ := h
  unfold itemsE at k
  cases ed : varE i ρ with
  | bad => rw [ed] at k; exact k.elim
  | ex c ps => unfold varE at ed; split at ed <;> cases ed
  | ok d =>
    rw [ed, bind_ok] at k
    obtain ⟨x, e1, a⟩ := E.dat (var_dat (fo := fo) (at_ := at_) (B := B) (σ := σ) (H := H) ed)
    rw [e1] at ev
    cases ev
    cases d with
    | dK kvs =>
      obtain ⟨q', xs, eq', rd, ak⟩ := a
      cases eq'
      rcases rd with rd | ⟨o', rd⟩
      · rw [(hd_some rd).2] at eq; cases eq
      · have e3 := (hd_some rd).2
        rw [eq] at e3
        cases e3
        exact ⟨_, e1, q, o, ws, rfl, eq, (k : Post Y W σ H (.ok (itemsV kvs)) _) H (Same.refl H) _ (items_items rd ak)⟩
    | _ => exact k.elim
theorem sx_forItems {e : Expr} {elts : List Expr} {kk : Nat} {tpos apos cpos pos : Pos} {body : List Stmt} {g : TG} {bs : List Nat} {b : BF} {i : Nat} (hp : PassesOwn (model X.prog X.w) X.A X.env X.xe) (hc : X.calm = true) (he : PE X e (tVar i)) (hg : PG X (.Tuple elts kk tpos) g) (ht : TgR Y g bs b) (hb : PSs X body (tS Y W F))
    (hbase : attributeBase e "items" X.env (eval e X.env) = eval e X.env := by rfl) (hline : (apos.endLine == cpos.line) = true := by rfl)
    (hs : ∀ x, foldedSetIterable (.Call (.Attribute e "items" apos) [] [] cpos) X.env x = pure x := by intro _; rfl) : PS X (.For (.Tuple elts kk tpos) (.Call (.Attribute e "items" apos) [] [] cpos) body [] pos) (tS Y W (forKF (itemsE (varE i)) b F)) := by
  have L := ps_for (pos := pos) hp hc (pi_items he hbase hline) hg hb hs
  refine PS.imp (PS.or (ps_lock L) L) fun Dn σ H ⟨fo, at_, B, ρ, E, h⟩ => ?_
  obtain ⟨kvs, ef⟩ := for_items_ok h
  obtain ⟨x, ev, q, ws, rfl, rd, ak⟩ := E.dat (var_dat (fo := fo) (at_ := at_) (B := B) (σ := σ) (H := H) ef)
  have ev2 : (σ[i]?).join = some (.ref q) := by rw [ev]; rfl
  rcases rd with rd | ⟨o, rd⟩
  · obtain ⟨nh, eq⟩ := hd_some rd
    have lkd : Lk (.dK ws) := .inl ⟨ws, rfl⟩
    exact .inl ⟨q, .dK ws, eq, lkd.mut, fun od => for_rd (l := itemsE (varE i)) (fun Rr k => items_rd (e := e) ev2 upd_same k) ht ⟨fo, at_, _, ρ, E.lock lkd eq nh, po_locked E lkd eq nh h⟩⟩
  · exact .inr (for_rd (l := itemsE (varE i)) (fun Rr k => items_rd (e := e) ev2 (hd_some rd).2 k) ht ⟨fo, at_, B, ρ, E, po_open h⟩)
/-! ### keys that are tuples -/
theorem for_keysT_ok {i : Nat} {b : BF} {fo : Addr → Prop} {B : Hp} {Dn : Ends} {ρ : List Sl} (h : PoS Y W fo B Dn (onlyNx (forF (keysTE (varE i)) b F ρ))) : ∃ kvs, varE i ρ = .ok (.dT kvs) := by
  unfold forF keysTE at h
  cases e : varE i ρ with
  | bad => rw [e] at h; exact h.elim
  | ex c ps => unfold varE at e; split at e <;> cases e
  | ok d =>
    rw [e, bind_ok] at h
    cases d with
    | dT kvs => exact ⟨kvs, rfl⟩
    | _ => exact h.elim
theorem sx_forKeysT {tg e : Expr} {pos : Pos} {body : List Stmt} {g : TG} {bs : List Nat} {b : BF} {i : Nat} (hp : PassesOwn (model X.prog X.w) X.A X.env X.xe) (hc : X.calm = true) (he : PE X e (tVar i)) (hg : PG X tg g) (ht : TgR Y g bs b) (hb : PSs X body (tS Y W F))
    (hs : ∀ x, foldedSetIterable e X.env x = pure x := by intro _; rfl) : PS X (.For tg e body [] pos) (tS Y W (forKF (keysTE (varE i)) b F)) := by
  have De := dex_var (Y := Y) he
  have L := ps_for (pos := pos) hp hc (pi_keys De.pe) hg hb hs
  refine PS.imp (PS.or (ps_lock L) L) fun Dn σ H ⟨fo, at_, B, ρ, E, h⟩ => ?_
  obtain ⟨kvs, ef⟩ := for_keysT_ok h
  obtain ⟨x, ev, q, ws, rfl, rd, ak⟩ := E.dat (var_dat (fo := fo) (at_ := at_) (B := B) (σ := σ) (H := H) ef)
  have ev2 : valV i σ H = some (.ref q) := by unfold valV; rw [ev]; rfl
  rcases rd with rd | ⟨o, rd⟩
  · obtain ⟨nh, eq⟩ := hd_some rd
    have lkd : Lk (.dT ws) := .inr ⟨ws, rfl⟩
    exact .inl ⟨q, .dT ws, eq, lkd.mut, fun od => for_rd (l := keysTE (varE i)) (fun Rr k => keysT_rd De (by rw [De.stay σ H q od _ lkd eq]; exact ev2) upd_same k) ht ⟨fo, at_, _, ρ, E.lock lkd eq nh, po_locked E lkd eq nh h⟩⟩
  · exact .inr (for_rd (l := keysTE (varE i)) (fun Rr k => keysT_rd De ev2 (hd_some rd).2 k) ht ⟨fo, at_, B, ρ, E, po_open h⟩)
/-! ### a dict display of one pair -/
@[simp] def disp1 (fk fv : EF D) : EF Sl := fun ρ => (noEx (fk ρ)).bind fun k => (noEx (fv ρ)).bind fun v => match keyD k with
  | some key => if PL.scal v then .ok (.oK [(key, v)]) else .bad
  | none => .bad
theorem po_disp1 {k v : Expr} {pos : Pos} {fk fv : EF D} (hk : PE X k (tE Y W fk)) (hv : PE X v (tE Y W fv)) : PE X (.Dict [some k] [v] pos) (tO Y W (disp1 fk fv)) :=
  PE.imp (pe_disp (pps_cons hk hv pps_nil) rfl rfl (by simp) (by simp)) fun σ H Q ⟨fo, at_, B, ρ, E, h⟩ => by
    unfold disp1 at h
    cases ek : fk ρ with
    | bad => rw [ek] at h; exact h.elim
    | ex c ps => rw [ek] at h; exact h.elim
    | ok kd =>
      cases ev : fv ρ with
      | bad => rw [ek, ev] at h; exact h.elim
      | ex c ps => rw [ek, ev] at h; exact h.elim
      | ok d =>
        rw [ek, ev, noEx_ok, noEx_ok, bind_ok, bind_ok] at h
        cases e3 : keyD kd with
        | none => rw [e3] at h; exact h.elim
        | some key =>
          rw [e3] at h
          dsimp only at h
          by_cases z : PL.scal d = true
          · rw [if_pos z] at h
            intro p np
            refine ⟨fo, at_, B, ρ, E.ext (same_new np), ?_⟩
            rw [ek]
            intro H1 s1 x ax
            refine ⟨fo, at_, B, ρ, (E.ext (same_new np)).ext s1, ?_⟩
            rw [ev]
            intro H2 s2 y ay
            have e2 : H2 p = some (.dK []) := s2 _ _ (s1 _ _ upd_same)
            have ex : x = kV key := key_v e3 ax
            refine ⟨e2, [(key, y)], by rw [ex]; rfl, by simp, ?_⟩
            have em : mergeK [] [(key, y)] = [(key, y)] := rfl
            rw [em]
            have sf : Same H (upd H2 p (.dK [(key, y)])) := fun b o eb => by
              have hb : b ≠ p := fun q => by rw [q, np] at eb; cases eb
              rw [upd_ne hb]
              exact s2 _ _ (s1 _ _ ((upd_ne hb).trans eb))
            exact (h : Post Y W σ H (.ok (Sl.oK [(key, d)])) _) _ sf (.ref p) (some p) (fun a e => by cases e; exact np) ⟨p, [(key, y)], rfl, rfl, upd_same, y, [], rfl, scal_at z ay, rfl⟩ (fun q => nomatch q)
          · rw [if_neg z] at h; exact h.elim
end
end PL

/-! P35: zip of two lists, of two tuples. -/
namespace PL
open PySem PySem.Spec L2
section
variable {X : Cx} {Y : Yx} {W : WX} {e e2 : Expr} {f g : EF D}
def zipL (xs ys : List D) : List D := List.zipWith (fun x y => D.tup [x, y]) xs ys
def zipD : D → D → Option (List D)
  | .lst xs, .lst ys => some (zipL xs ys)
  | .tup xs, .tup ys => some (zipL xs ys)
  | _, _ => none
@[simp] def zipE (f g : EF D) : EF (List D) := fun ρ => (f ρ).bind fun d => (g ρ).bind fun e => ofO (zipD d e)
theorem zipL_len {xs ys : List D} : (zipL xs ys).length = min xs.length ys.length := by unfold zipL; simp
theorem walk_zipT {K : PySem.W.Frag} {a b : Addr} {xs ys : List V} {n : Nat} (hn : n = min xs.length ys.length) : Walk (RZ.ItzT K a b) n (fun H => SqT K H a xs ∧ SqT K H b ys) (YPair (fun i => xs[i]?) (fun i => ys[i]?)) := by
  subst hn
  refine ⟨fun i _ hi q => ?_, fun _ q => ⟨xs, ys, q.1, q.2, by omega⟩, fun i H v H' _ q y => ?_⟩
  · have h1 : i < xs.length := by omega
    have h2 : i < ys.length := by omega
    exact ⟨xs, ys, xs[i], ys[i], q.1, q.2, by simp [h1], by simp [h2]⟩
  · obtain ⟨T, x, z, h1, h2, h3, h4, h5⟩ := y
    exact ⟨T, x, z, h1, h2, h3, h4 xs q.1, h5 ys q.2⟩
theorem items_pair {h : Addr → Prop} {H : Hp} {vs ws : List V} {ds es : List D} {J : It} {G : Hp → Prop} (w : Walk J (zipL ds es).length G (YPair (fun i => vs[i]?) (fun i => ws[i]?))) (hG : ∀ H1, Same (hd h H) H1 → G H1) (a1 : AtL Y (hd h H) vs ds) (a2 : AtL Y (hd h H) ws es) : Items Y (hd h H) J (zipL ds es) := by
  refine ⟨G, _, w, hG, fun i H1 x H2 h2 hi s al y => ?_⟩
  obtain ⟨T, u, v, rfl, nT, rfl, eu, ev⟩ := y
  obtain ⟨d1, ed1, ad1⟩ := (a1.same s).getV eu
  obtain ⟨d2, ed2, ad2⟩ := (a2.same s).getV ev
  have sn : Same (hd h2 H1) (hd h2 (upd H1 T (.tup [u, v]))) := hd_same (same_new nT)
  refine ⟨same_new nT, .tup [d1, d2], ?_, T, _, rfl, hd_new al nT, by show 2 ≤ cap; unfold cap; omega, AtL.two (ad1.same sn) (ad2.same sn)⟩
  unfold zipL
  rw [List.getElem?_zipWith, ed1, ed2]
theorem pi_zipP {p pos tpos : Pos} {elts : List Expr} {kk : Nat} (hK : X.K = Y.K) (hg : Gl X "zip") (hm : X.mg "zip" = none) (he : PE X e (tE Y W f)) (he2 : PE X e2 (tE Y W g))
    (hs : starEach [e, e2] X.env = (false, eval e X.env) :: starEach [e2] X.env := by rfl) (hs2 : starEach [e2] X.env = (false, eval e2 X.env) :: starEach [] X.env := by rfl) (hpl : (backTo pos (starEach [e2] X.env)).any (·.1) = false := by rfl) :
    PI X (.Tuple elts kk tpos) (.Call (.Name "zip" p) [e, e2] [] pos) (tI Y W (zipE f g)) := by
  refine ⟨fun pins s σ H Rr I ⟨fo, at_, B, ρ, E, k⟩ => (RZ.pi_zipA hg hm (ax_cons he (ax_cons he2 ax_nil hs2) hs) hs hpl).run pins s σ H Rr I ⟨fo, at_, B, ρ, E, ?_⟩⟩
  unfold zipE at k
  unfold consL
  cases ef : f ρ with
  | bad => rw [ef] at k; exact k.elim
  | ex c ps => rw [ef] at k; exact k
  | ok d =>
    cases eg : g ρ with
    | bad => rw [ef, bind_ok, eg] at k; exact k.elim
    | ex c ps => rw [ef, bind_ok, eg] at k; exact k
    | ok d2 =>
      rw [ef, eg, bind_ok, bind_ok] at k
      unfold nilL
      rw [bind_ok, bind_ok, bind_ok, bind_ok]
      intro H1 s1 vs a
      cases d with
      | lst xs =>
        cases d2 with
        | lst ys =>
          obtain ⟨v1, r1, rfl, ⟨q1, ws1, rfl, gq1, z1, al1⟩, a⟩ := a
          obtain ⟨v2, r2, rfl, ⟨q2, ws2, rfl, gq2, z2, al2⟩, a⟩ := a
          cases (show r2 = [] from a)
          refine ⟨q1, q2, ws1, ws2, rfl, .inl ⟨by rw [hK]; exact SqL.of (hd_le _ _ gq1), by rw [hK]; exact SqL.of (hd_le _ _ gq2), ?_⟩⟩
          rw [hK]
          exact (k : Post Y W σ H (.ok (zipL xs ys)) _) H1 s1 _ (items_pair (walk_zip (by rw [zipL_len, al1.length, al2.length])) (fun H2 s2 => ⟨SqL.of (s2 _ _ gq1), SqL.of (s2 _ _ gq2)⟩) al1 al2)
        | _ => exact k.elim
      | tup xs =>
        cases d2 with
        | tup ys =>
          obtain ⟨v1, r1, rfl, ⟨q1, ws1, rfl, gq1, z1, al1⟩, a⟩ := a
          obtain ⟨v2, r2, rfl, ⟨q2, ws2, rfl, gq2, z2, al2⟩, a⟩ := a
          cases (show r2 = [] from a)
          refine ⟨q1, q2, ws1, ws2, rfl, .inr ⟨by rw [hK]; exact SqT.of (hd_le _ _ gq1), by rw [hK]; exact SqT.of (hd_le _ _ gq2), ?_⟩⟩
          rw [hK]
          exact (k : Post Y W σ H (.ok (zipL xs ys)) _) H1 s1 _ (items_pair (walk_zipT (by rw [zipL_len, al1.length, al2.length])) (fun H2 s2 => ⟨SqT.of (s2 _ _ gq1), SqT.of (s2 _ _ gq2)⟩) al1 al2)
        | _ => exact k.elim
      | _ => exact k.elim
end
end PL

/-! P36: min of a list of numbers, of a list of numbers with pairs. -/
namespace PL
open PySem PySem.Spec L2
section
variable {X : Cx} {Y : Yx}
def rMinP (K : PySem.W.Frag) : List V → Hp → VK → Prop := fun vs H Q => ∃ (a : Addr) (xs : List V) (x : PyData) (ds : List PyData), vs = [.ref a] ∧ SqL K H a xs ∧ DpAll K H xs (x :: ds) ∧ PySem.W.AlikeAll (x :: ds) ∧ PyData.depthAll (x :: ds) ≤ 60 ∧
  ∀ (i : Nat) (v : V), xs[i]? = some v → (x :: ds)[i]? = some (PySem.W.minD x ds) → Q v H
theorem cr_minP (hc : X.calm = true) (hu : X.A.units + 65 < cLine) : CallR X (.builtin "min") (rMinP X.K) := by
  intro pins s σ H vs us Q I r h
  obtain ⟨a, xs, x, ds, rfl, hs, hd, hal, hdp, q⟩ := h
  obtain ⟨its, rv, hl, _⟩ := I.list hs
  rw [Vals.ref1 r]
  obtain ⟨as, hr⟩ := Dp.readsAll I (x :: ds) xs its hd rv
  refine PySem.W.min_list_data (vs := its.toArray) (I.ok.hd hc) hl.isList hr hal (by omega) fun i v h' tk bs hv hrd hk => ?_
  have hv2 : its[i]? = some v := by simpa using hv
  obtain ⟨v0, hv0, rv0⟩ : ∃ v0, xs[i]? = some v0 ∧ RelV v0 v := by
    have hl2 : xs.length = its.length := rv.length
    have hi : i < its.length := (List.getElem?_eq_some_iff.mp hv2).1
    have hx : i < xs.length := by omega
    obtain ⟨u, hu1, hu2⟩ := rv.get (List.getElem?_eq_getElem hx)
    rw [hv2] at hu1; cases hu1
    exact ⟨_, List.getElem?_eq_getElem hx, hu2⟩
  refine ⟨v0, H, I.kept hk, rv0, q i v0 hv0 ?_⟩
  obtain ⟨cs, hr2, hlt, _, _⟩ := PySem.W.readsAll_at hr i v hv2
  have e := (PySem.Reads.unique (PySem.W.reads_keeps hk hr2) _ _ hrd).1
  rw [List.getD_eq_getElem?_getD, List.getElem?_eq_getElem hlt] at e
  rw [List.getElem?_eq_getElem hlt]
  exact congrArg some e
/-! ### numbers with pairs -/
abbrev Tri := Int × Int × Int
def triD (t : Tri) : D := .tup [.int t.1, .tup [.int t.2.1, .int t.2.2]]
def tri : D → Option Tri
  | .tup [.int k, .tup [.int a, .int b]] => some (k, a, b)
  | _ => none
theorem tri_some {d : D} {t : Tri} (h : tri d = some t) : d = triD t := by
  unfold tri at h
  split at h
  · cases h; rfl
  · cases h
def triL : List D → Option (List Tri)
  | [] => some []
  | d :: ds => (tri d).bind fun t => (triL ds).map (t :: ·)
theorem triL_some : ∀ {ds : List D} {ts : List Tri}, triL ds = some ts → ds = ts.map triD
  | [], ts, h => by cases h; rfl
  | d :: ds, ts, h => by
    obtain ⟨t, h1, h2⟩ := Option.bind_eq_some_iff.mp (show (tri d).bind (fun t => (triL ds).map (t :: ·)) = some ts from h)
    obtain ⟨us, h3, rfl⟩ := Option.map_eq_some_iff.mp h2
    rw [List.map_cons, ← tri_some h1, ← triL_some h3]
def lt3 (x y : Tri) : Bool := decide (x.1 < y.1) || (!decide (y.1 < x.1) && (decide (x.2.1 < y.2.1) || (!decide (y.2.1 < x.2.1) && decide (x.2.2 < y.2.2))))
def min3 (x : Tri) (xs : List Tri) : Tri := xs.foldl (fun a y => if lt3 y a = true then y else a) x
theorem lt3_data (x y : Tri) : PySem.W.dataLt (py (triD x)) (py (triD y)) = lt3 x y := by
  show PyProof.Rows.lexLt PyProof.Rows.itemOrd [.inl 1, .inl x.1, .inl 1, .inl 1, .inl x.2.1, .inl 1, .inl x.2.2, .inl 0, .inl 0] [.inl 1, .inl y.1, .inl 1, .inl 1, .inl y.2.1, .inl 1, .inl y.2.2, .inl 0, .inl 0] = _
  unfold lt3
  rw [PyProof.Rows.lex_self, PyProof.Rows.lex_cons, PyProof.Rows.lex_self, PyProof.Rows.lex_self, PyProof.Rows.lex_cons, PyProof.Rows.lex_self, PyProof.Rows.lex_cons, PyProof.Rows.lex_self, PyProof.Rows.lex_self]
  show (decide (x.1 < y.1) || (!decide (y.1 < x.1) && (decide (x.2.1 < y.2.1) || (!decide (y.2.1 < x.2.1) && (decide (x.2.2 < y.2.2) || (!decide (y.2.2 < x.2.2) && PyProof.Rows.lexLt PyProof.Rows.itemOrd [] [])))))) = _
  have e : PyProof.Rows.lexLt PyProof.Rows.itemOrd [] [] = false := rfl
  rw [e, Bool.and_false, Bool.or_false]
theorem min3_data : ∀ (ts : List Tri) (t : Tri), PySem.W.minD (py (triD t)) (pyL (ts.map triD)) = py (triD (min3 t ts))
  | [], t => rfl
  | u :: ts, t => by
    show PySem.W.minD (if PySem.W.dataLt (py (triD u)) (py (triD t)) then py (triD u) else py (triD t)) (pyL (ts.map triD)) = py (triD (min3 (if lt3 u t = true then u else t) ts))
    rw [lt3_data]
    by_cases h : lt3 u t = true
    · rw [if_pos h, if_pos h, min3_data ts u]
    · rw [if_neg h, if_neg h, min3_data ts t]
theorem pyL_get : ∀ {ds : List D} {i : Nat} {p : PyData}, (pyL ds)[i]? = some p → ∃ d, ds[i]? = some d ∧ py d = p
  | [], i, p, h => by simp [pyL] at h
  | d :: ds, 0, p, h => by
    have : some (py d) = some p := by simpa [pyL] using h
    exact ⟨d, rfl, Option.some.inj this⟩
  | d :: ds, i + 1, p, h => by
    obtain ⟨e, h1, h2⟩ := pyL_get (ds := ds) (i := i) (p := p) (by simpa [pyL] using h)
    exact ⟨e, by simpa using h1, h2⟩
theorem py_tri {t u : Tri} (h : py (triD t) = py (triD u)) : t = u := by
  have h2 : PyData.tuple [.int t.1, .tuple [.int t.2.1, .int t.2.2]] = PyData.tuple [.int u.1, .tuple [.int u.2.1, .int u.2.2]] := h
  injection h2 with h2
  injection h2 with a h2
  injection h2 with b _
  injection a with a
  injection b with b
  injection b with c b
  injection b with d _
  injection c with c
  injection d with d
  obtain ⟨t1, t2, t3⟩ := t
  obtain ⟨u1, u2, u3⟩ := u
  simp only at a c d
  rw [a, c, d]
theorem tri_pl : ∀ {ts : List Tri}, plL (ts.map triD) = true
  | [] => rfl
  | t :: ts => by
    show (plE (triD t) && plL (ts.map triD)) = true
    rw [tri_pl]; rfl
theorem tri_mem {p : PyData} : ∀ {ts : List Tri}, p ∈ pyL (ts.map triD) → ∃ t, p = py (triD t)
  | [], m => by cases m
  | t :: ts, m => by
    rcases List.mem_cons.mp (show p ∈ py (triD t) :: pyL (ts.map triD) from m) with h | h
    · exact ⟨t, h⟩
    · exact tri_mem h
theorem tri_dep : ∀ {ts : List Tri}, PyData.depthAll (pyL (ts.map triD)) ≤ 2
  | [] => Nat.zero_le _
  | t :: ts => by
    show max (py (triD t)).depth (PyData.depthAll (pyL (ts.map triD))) ≤ 2
    have h : (py (triD t)).depth = 2 := rfl
    have := tri_dep (ts := ts)
    rw [h]; omega
def min1D : List D → Option D
  | [.lst ds] => match intsD ds with
    | some (n :: ns) => some (.int (ns.foldl min n))
    | _ => match triL ds with
      | some (t :: ts) => some (triD (min3 t ts))
      | _ => none
  | _ => none
def rMin1 (K : PySem.W.Frag) : List V → Hp → VK → Prop := fun xs H Q => rMin K xs H Q ∨ rMinP K xs H Q
theorem o_min1 (hc : X.calm = true) (hu : X.A.units + 65 < cLine) : CallR X (.builtin "min") (rMin1 X.K) := (cr_min hc).or (cr_minP hc hu)
theorem foldl_min : ∀ (ns : List Int) (n : Int), (ns.foldl min n ∈ n :: ns) ∧ ∀ y ∈ n :: ns, ns.foldl min n ≤ y
  | [], n => ⟨List.mem_cons_self .., fun y m => by rw [List.mem_singleton.mp m]; exact Int.le_refl _⟩
  | k :: ns, n => by
    obtain ⟨h1, h2⟩ := foldl_min ns (min n k)
    rw [List.foldl_cons]
    refine ⟨?_, fun y m => ?_⟩
    · rcases List.mem_cons.mp h1 with h | h
      · rw [h]
        by_cases e : n ≤ k
        · rw [Int.min_eq_left e]; exact List.mem_cons_self ..
        · rw [Int.min_eq_right (by omega)]; exact List.mem_cons_of_mem _ (List.mem_cons_self ..)
      · exact List.mem_cons_of_mem _ (List.mem_cons_of_mem _ h)
    · have h0 := h2 _ (List.mem_cons_self ..)
      rcases List.mem_cons.mp m with rfl | m
      · exact Int.le_trans h0 (Int.min_le_left _ _)
      · rcases List.mem_cons.mp m with rfl | m
        · exact Int.le_trans h0 (Int.min_le_right _ _)
        · exact h2 y (List.mem_cons_of_mem _ m)
theorem v_min1 : VCa Y (rMin1 Y.K) min1D := fun hh H xs ds c Q al a z q => by
  match ds, z, a with
  | [.lst ys], z, a =>
    obtain ⟨x, rfl, ax⟩ := args1 a
    obtain ⟨r, vs, rfl, g, sq, ln, zz, av⟩ := at_seqL ax
    cases ei : intsD ys with
    | none =>
      have z2 : (match triL ys with | some (t :: ts) => some (triD (min3 t ts)) | _ => none) = some c := by
        have : min1D [.lst ys] = match triL ys with | some (t :: ts) => some (triD (min3 t ts)) | _ => none := by
          show (match intsD ys with | some (n :: ns) => some (D.int (ns.foldl min n)) | _ => match triL ys with | some (t :: ts) => some (triD (min3 t ts)) | _ => none) = _
          rw [ei]
        rw [← this]; exact z
      cases et : triL ys with
      | none => rw [et] at z2; cases z2
      | some ts =>
        rw [et] at z2
        cases ts with
        | nil => cases z2
        | cons t ts =>
          cases z2
          have ey := triL_some et
          subst ey
          refine .inr ⟨r, vs, py (triD t), pyL (ts.map triD), rfl, sq, ?_, ?_, ?_, fun i v hv hm => ?_⟩
          · have := dpL_of (G := H) (tri_pl (ts := t :: ts)) (av.same hd_le)
            exact this
          · refine ⟨fun p mp u mu => ?_, fun p mp => ?_⟩
            · obtain ⟨t1, rfl⟩ := tri_mem (ts := t :: ts) mp
              obtain ⟨t2, rfl⟩ := tri_mem (ts := t :: ts) mu
              rfl
            · obtain ⟨t1, rfl⟩ := tri_mem (ts := t :: ts) mp
              exact fun e => nomatch e
          · have := tri_dep (ts := t :: ts)
            exact Nat.le_trans this (by decide)
          · rw [min3_data] at hm
            obtain ⟨d, hd1, hd2⟩ := pyL_get (ds := (t :: ts).map triD) hm
            obtain ⟨d', hd3, ad⟩ := av.getV hv
            rw [hd1] at hd3
            cases hd3
            rw [List.getElem?_map] at hd1
            obtain ⟨u, hu1, rfl⟩ := Option.map_eq_some_iff.mp hd1
            rw [py_tri hd2] at ad
            exact q _ H (Same.refl H) ad
    | some ns =>
      cases ns with
      | nil =>
        have hy : ys = [] := by
          cases ys with
          | nil => rfl
          | cons d ds =>
            cases d with
            | int n =>
              have : (intsD ds).map (n :: ·) = some [] := ei
              cases e2 : intsD ds with
              | none => rw [e2] at this; cases this
              | some l => rw [e2] at this; cases this
            | _ => cases ei
        subst hy
        exact nomatch z
      | cons n ns =>
        have z2 : min1D [.lst ys] = some (.int (ns.foldl min n)) := by
          show (match intsD ys with | some (n :: ns) => some (D.int (ns.foldl min n)) | _ => _) = _
          rw [ei]
        rw [z2] at z
        cases z
        have hv := intsD_v ei av
        obtain ⟨h1, h2⟩ := foldl_min ns n
        refine .inl ⟨r, n :: ns, rfl, by rw [← hv]; exact sq, by simp, fun m hm hl => ?_⟩
        have : m = ns.foldl min n := Int.le_antisymm (hl _ h1) (h2 m hm)
        rw [this]
        exact q _ H (Same.refl H) rfl
end
end PL

/-! P37: a dict display of one pair whose key is a tuple. -/
namespace PL
open PySem PySem.Spec L2
section
variable {X : Cx} {Y : Yx} {W : WX}
def tDispT1 (tk tv : TE) : TE := fun σ H Q => ∀ p, H p = none → tk σ (upd H p (.dT [])) fun x H1 => tv σ H1 fun y H2 => ∃ (b : Addr) (ks : List Key), x = .ref b ∧ H2 b = some (.tup (ks.map kV)) ∧ H2 p = some (.dT []) ∧ Q (.ref p) (upd H2 p (.dT [(ks, y)]))
theorem pe_dispT1 {k v : Expr} {pos : Pos} {tk tv : TE} (hu : X.A.units + 1 < cLine) (hk : PE X k tk) (hv : PE X v tv) : PE X (.Dict [some k] [v] pos) (tDispT1 tk tv) := by
  refine ⟨fun pins s σ H Q I q => ?_⟩
  have hn := I.hok.fresh (Nat.le_refl s.heap.objs.size)
  have I1 := I.laid (a := s.heap.objs.size) (o := .dT []) (h' := s.heap.push { cls := .type "dict", data := .dict #[] }) (t' := s.toks) (fun _ _ q => Heap.get?_push_of_some _ q) (Nat.le_refl _) (dt_empty s.heap I.big)
  have hz := zip_pairTrees [some k] [v] X.env pos rfl rfl
  have hlen := pairTrees_length [some k] [v] X.env pos rfl rfl
  rw [arm_eval_Dict, hz, dictDisplay_pairs (pairTrees [some k] [v] X.env pos) (fun e => by rw [e] at hlen; cases hlen) (by rw [hlen]; show 1 < 17; omega)]
  refine wpAny_bind (wpAny_standAt (wpAny_bind (wpAny_subDictH (knd := tupleKind (mixKind X.prog X.w)) (Q := fun d s' => wpAny (model X.prog X.w) X.A (pure (Value.ref d)) _ X.xe s') (show X.A.units < cLine by omega) (by rw [hlen]; show 1 ≤ 15; omega) ?_)))
  refine pairTrees_cons_walk (thn (hk.run pins _ σ _ _ I1 (q _ hn)) fun u s1 ⟨x, H1, I2, rx, q1⟩ => thn (hv.run pins s1 σ H1 _ I2 q1) fun w2 s2 ⟨y, H2, I3, ry, b, ks, ex, eb, e2, q2⟩ => pairTrees_nil_walk ?_)
  subst ex
  cases (show u = Value.ref b from rx)
  obtain ⟨z, hd, xs, rel, dd⟩ := dt_of I3.hok e2
  cases rel
  refine ⟨[(ks, b, w2)], ⟨rfl, rfl, key_of I3.hok eb, True.intro⟩, dd, fun h' tk dd' hs => wpAny_pure ⟨.ref s.heap.objs.size, _, ?_, rfl, q2⟩⟩
  obtain ⟨q, es, ep, hq, h2, h3, h4, _, h5⟩ := dd'
  have rp : KT H2 [(ks, y)] [(ks, b, w2)] := KT.put (H := H2) (kvs := []) (xs := []) Paired.nil ks eb ry
  refine d_write I3 (by rw [e2]; exact True.intro) hs ⟨q, hq⟩ ⟨by rw [sizeLine_eq, List.length_singleton]; omega, hd, _, rp.keeps fun c ys ec => ?_, q, es, ep, hq, h2, h3, h4, h5⟩
  rw [upd_ne (ne_of ec e2 (fun z => nomatch z))]
  exact ec
@[simp] def dispT1 (fk fv : EF D) : EF Sl := fun ρ => (noEx (fk ρ)).bind fun k => (noEx (fv ρ)).bind fun v => match k with
  | .tup ks => match tkey ks with
    | some key => if PL.scal v then .ok (.oT [(key, v)]) else .bad
    | none => .bad
  | _ => .bad
theorem po_dispT1 {k v : Expr} {pos : Pos} {fk fv : EF D} (hu : X.A.units + 65 < cLine) (hk : PE X k (tE Y W fk)) (hv : PE X v (tE Y W fv)) : PE X (.Dict [some k] [v] pos) (tO Y W (dispT1 fk fv)) :=
  PE.imp (pe_dispT1 (by omega) hk hv) fun σ H Q ⟨fo, at_, B, ρ, E, h⟩ => by
    unfold dispT1 at h
    cases ek : fk ρ with
    | bad => rw [ek] at h; exact h.elim
    | ex c ps => rw [ek] at h; exact h.elim
    | ok kd =>
      cases ev : fv ρ with
      | bad => rw [ek, ev] at h; exact h.elim
      | ex c ps => rw [ek, ev] at h; exact h.elim
      | ok d =>
        rw [ek, ev, noEx_ok, noEx_ok, bind_ok, bind_ok] at h
        cases kd with
        | tup ks =>
          dsimp only at h
          cases e3 : tkey ks with
          | none => rw [e3] at h; exact h.elim
          | some key =>
            rw [e3] at h
            dsimp only at h
            by_cases z : PL.scal d = true
            · rw [if_pos z] at h
              intro p np
              refine ⟨fo, at_, B, ρ, E.ext (same_new np), ?_⟩
              rw [ek]
              intro H1 s1 x ax
              refine ⟨fo, at_, B, ρ, (E.ext (same_new np)).ext s1, ?_⟩
              rw [ev]
              intro H2 s2 y ay
              have e2 : H2 p = some (.dT []) := s2 _ _ (s1 _ _ upd_same)
              obtain ⟨b, vs, rfl, gb, _, al⟩ := ax
              have ekv := tkey_v e3 al
              subst ekv
              refine ⟨b, key, rfl, s2 _ _ (hd_le _ _ gb), e2, ?_⟩
              have sf : Same H (upd H2 p (.dT [(key, y)])) := fun b o eb => by
                have hb : b ≠ p := fun q => by rw [q, np] at eb; cases eb
                rw [upd_ne hb]
                exact s2 _ _ (s1 _ _ ((upd_ne hb).trans eb))
              exact (h : Post Y W σ H (.ok (Sl.oT [(key, d)])) _) _ sf (.ref p) (some p) (fun a e => by cases e; exact np) ⟨p, [(key, y)], rfl, rfl, upd_same, y, [], rfl, scal_at z ay, rfl⟩ (fun q => nomatch q)
            · rw [if_neg z] at h; exact h.elim
        | _ => exact h.elim
/-! ### tuple(range(n)) -/
def tupRgE (f : EF D) : EF D := fun ρ => (f ρ).bind fun d => match d with
  | .int j => if smallI j ∧ (rngL 0 j).length ≤ 65536 then .ok (.tup (rngL 0 j)) else .bad
  | _ => .bad
theorem px_tupRg1 {a : Expr} {f : EF D} {p p2 pb pos : Pos} (hc : X.calm = true) (hg : Gl X "tuple") (hm : X.mg "tuple" = none) (hg2 : Gl X "range") (hm2 : X.mg "range" = none) (he : PE X a (tE Y W f)) (na : starEach [a] X.env = (false, eval a X.env) :: starEach [] X.env := by rfl)
    (nb : starEach [.Call (.Name "range" p2) [a] [] pb] X.env = (false, eval (.Call (.Name "range" p2) [a] [] pb) X.env) :: starEach [] X.env := by rfl) : PE X (.Call (.Name "tuple" p) [.Call (.Name "range" p2) [a] [] pb] [] pos) (tE Y W (tupRgE f)) :=
  PE.imp (pe_tupRg hc hg hm (prg_1 (pos := pb) (p := p2) hg2 hm2 he na) nb) fun σ H Q ⟨fo, at_, B, ρ, E, k⟩ => by
    refine ⟨fo, at_, B, ρ, E, ?_⟩
    unfold tupRgE at k
    cases ef : f ρ with
    | bad => rw [ef] at k; exact k.elim
    | ex c ps => rw [ef] at k; exact k
    | ok d =>
      rw [ef, bind_ok] at k
      intro H1 s1 v a
      cases d with
      | int j =>
        dsimp only at k
        by_cases hz : smallI j ∧ (rngL 0 j).length ≤ 65536
        · rw [if_pos hz] at k
          obtain ⟨hz, hl⟩ := hz
          have lj : j.toNat ≤ 65536 := by unfold rngL at hl; simpa using hl
          refine ⟨j, a, ⟨by decide, by decide, hz.1, hz.2, by omega⟩, fun n hn => ?_⟩
          have sn : Same (hd (hid fo at_) H1) (hd (hid fo at_) (upd H1 n (.tup (rgV 0 j)))) := hd_same (same_new hn)
          have k2 : Post Y W σ H (.ok (D.tup (rngL 0 j))) (fun d H' => ∀ v, At Y (hd (hid fo at_) H') v d → Q v H') := k
          exact k2 _ (s1.trans (same_new hn)) _ ⟨n, _, rfl, hd_new (E.ext s1).al hn, by rw [(at_rgV (Y := Y) (G := H1) (i := 0) (j := j)).length]; unfold cap; omega, at_rgV⟩
        · rw [if_neg hz] at k; exact k.elim
      | _ => exact k.elim
/-! ### x = [.. for k in d] -/
@[simp] def nxO (F : SF) : SF := fun ρ => onlyNx (F ρ)
theorem asg_rd {i : Nat} {te : TE} {f : EF D} {Dn : Ends} {σ : L2.St} {H : Hp} (k : ∀ Q, tE Y W f σ H Q → te σ H Q) (h : tS Y W (stF i f) Dn σ H) : tAsg te (gName i) Dn σ H := by
  obtain ⟨fo, at_, B, ρ, E, h⟩ := h
  exact k _ ⟨fo, at_, B, ρ, E, (lf_post E h).mono fun d H1 s1 ⟨E1, h1⟩ v a => by
    by_cases z : i < ρ.length
    · rw [if_pos z] at h1; exact h1 _ _ H1 (E1.putD (Same.refl H1) z a)
    · rw [if_neg z] at h1; exact h1.elim⟩
theorem sx_setLcKTD {i : Nat} {y : Str} {py : Pos} {elt tg iter : Expr} {ifs : List Expr} {scope : Scope} {own : List (Str × Nat)} {pos spos : Pos} {g : TG} {bs : List Nat} {td : TE} {val : L2.St → Hp → Option V} {fd : EF D} {b : BF} {tt : EF Bool} {f : EF D} (hc : X.calm = true) (hN : X.N.Nodup) (hy : X.N[i]? = some y) (hyl : X.env.scope.names.lookup y = some .local)
    (hsw : swapsWith (.ListComp elt [⟨tg, iter, ifs, 0⟩] scope pos) (some (.Name y py)) spos.line X.env = pure true) (De : DEx X Y iter td val fd) (ok : BlkOk X.N X.env.scope scope own)
    (hg : ∀ (s : Shared) (H : Hp) (C : Addr) (cl : List (Str × Addr)) (fp : List Addr), PG (X.blk s H scope (compEnvC scope cl C X.env) fp) tg g) (tg_ : TgR Y g bs b) (sub : ∀ i ∈ bs, i ∈ own.map (·.2))
    (ht : ∀ (s : Shared) (H : Hp) (C : Addr) (cl : List (Str × Addr)) (fp : List Addr), PTs (X.blk s H scope (compEnvC scope cl C X.env) fp) ifs (tT Y W0 tt))
    (he : ∀ (s : Shared) (H : Hp) (C : Addr) (cl : List (Str × Addr)) (fp : List Addr), PE (X.blk s H scope (compEnvC scope cl C X.env) fp) elt (tE Y W0 f)) (hs : ∀ x, foldedSetIterable iter X.env x = pure x := by intro _; rfl) :
    PS X (.Assign [.Name y py] (.ListComp elt [⟨tg, iter, ifs, 0⟩] scope pos) spos) (tS Y W (nxO (stF i (fzE (lcF (own.map (·.2)) (keysTE fd) b tt f))))) := by
  have L := ps_setLc (py := py) (pos := pos) (spos := spos) hc hN hy hyl hsw (pi_keys De.pe) ok hg ht he hs
  refine PS.imp (PS.or (ps_lock L) L) fun Dn σ H ⟨fo, at_, B, ρ, E, h⟩ => ?_
  obtain ⟨kvs, ef⟩ : ∃ kvs, fd ρ = .ok (.dT kvs) := by
    unfold nxO stF fzE lcF keysTE at h
    cases e : fd ρ with
    | bad => rw [e] at h; exact h.elim
    | ex c ps => exact absurd e (De.noex ρ c ps)
    | ok d =>
      rw [e, bind_ok] at h
      cases d with
      | dT kvs => exact ⟨kvs, rfl⟩
      | _ => exact h.elim
  obtain ⟨v, ev, a⟩ := De.at_ fo at_ B σ H ρ _ E ef
  obtain ⟨q, ws, rfl, rd, ak⟩ := a
  rcases rd with rd | ⟨o, rd⟩
  · obtain ⟨nh, eq⟩ := hd_some rd
    have lkd : Lk (.dT ws) := .inr ⟨ws, rfl⟩
    exact .inl ⟨q, .dT ws, eq, lkd.mut, fun od => asg_rd (fun Q h => lc_rd (Y := Y) (W := W) (l := keysTE fd) (fun Rr k => keysT_rd De (by rw [De.stay σ H q od _ lkd eq]; exact ev) upd_same k) tg_ sub (fun _ _ _ q => q) (fun _ _ _ q => q) (fzE_rd h)) ⟨fo, at_, _, ρ, E.lock lkd eq nh, po_locked E lkd eq nh h⟩⟩
  · exact .inr (asg_rd (fun Q h => lc_rd (Y := Y) (W := W) (l := keysTE fd) (fun Rr k => keysT_rd De ev (hd_some rd).2 k) tg_ sub (fun _ _ _ q => q) (fun _ _ _ q => q) (fzE_rd h)) ⟨fo, at_, B, ρ, E, po_open h⟩)
end
end PL

/-! P38: NoHome(pairs), an exception with an own __init__, raised. -/
namespace PL
open PySem PySem.Spec PyProof.Rows L2
/-- what the class of those that carry pairs must say of its making -/
structure NhC (Y : Yx) (f : Addr) : Prop where
  ox : OexC Y.K (Y.cx 7)
  ini : PySem.W.findIn Y.K (.ref (Y.cx 7)) "__init__" = some (some (.ref f))
  tyI : PySem.W.typeIn Y.K (.ref f) = some (.type "function")
  no : PySem.W.findIn Y.K (.ref (Y.cx 7)) "pairs" = some none
  rd : PySem.W.readsIn Y.K (Y.cx 0) (.type "type") = true
  ga : PySem.W.specialIn Y.K (.ref (Y.cx 0)) "__getattribute__" = some (some (.builtin "type.__getattribute__"))
  fc : PySem.W.findCls Y.K (.ref (Y.cx 0)) (.type "type") "__init__" = some (.val (.builtin "ValueError.__init__"))
/-- the promise of its __init__ -/
def spN (Y : Yx) : Sp := fun vs H Q _ => ∃ (a : Addr) (x : V) (q : Addr) (ys : List V), vs = [.ref a, x] ∧ x = .ref q ∧ H a = some (exo a (Y.cx 7) none) ∧ SqL Y.K H q ys ∧
  ∀ l d, H l = none → H d = none → d ≠ l → d ≠ a → Q .non (upd (upd (upd H l (.lst ys)) d (exd d [("pairs", .ref l)])) a (exo a (Y.cx 7) (some d)))
theorem spN_len : ∀ {Y : Yx} vs H Q E, spN Y vs H Q E → vs.length = ["self", "pairs"].length := fun vs H Q E ⟨_, _, _, _, e, _⟩ => by rw [e]; rfl
section
variable {X : Cx} {Y : Yx} {W : WX} {e : Expr} {es : List Expr} {f : EF D} {ta : TA} {p p1 p2 p3 p4 p5 p6 p7 p8 p9 p10 p11 p12 pos cpos : Pos} {fa : Addr}
/-- HomeError.__init__(self, ..) -/
theorem pe_hinit {pl : Sem Bool} (hK : X.K = Y.K) (hg : Gl X "HomeError") (hm : X.mg "HomeError" = some (.ref (Y.cx 0))) (nh : NhC Y fa) (ha : PA X (e :: es) ta)
    (hc : eval (.Call (.Attribute (.Name "HomeError" p1) "__init__" p2) (e :: es) [] pos) X.env = (do
      let ov ← eval (.Name "HomeError" p1) X.env
      standAt p2.atName
      let (f, first) ← holding [ov] (getMethod ov "__init__" pl)
      callWith pos f first (backTo pos (starEach (e :: es) X.env)) (backToKw pos (keywordEach [] X.env))) := by rfl)
    (he : starEach (e :: es) X.env = (false, eval e X.env) :: starEach es X.env := by rfl) (hpl : (backTo pos (starEach es X.env)).any (·.1) = false := by rfl) :
    PE X (.Call (.Attribute (.Name "HomeError" p1) "__init__" p2) (e :: es) [] pos) (tVeI X.K ta) := by
  refine ⟨fun pins s σ H Q I h => ?_⟩
  refine PySem.W.methodCall_KW (ld_glob I hg hm ?_ (by decide)) hc
  have rd := nh.rd
  have ga := nh.ga
  have fc := nh.fc
  rw [← hK] at rd ga fc
  refine PySem.W.method_cls I.kIn ga (PySem.W.cls_value I.kIn rd fc (by decide +kernel) ?_)
  show wpAny _ _ (callWith pos (Value.builtin "ValueError.__init__") [] (backTo pos (starEach (e :: es) X.env)) []) _ _ _
  refine PyProof.Rows.callWith_method1 (thn (ha.run pos pins _ σ H _ (I.tok _) h) fun us s1 ⟨vs, H1, I1, r1, a, C, ws, ev, hl, T, ea, q⟩ => ?_) he hpl
  subst ev
  cases r1 with
  | @cons _ u0 _ ur ra rw' =>
    obtain rfl : u0 = Value.ref a := ra
    have hlen : ur.length ≤ sizeLine := by
      rw [← Paired.length rw', sizeLine_eq]
      omega
    exact oinit_ok T I1 ea hlen fun s' J => ⟨.non, H1, J, rfl, q⟩
/-- the body of its __init__ -/
theorem nh_core {pl : Sem Bool} {m : Str} {j : Nat} (hK : X.K = Y.K) (hc : X.calm = true) (hg : Gl X "HomeError") (hm : X.mg "HomeError" = some (.ref (Y.cx 0))) (hgl : Gl X "list") (hml : X.mg "list" = none) (nh : NhC Y fa) (h0 : X.N[0]? = some ("self" : Str)) (h1 : X.N[1]? = some ("pairs" : Str)) (v0 : Vis X.env.scope "self") (v1 : Vis X.env.scope "pairs")
    (ev : eval (.Call (.Attribute (.Name "HomeError" p1) "__init__" p2) [.Name "self" p3, .Constant (.str m) j p4] [] p5) X.env = (do
      let ov ← eval (.Name "HomeError" p1) X.env
      standAt p2.atName
      let (f, first) ← holding [ov] (getMethod ov "__init__" pl)
      callWith p5 f first (backTo p5 (starEach [.Name "self" p3, .Constant (.str m) j p4] X.env)) (backToKw p5 (keywordEach [] X.env))) := by rfl)
    (he1 : starEach [.Name "self" p3, .Constant (.str m) j p4] X.env = (false, eval (.Name "self" p3) X.env) :: starEach [.Constant (.str m) j p4] X.env := by rfl) (he2 : starEach [.Constant (.str m) j p4] X.env = (false, eval (.Constant (.str m) j p4) X.env) :: starEach [] X.env := by rfl)
    (hpl1 : (backTo p5 (starEach [.Constant (.str m) j p4] X.env)).any (·.1) = false := by rfl)
    (he3 : starEach [.Name "pairs" p10] X.env = (false, eval (.Name "pairs" p10) X.env) :: starEach [] X.env := by rfl) (hpl3 : (backTo p11 (starEach [] X.env)).any (·.1) = false := by rfl)
    (hs1 : swapsWith (.Call (.Attribute (.Name "HomeError" p1) "__init__" p2) [.Name "self" p3, .Constant (.str m) j p4] [] p5) none p6.line X.env = pure false := by rfl)
    (hs2 : swapsWith (.Call (.Name "list" p9) [.Name "pairs" p10] [] p11) (some (.Attribute (.Name "self" p7) "pairs" p8)) p12.line X.env = pure false := by rfl) :
    ∃ t, PSs X [.Expr (.Call (.Attribute (.Name "HomeError" p1) "__init__" p2) [.Name "self" p3, .Constant (.str m) j p4] [] p5) p6, .Assign [.Attribute (.Name "self" p7) "pairs" p8] (.Call (.Name "list" p9) [.Name "pairs" p10] [] p11) p12] t ∧
      ∀ (vs : List V) (H : Hp) (Q : VK) (E : XK) (N : List Str), N.length = 2 → spN Y vs H Q E → t { nx := fun _ H' => Q .non H', rt := Q } (start N vs) H := by
  refine ⟨_, pss_cons (ps_expr (pe_hinit hK hg hm nh (pa_cons (pe_var h0 v0) (pa_cons pe_str pa_nil he2) he1) ev he1 hpl1) hs1) (pss_one (ps_ost (pe_var h0 v0) (pe_callTy (o_list hc) hgl hml Boot.«list» (pa_cons (pe_var h1 v1) pa_nil he3) (by decide) (by decide) he3 hpl3) hs2)), ?_⟩
  intro vs H Q E N hN ⟨a, x, q, ys, e, ex, ha, sq, k⟩
  subst e ex
  have s0 : (start N [.ref a, .ref q])[0]? = some (some (V.ref a)) := by rfl
  have s1 : (start N [.ref a, .ref q])[1]? = some (some (V.ref q)) := by rfl
  refine ⟨_, s0, ?_⟩
  refine ⟨a, _, _, rfl, by show 1 ≤ 1000; omega, by rw [hK]; exact nh.ox, ha, ?_⟩
  have hx1 : ∀ l : Addr, H l = none → l ≠ a := fun l hl z => by rw [z, ha] at hl; cases hl
  refine ⟨_, s1, .inl ⟨q, ys, rfl, .inl (by rw [hK]; exact sq), fun l hl => ⟨_, s0, a, Y.cx 7, rfl, by rw [hK]; exact nh.ox, by rw [hK]; exact nh.no, .inl ⟨(upd_ne (hx1 l hl).symm).trans ha, fun d hd da => ?_⟩⟩⟩⟩
  have dl : d ≠ l := fun z => by rw [z, upd_same] at hd; cases hd
  rw [upd_ne dl] at hd
  exact k l d hl hd dl da
end
/-- the class, made -/
def Nok (Y : Yx) (P : Program) (w : World) (mg : Str → Option Value) (base : Heap) (k : Nat) : Prop :=
  ∃ (f : Addr) (fd : FuncData), mg "NoHome" = some (.ref (Y.cx 7)) ∧ NhC Y f ∧ Binds Y.K fd ["self", "pairs"] [] ∧ FnG Y P w mg base k f fd ["self", "pairs"] (spN Y)
theorem Nok.up {Y : Yx} {P : Program} {w : World} {mg : Str → Option Value} {base : Heap} {j k : Nat} (F : Nok Y P w mg base j) (h : j ≤ k) : Nok Y P w mg base k :=
  let ⟨f, fd, a, b, c, d⟩ := F; ⟨f, fd, a, b, c, d.up h⟩
section
variable {X : Cx} {Y : Yx} {W : WX} {k : Nat} {e : Expr} {es : List Expr} {f : EF D} {p pos cpos : Pos} {fa : Addr}
/-- NoHome(e): what is made -/
theorem pmk_nh {ta : TA} (F : Nok Y X.prog X.w X.mg X.base k) (hK : X.K = Y.K) (gd : X.A.guards = some []) (hr : Room (k + 1) X.A) (tk : Takes X W) (hg : Gl X "NoHome") (ha : PA X (e :: es) ta)
    (he : starEach (e :: es) X.env = (false, eval e X.env) :: starEach es X.env := by rfl) (hpl : (backTo pos (starEach es X.env)).any (·.1) = false := by rfl) :
    PMk X (.Call (.Name "NoHome" p) (e :: es) [] pos) (fun σ H Q => ta σ H fun vs H1 => vs.length ≤ 1000 ∧ ∀ a, H1 a = none → spN Y (.ref a :: vs) (upd H1 a (exo a (Y.cx 7) none))
      (fun v H2 => v = .non ∧ ∃ (d : Addr) (fs : List (Str × V)), H2 a = some (exo a (Y.cx 7) (some d)) ∧ H2 d = some (exd d fs) ∧ H1 d = none ∧ Q (.ref (Y.cx 7)) (some d) (upd (del H2 a) d (.xd fs))) (WE W σ)) := by
  obtain ⟨fI, fd, hm, nh, hb, F1⟩ := F
  intro pins s σ H Q I h
  have T := nh.ox
  have iC := nh.ini
  have tI := nh.tyI
  rw [← hK] at T iC tI
  obtain ⟨nm, q, N, bs, bm, sn, sub, ab, col, dd, k0, k1, k2, k3, k5, hC, hbm⟩ := T.cls
  refine wpAny_Call_Name_kw (ld_glob I hg hm ?_ (by decide))
  refine PySem.W.callWith_K (h₀ := X.base) I.ok.mod.kin T.kC (thn (ha.run pos pins s σ H _ I h) fun us s1 ⟨vs, H1, I1, r1, hz, q1⟩ => ⟨I1.kIn, ?_⟩) he hpl
  show wpAny _ _ (call (.ref (Y.cx 7)) us) _ _ _
  obtain ⟨hp, g, dr, tk', os⟩ := s1
  have hsz : hp.objs.size ≤ hp.objs.size + 1 := Nat.le_succ _
  have hn : H1 (hp.objs.size + 1) = none := I1.hok.fresh hsz
  have hq := q1 (hp.objs.size + 1) hn
  have kk : ∀ b o, hp.get? b = some o → ((hp.push (PySem.W.kdv_tup us)).push (PySem.HandSPX.excO (Y.cx 7) hp.objs.size)).get? b = some o := fun b o e => Heap.get?_push_of_some _ (Heap.get?_push_of_some _ e)
  have hget : ((hp.push (PySem.W.kdv_tup us)).push (PySem.HandSPX.excO (Y.cx 7) hp.objs.size)).get? (hp.objs.size + 1) = some (PySem.HandSPX.excO (Y.cx 7) hp.objs.size) := by heap_get
  have I2 : Inv X pins σ (upd H1 (hp.objs.size + 1) (exo (hp.objs.size + 1) (Y.cx 7) none)) ⟨(hp.push (PySem.W.kdv_tup us)).push (PySem.HandSPX.excO (Y.cx 7) hp.objs.size), g, dr, tk', os⟩ :=
    I1.laid (t' := tk') (a := hp.objs.size + 1) (o := exo (hp.objs.size + 1) (Y.cx 7) none) (h' := (hp.push (PySem.W.kdv_tup us)).push (PySem.HandSPX.excO (Y.cx 7) hp.objs.size)) kk hsz (exo_ok hget)
  have r2 : Vals (V.ref (hp.objs.size + 1) :: vs) (Value.ref (hp.objs.size + 1) :: us) := .cons rfl r1
  have hl : (Value.ref (hp.objs.size + 1) :: us).length = ["self", "pairs"].length := by
    have e := r2.length
    rw [F1.ln _ _ _ _ hq] at e
    exact e.symm
  have hus : us.length ≤ sizeLine := by
    rw [← Paired.length r1, sizeLine_eq]
    omega
  have e0 := I2.env0.make (Y.cx 7) us []
  rw [hK] at e0
  have b := hb _ (Value.ref (hp.objs.size + 1) :: us) (by rw [← hK]; exact I2.kIn) (by rw [List.append_nil]; exact hl)
  rw [List.append_nil] at b
  refine wpAny_call (PySem.HandSPX.call_own PySem.F.excBase_ValueError (fun Y => PySem.HandSPX.refsVE_contains Y bm hbm) (I1.kIn _ _ hC) (PySem.W.looks_findIn I1.kIn iC) (fun self => PySem.W.bind_fn I1.kIn self tI) hus
    (codeAny_mono (F1.go _ X.stack _ _ ⟨Value.ref (hp.objs.size + 1) :: us, []⟩ (Value.ref (hp.objs.size + 1) :: us) _ _ (WE W σ) (make_guards gd) (hr.make (Y.cx 7) us []) e0 b r2 hq) fun r s' hq' => ?_))
  cases r with
  | error er => exact passAt tk σ pins _ _ er s' I2 hq'
  | ok fl =>
    cases fl with
    | ret u =>
      obtain ⟨v, H2, os2, bare2, un2, hok2, rv, ev, d, fs, ea, ed, hd1, q2⟩ := hq'
      subst ev
      obtain ⟨h2, g2, d2, t2, os'⟩ := s'
      exact ⟨rv, mk_end (raises_own T.exC T.tyC) I1 hsz kk un2 hok2 os2 bare2 ea ed hd1 q2⟩
    | next => exact False.elim hq'
    | brk => exact False.elim hq'
    | cont => exact False.elim hq'
/-- raise NoHome(e) -/
@[simp] def raN (f : EF D) : SF := fun ρ => lf (f ρ) ρ fun d => match d with
  | .lst xs => some (.rs ρ 7 (.lst xs))
  | _ => none
theorem sx_raiseN (hK : X.K = Y.K) (hc : X.calm = true) (tk : Takes X W) (F : Nok Y X.prog X.w X.mg X.base k) (gd : X.A.guards = some []) (hr : Room (k + 1) X.A) (hg : Gl X "NoHome") (h : PE X e (tE Y W f))
    (he : starEach [e] X.env = (false, eval e X.env) :: starEach [] X.env := by rfl) (hpl : (backTo cpos (starEach [] X.env)).any (·.1) = false := by rfl) :
    PS X (.Raise (some (.Call (.Name "NoHome" p) [e] [] cpos)) none pos) (tS Y W (raN f)) := PS.imp (ps_raise hc tk (pmk_nh F hK gd hr tk hg (pa_cons h pa_nil he) he hpl)) fun Dn σ H ⟨fo, at_, B, ρ, E, h⟩ => by
  refine ⟨fo, at_, B, ρ, E, (lf_post E h).mono fun d H1 s1 ⟨E1, h1⟩ v a => ?_⟩
  match d, h1, a with
  | .lst xs, h1, a =>
    obtain ⟨q, vs, rfl, g, sq, ln, z, av⟩ := at_seqL a
    refine ⟨by show 1 ≤ 1000; omega, fun b hb => ⟨b, .ref q, q, vs, rfl, rfl, upd_same, (RLe.of_same (same_new hb)).seqL sq, fun l d hl hd dl da => ⟨rfl, d, _, upd_same, (upd_ne da).trans upd_same, ?_, ?_⟩⟩⟩
    · rw [upd_ne da] at hd; exact hd
    have hl1 : H1 l = none := by
      have la : l ≠ b := fun z => by rw [z, upd_same] at hl; cases hl
      rw [upd_ne la] at hl; exact hl
    have la : l ≠ b := fun z => by rw [z, upd_same] at hl; cases hl
    have hd1 : H1 d = none := by rw [upd_ne da] at hd; exact hd
    have S : Same H1 (upd (del (upd (upd (upd (upd H1 b (exo b (Y.cx 7) none)) l (.lst vs)) d (exd d [("pairs", .ref l)])) b (exo b (Y.cx 7) (some d))) b) d (.xd [("pairs", .ref l)])) := fun c u e => by
      have cb : c ≠ b := ne_of_none e hb
      have cd : c ≠ d := ne_of_none e hd1
      have cl : c ≠ l := ne_of_none e hl1
      rw [upd_ne cd, del_ne cb, upd_ne cb, upd_ne cd, upd_ne cl, upd_ne cb]; exact e
    refine h1 at_ σ H1 _ (some d) E1 S (.inr ⟨d, l, vs, xs, rfl, rfl, upd_same, hd1, hl1, dl, ?_, z, ?_⟩)
    · rw [upd_ne (Ne.symm dl), del_ne la, upd_ne la, upd_ne (Ne.symm dl), upd_same]
    · exact av.same fun c u e => S c u (hd_le _ _ e)
end
end PL

/-! P39: what the class of NoHome says of itself, read from the heap. -/
namespace PL
open PySem PySem.Spec L2
def clB (K : PySem.W.Frag) (C : Addr) : Bool := match K.lookup C with
  | some ⟨.type "type", _, .cls cd, sl⟩ => (match cd.mro, sl.toList with
    | .ref C' :: bm, [_, _, _, _, some (.builtin n), _] => C' == C && (n == "ValueError.__new__" && (!cd.hasDel && (cd.hasDict && PySem.HandSPX.refsVE bm)))
    | _, _ => false)
  | _ => false
theorem clB_ok {K : PySem.W.Frag} {C : Addr} (q : clB K C = true) : ∃ nm q N bs bm sn sub ab col dd k0 k1 k2 k3 k5, K.lookup C = some (excClassObj nm q C N bs bm true sn sub ab col dd k0 k1 k2 k3 k5 "ValueError.__new__") ∧ PySem.HandSPX.refsVE bm = true := by
  unfold clB at q
  split at q
  · rename_i dd cd sl ho
    split at q
    · rename_i C' bm k0 k1 k2 k3 n k5 hm hs
      simp only [Bool.and_eq_true, beq_iff_eq, Bool.not_eq_true'] at q
      obtain ⟨rfl, rfl, hdel, hd, ht⟩ := q
      obtain ⟨nm, bs, mro, ns, qn, hd', sn, sub, ab, col, del⟩ := cd
      dsimp only at hm hdel hd
      subst hm hdel hd
      have hsl : sl = #[k0, k1, k2, k3, some (.builtin "ValueError.__new__"), k5] := by
        obtain ⟨l⟩ := sl
        simp only at hs
        rw [hs]
      subst hsl
      exact ⟨nm, qn, ns, bs, bm, sn, sub, ab, col, dd, k0, k1, k2, k3, k5, ho, ht⟩
    · cases q
  · cases q
def fcB (K : PySem.W.Frag) (C : Addr) : Bool := match PySem.W.findCls K (.ref C) (.type "type") "__init__" with
  | some (.val (.builtin n)) => n == "ValueError.__init__"
  | _ => false
theorem fcB_ok {K : PySem.W.Frag} {C : Addr} (q : fcB K C = true) : PySem.W.findCls K (.ref C) (.type "type") "__init__" = some (.val (.builtin "ValueError.__init__")) := by
  unfold fcB at q
  split at q
  · rename_i n e
    rw [e, beq_iff_eq.mp q]
  · cases q
abbrev nhF (K : PySem.W.Frag) : Addr := He.fAd K ("NoHome", some "__init__")
def nhB (K : PySem.W.Frag) : Bool := clB K (He.ga K (excN 7)) && (decide (PySem.W.findIn K (.ref (He.ga K (excN 7))) "__setattr__" = some (some (.builtin "object.__setattr__"))) && (decide (PySem.W.subIn K (.ref (He.ga K (excN 7))) (.type "BaseException") = some true) &&
  (decide (PySem.W.typeIn K (.ref (He.ga K (excN 7))) = some (.type "type")) && (PySem.W.keepIn K (.ref (He.ga K (excN 7))) && (decide (PySem.W.findIn K (.ref (He.ga K (excN 7))) "__init__" = some (some (.ref (nhF K)))) &&
  (decide (PySem.W.typeIn K (.ref (nhF K)) = some (.type "function")) && (decide (PySem.W.findIn K (.ref (He.ga K (excN 7))) "pairs" = some none) && (PySem.W.readsIn K (He.ga K (excN 0)) (.type "type") &&
  (decide (PySem.W.specialIn K (.ref (He.ga K (excN 0))) "__getattribute__" = some (some (.builtin "type.__getattribute__"))) && fcB K (He.ga K (excN 0)))))))))))
theorem nhB_ok {K : PySem.W.Frag} (h : nhB K = true) : NhC (yx K) (nhF K) := by
  unfold nhB at h
  simp only [Bool.and_eq_true, decide_eq_true_eq] at h
  obtain ⟨h1, h2, h3, h4, h5, h6, h7, h8, h9, h10, h11⟩ := h
  exact ⟨⟨clB_ok h1, h2, h3, h4, h5⟩, h6, h7, h8, h9, h10, fcB_ok h11⟩
end PL

/-! P40: what is looked at of the heap, with the interpreter's own statics. -/
namespace PL
open PySem PySem.Spec L2 He
def asY (g : Addr → Option Obj) (n : Nat) : List Addr := asD g n ++ [PySem.cStatics]
def obsY (n : Nat) (fa : List Fa) (fn : List DefD) (ex : PySem.W.Frag → Bool) (g : Addr → Option Obj) : AlX := (obsT fa fn [] (frT g (asY g n)), ex (frT g (asY g n)))
theorem saysY_of {n : Nat} {fa : List Fa} {fn : List DefD} {ex : PySem.W.Frag → Bool} {w : World} {h : Heap} (e : obsY n fa fn ex h.get? = valX fn [] w) : SaysX fa fn [] [] ex w h (frT h.get? (asY h.get? n)) :=
  ⟨congrArg (fun z : AlX => z.1) e, congrArg (fun z : AlX => z.2) e, (fun p hp => nomatch hp), (fun p hp => nomatch hp), (fun p hp => nomatch hp)⟩
def hookY (n : Nat) (fa : List Fa) (fn : List DefD) (ex : PySem.W.Frag → Bool) : PySem.W.Hook where
  α := AlX
  obs := fun s => obsY n fa fn ex s.heap.get?
  val := fun w => valX fn [] w
  says := fun w h => ∃ K : PySem.W.Frag, K.In h ∧ SaysX fa fn [] [] ex w h K
  of := fun _ _ e => ⟨_, frT_in, saysY_of e⟩
  keeps := fun _ _ _ ⟨K, hK, c⟩ k => ⟨K, PySem.W.Frag.In.keeps hK k, ⟨c.t, c.more, c.hd, c.out, fun p hp => k _ _ (c.empty p hp)⟩⟩
theorem obsY_eq {n : Nat} {fa : List Fa} {fn : List DefD} {ex : PySem.W.Frag → Bool} {g : Addr → Option Obj} {s : Shared} (h : ∀ a, g a = s.heap.get? a) : obsY n fa fn ex g = (hookY n fa fn ex).obs s := by
  have e : g = s.heap.get? := funext h
  rw [e] <;> rfl
end PL

/-! P41: NoHome(pairs) made by hand; e.pairs.append(x). -/
namespace PL
open PySem PySem.Spec PyProof.Rows L2
section
variable {X : Cx} {Y : Yx} {W : WX} {k : Nat} {e o : Expr} {es : List Expr} {f : EF D} {l : EF (List D)} {to : TE} {p p1 p2 apos pos cpos : Pos} {fa : Addr}
theorem mk_laid {pins : List (Addr × Obj)} {σ : L2.St} {H : Hp} {sI s : Shared} {a : Addr} {oe : Obj} {vs : Array Value} {cls : Value} {d : Option Addr} (I : Inv X pins σ H sI) (kp : ∀ b o, sI.heap.get? b = some o → s.heap.get? b = some o) (na : sI.heap.get? a = none) (ha : s.heap.get? a = some oe)
    (hz : Zc cls d oe) (hd : oe.data = .fields vs) (hH : H a = none) (os : s.os = sI.os) (bare : AllBare s.gens) : Inv X pins σ (upd H a (ExT cls d a)) s := by
  have nb : ∀ {b : Addr} {o : Obj}, sI.heap.get? b = some o → b ≠ a := fun {b o} e z => by rw [z, na] at e; cases e
  have U : Un (frs X.stack) [] H (upd H a (ExT cls d a)) sI.heap s.heap := {
    keep := fun b o z n hf hx => kp b o z
    slot := fun b o z n hf hx => ⟨o.slots, kp b o z⟩
    free := fun b o z n hx => by rw [upd_ne (nb z)]; exact n
    there := fun b o z hx => ⟨o, kp b o z⟩
    tups := fun b xs z => by rw [upd_ne (ne_of_none z hH)]; exact z
    frzs := fun b o v z => by rw [upd_ne (ne_of_none z hH)]; exact z
    tbls := fun b ps z => ⟨#[], by rw [upd_ne (ne_of_none z hH), z]; simp⟩ }
  have hok : HOk X.prog X.w (upd H a (ExT cls d a)) s.heap := fun b o e => by
    by_cases hb : b = a
    · subst hb
      rw [upd_same] at e
      cases e
      exact ⟨⟨oe, vs, ha, hz, hd⟩, ⟨oe, ha⟩, fun h1 h2 ⟨o, v, e, z1, z2⟩ k => ⟨o, v, k o e, z1, z2⟩⟩
    · rw [upd_ne hb] at e
      exact (I.hok b o e).stay (fun c v _ q => kp c v q) (fun c q => by rw [upd_ne (ne_of_none q hH)]; exact q) fun c xs q => by rw [upd_ne (ne_of_none q hH)]; exact q
  obtain ⟨hp, g, dr, tk, osI⟩ := sI
  obtain ⟨h2, g2, d2, t2, os2⟩ := s
  exact I.call' (ch := []) os U hok bare (fun b z => absurd z (by simp))
/-- an exception that is made and not raised -/
theorem pe_mk {t : L2.St → Hp → XK → Prop} (h : PMk X e t) : PE X e (fun σ H Q => t σ H fun cls d H' => ∀ a, H' a = none → Q (.ref a) (upd H' a (ExT cls d a))) := by
  refine ⟨fun pins s σ H Q I r => ?_⟩
  refine wpAny_mono (h pins s σ H _ I r) (fun u s1 z => ?_) fun _ _ z => z
  obtain ⟨a, oe, vs, sI, H', cls, d, rfl, J, k, hne, ha, hz, hd, h1, na, os, ag, rr, q⟩ := z
  exact ⟨.ref a, _, mk_laid J k hne ha hz hd na os ag, rfl, q a na⟩
/-- NoHome(v), v an owned list that stays its owner's -/
def mkNo (i : Nat) : EF D := fun ρ => match ρ[i]? with
  | some (.ol xs) => .ok (.exc 7 (.lst xs))
  | _ => .bad
theorem px_mkNo {i : Nat} (F : Nok Y X.prog X.w X.mg X.base k) (hK : X.K = Y.K) (gd : X.A.guards = some []) (hr : Room (k + 1) X.A) (tk : Takes X W) (hg : Gl X "NoHome") (h : PE X e (tVar i))
    (he : starEach [e] X.env = (false, eval e X.env) :: starEach [] X.env := by rfl) (hpl : (backTo pos (starEach [] X.env)).any (·.1) = false := by rfl) :
    PE X (.Call (.Name "NoHome" p) [e] [] pos) (tE Y W (mkNo i)) := PE.imp (pe_mk (pmk_nh (W := W) F hK gd hr tk hg (pa_cons h pa_nil he) he hpl)) fun σ H Q ⟨fo, at_, B, ρ, E, h⟩ => by
  unfold mkNo at h
  cases er : ρ[i]? with
  | none => rw [er] at h; exact h.elim
  | some s =>
    rw [er] at h
    cases s with
    | ol xs =>
      obtain ⟨q, vs, ha, hs, hq, z, av⟩ := E.own er
      refine ⟨_, hs, by show 1 ≤ 1000; omega, fun b hb => ⟨b, .ref q, q, vs, rfl, rfl, upd_same, (RLe.of_same (same_new hb)).seqL (SqL.of hq), fun l d hl hd dl da => ⟨rfl, d, _, upd_same, (upd_ne da).trans upd_same, ?_, fun a2 ha2 => ?_⟩⟩⟩
      · rw [upd_ne da] at hd; exact hd
      have hl1 : H l = none := by
        have la : l ≠ b := fun z => by rw [z, upd_same] at hl; cases hl
        rw [upd_ne la] at hl; exact hl
      have la : l ≠ b := fun z => by rw [z, upd_same] at hl; cases hl
      have hd1 : H d = none := by rw [upd_ne da] at hd; exact hd
      have S : Same H (upd (del (upd (upd (upd (upd H b (exo b (Y.cx 7) none)) l (.lst vs)) d (exd d [("pairs", .ref l)])) b (exo b (Y.cx 7) (some d))) b) d (.xd [("pairs", .ref l)])) := fun c u e => by
        have cb : c ≠ b := ne_of_none e hb
        have cd : c ≠ d := ne_of_none e hd1
        have cl : c ≠ l := ne_of_none e hl1
        rw [upd_ne cd, del_ne cb, upd_ne cb, upd_ne cd, upd_ne cl, upd_ne cb]; exact e
      have hl2 : (upd (del (upd (upd (upd (upd H b (exo b (Y.cx 7) none)) l (.lst vs)) d (exd d [("pairs", .ref l)])) b (exo b (Y.cx 7) (some d))) b) d (.xd [("pairs", .ref l)])) l = some (.lst vs) := by
        rw [upd_ne (Ne.symm dl), del_ne la, upd_ne la, upd_ne (Ne.symm dl), upd_same]
      have hd2 : (upd (del (upd (upd (upd (upd H b (exo b (Y.cx 7) none)) l (.lst vs)) d (exd d [("pairs", .ref l)])) b (exo b (Y.cx 7) (some d))) b) d (.xd [("pairs", .ref l)])) d = some (.xd [("pairs", .ref l)]) := upd_same
      generalize (upd (del (upd (upd (upd (upd H b (exo b (Y.cx 7) none)) l (.lst vs)) d (exd d [("pairs", .ref l)])) b (exo b (Y.cx 7) (some d))) b) d (.xd [("pairs", .ref l)])) = H2 at *
      have S2 : Same H (upd H2 a2 (ExT (.ref (Y.cx 7)) (some d) a2)) := S.trans (same_new ha2)
      have hid0 : ∀ c, H c = none → ¬ hid fo at_ c := fun c hc m => E.al c m hc
      have n2 : H a2 = none := S.free ha2
      have a2d : d ≠ a2 := ne_of_none hd2 ha2
      have a2l : l ≠ a2 := ne_of_none hl2 ha2
      refine (h : Post Y W σ H (.ok (D.exc 7 (.lst xs))) _) _ S2 (.ref a2) ⟨a2, some d, rfl, .inl ((hd_not (hid0 _ n2)).trans upd_same), .inr ⟨d, .ref l, rfl, .inl ((hd_not (hid0 _ hd1)).trans ((upd_ne a2d).trans hd2)), ?_⟩⟩
      exact ⟨l, vs, rfl, (hd_not (hid0 _ hl1)).trans ((upd_ne a2l).trans hl2), z, av.same (hd_same S2)⟩
    | _ => exact h.elim
/-- e.pairs, raw -/
theorem pe_prsR (hK : X.K = Y.K) (pi : PrI Y) (he : PE X e to) (hb : attributeBase e "pairs" X.env (eval e X.env) = eval e X.env := by rfl) :
    PE X (.Attribute e "pairs" pos) (fun σ H Q => to σ H fun v H1 => ∃ (ad dd : Addr) (l : V), v = .ref ad ∧ Rd H1 ad (ExT (.ref (Y.cx 7)) (some dd) ad) ∧ Rd H1 dd (.xd [("pairs", l)]) ∧ Q l H1) := by
  refine ⟨fun pins s σ H Q I h => ?_⟩
  refine attr_of hb (thn (he.run pins s σ H _ I h) fun u s1 hh => ?_)
  obtain ⟨x, H1, I1, rx, ad, dd, l, ex, g1, g2, q⟩ := hh
  subst ex
  obtain rfl : u = Value.ref ad := rx
  have hx := g2.ok I1.hok
  obtain ⟨mA, hns, hr⟩ := hx
  obtain ⟨od, ho, hl⟩ := lookIn_ns hns
  obtain ⟨u, hu, ru⟩ := RelO.some_of (v := l) (o := mA "pairs") (hr "pairs")
  have q1 := g1.ok I1.hok
  obtain ⟨oe, vs, e1, ⟨e2, e3⟩, e4⟩ := q1.1
  have J : PySem.W.InstAt s1.heap ad oe (Y.cx 7) (some od) := ⟨e1, e2, by unfold PySem.W.notCls; rw [e4], by rw [e3]; exact ho⟩
  have T := pi.xf
  have hno := pi.no
  rw [← hK] at T hno
  exact HandSPX.exc_get I1.kIn J T.ga T.gg T.exC (PySem.W.findObj_own T.hdC hno rfl (by rw [hl, hu])) (handed_of ru) ⟨l, H1, I1.tok _, ru, q⟩
/-- v.pairs.append(..) -/
@[simp] def epF (i : Nat) (l : EF (List D)) : SF := fun ρ => match ρ[i]? with
  | some (.oE c ds) => if c = 7 then lf (l ρ) ρ fun es => match appO ds es with
    | some c => some (.nx (ρ.set i (.oE 7 c)))
    | none => none
    else none
  | _ => none
theorem sx_eapp {i : Nat} {e1 : Expr} (hK : X.K = Y.K) (pi : PrI Y) (ho : PE X o (tVar i)) (ha : PA X (e1 :: es) (tL Y W l)) (hb : attributeBase o "pairs" X.env (eval o X.env) = eval o X.env := by rfl) (hbase : attributeBase (.Attribute o "pairs" p1) "append" X.env (eval (.Attribute o "pairs" p1) X.env) = eval (.Attribute o "pairs" p1) X.env := by rfl)
    (hfew : ((backTo cpos (starEach (e1 :: es) X.env)).all (fun x => !x.1) && (backToKw cpos (keywordEach [] X.env)).all (fun x => x.1.isSome)
      && decide ((e1 :: es).length + ([] : List Keyword).length + (if ([] : List Keyword).isEmpty then 0 else 1) < 30)) = true := by rfl)
    (hline : (apos.endLine == cpos.line) = true := by rfl) (hs : starEach (e1 :: es) X.env = (false, eval e1 X.env) :: starEach es X.env := by rfl) (hplain : (backTo cpos (starEach es X.env)).any (·.1) = false := by rfl)
    (hw : swapsWith (.Call (.Attribute (.Attribute o "pairs" p1) "append" apos) (e1 :: es) [] cpos) none pos.line X.env = pure false := by rfl) :
    PS X (.Expr (.Call (.Attribute (.Attribute o "pairs" p1) "append" apos) (e1 :: es) [] cpos) pos) (tS Y W (epF i l)) := PS.imp (ps_expr (pe_bm PySem.F.plainAttrs_list PySem.F.slot_list_append PySem.F.type_list_append mt_append (pe_prsR hK pi ho hb) ha hbase hfew hline hs hplain) hw) fun Dn σ H ⟨fo, at_, B, ρ, E, h⟩ => by
  unfold epF at h
  cases er : ρ[i]? with
  | none => rw [er] at h; exact h.elim
  | some s =>
    rw [er] at h
    cases s with
    | oE c ds =>
      dsimp only at h
      by_cases hc : c = 7
      case neg => rw [if_neg hc] at h; exact h.elim
      rw [if_pos hc] at h
      subst hc
      obtain ⟨a, e2, q, vs, h0, hv, hG, hGe, hq, z, al⟩ := E.sl i _ er
      have hs := join_some hv
      refine ⟨_, hs, a, e2, .ref q, rfl, .inl (hd_some hG).2, .inl (hd_some hGe).2, .inl ⟨rfl, vs, SqL.of hq⟩, fo, at_, B, ρ, E, (lf_post E h).mono fun es H1 s1 ⟨E1, h1⟩ xs ax => ?_⟩
      cases ec : appO ds es with
      | none => rw [ec] at h1; exact h1.elim
      | some c =>
        rw [ec] at h1
        refine v_append _ H1 q vs xs ds es c _ (s1 _ _ hq) z (al.same (hd_same s1)) ax ec fun ws z ac => h1 at_ σ _ (E1.mut (List.getElem?_eq_some_iff.mp er).1 h0 fun v ev => ⟨a, e2, q, ws, rfl, by rw [ev, hs]; rfl, hd_same s1 _ _ hG, hd_same s1 _ _ hGe, upd_same, z, ac⟩)
    | _ => exact h.elim
end
end PL

/-! P42: xs + ys, a new list, owned. -/
namespace PL
open PySem PySem.Spec PyProof.Rows L2
section
variable {X : Cx} {Y : Yx} {W : WX} {a b : Expr} {f g : EF D} {pos : Pos}
def catO : D → D → Option Sl := fun d e => match d, e with
  | .lst x, .lst y => if x.length + y.length ≤ cap then some (.ol (x ++ y)) else none
  | _, _ => none
@[simp] def catE (f g : EF D) : EF Sl := fun ρ => (f ρ).bind fun d => (g ρ).bind fun e => ofO (catO d e)
theorem po_cat (ha : PE X a (tE Y W f)) (hb : PE X b (tE Y W g)) : PE X (.BinOp a .Add b pos) (tO Y W (catE f g)) := PE.imp (pe_op o_add ha hb) fun σ H Q h => by
  obtain ⟨fo, at_, B, ρ, E, h⟩ := h
  refine ⟨fo, at_, B, ρ, E, (Post.bind h).mono fun d H1 s1 h1 x a => ⟨fo, at_, B, ρ, E.ext s1, (Post.bind h1).mono fun e H2 s2 h2 y b => ?_⟩⟩
  obtain ⟨c, e1, h2⟩ := Post.opS h2
  match d, e, e1, a, b with
  | .lst s, .lst t, e1, a, b =>
    have e2 : (if s.length + t.length ≤ cap then some (Sl.ol (s ++ t)) else none) = some c := e1
    split at e2
    · rename_i hl
      cases e2
      have a := a.same (hd_same s2)
      obtain ⟨l, vs, rfl, hL, z1, a1⟩ := a
      obtain ⟨m, ws, rfl, hM, z2, a2⟩ := b
      have l1 := a1.length
      have l2 := a2.length
      exact .inr (.inr (.inr ⟨l, m, vs, ws, rfl, rfl, hd_le _ _ hL, hd_le _ _ hM, by rw [← cap_eq, l1, l2]; exact hl, fun p np => h2 _ (same_new np) (.ref p) (some p) (fun a e => by cases e; exact s1.free (s2.free np)) (sl_newL ((E.ext s1).ext s2).al np (by simpa using hl) (a1.append a2)) (fun z => nomatch z)⟩))
    · cases e2
end
end PL

/-! P43: data without lists, data without dicts of tuple keys. -/
namespace PL
open PySem PySem.Spec PyProof.Rows L2
mutual
/-- no list (bl), no dict of tuple keys (bt) lies in it -/
def okQ (bl bt : Bool) : D → Bool
  | .lst ds => !bl && okQL bl bt ds
  | .scr _ => !bl
  | .tup ds => okQL bl bt ds
  | .dK kvs => okQK bl bt kvs
  | .dT kvs => !bt && okQT bl bt kvs
  | .ob fs => okQF bl bt fs
  | .dN kvs => okQN bl bt kvs
  | .exc _ ps => okQ bl bt ps
  | _ => true
def okQL (bl bt : Bool) : List D → Bool
  | [] => true
  | d :: ds => okQ bl bt d && okQL bl bt ds
def okQK (bl bt : Bool) : List (Key × D) → Bool
  | [] => true
  | (_, d) :: ds => okQ bl bt d && okQK bl bt ds
def okQT (bl bt : Bool) : List (List Key × D) → Bool
  | [] => true
  | (_, d) :: ds => okQ bl bt d && okQT bl bt ds
def okQF (bl bt : Bool) : List (Str × D) → Bool
  | [] => true
  | (_, d) :: ds => okQ bl bt d && okQF bl bt ds
def okQN (bl bt : Bool) : List (AK × D) → Bool
  | [] => true
  | (_, d) :: ds => okQ bl bt d && okQN bl bt ds
end
/-- what may be read stays, but for lists (bl), dicts of tuple keys (bt) -/
structure RQ (bl bt : Bool) (G G' : Hp) : Prop where
  rd : ∀ {b u}, (∀ o x, u ≠ .frz o x) → (bl = true → ∀ xs, u ≠ .lst xs) → (bt = true → ∀ xs, u ≠ .dT xs) → Rd G b u → Rd G' b u
  lst : bl = false → ∀ {b xs}, G b = some (.lst xs) → G' b = some (.lst xs)
  tup : ∀ {b xs}, G b = some (.tup xs) → G' b = some (.tup xs)
  ins : ∀ {b C dx xs}, G b = some (.ins C dx xs) → G' b = some (.ins C dx xs)
theorem nb {b : Bool} (h : (!b) = true) : b = false := by cases b <;> simp_all
mutual
theorem At.rq {Y : Yx} {G G' : Hp} {bl bt : Bool} (h : RQ bl bt G G') : ∀ {v : V} {d : D}, okQ bl bt d = true → At Y G v d → At Y G' v d
  | v, .non, _, q => q
  | v, .bl b, _, q => q
  | v, .int i, _, q => q
  | v, .str x, _, q => q
  | v, .lst ds, k, ⟨a, vs, e, s, z, q⟩ => by
    have k2 : (!bl && okQL bl bt ds) = true := k
    rw [Bool.and_eq_true] at k2
    exact ⟨a, vs, e, h.lst (nb k2.1) s, z, AtL.rq h k2.2 q⟩
  | v, .scr ns, k, ⟨a, e, s⟩ => by
    have k2 : (!bl) = true := k
    have hb := nb k2
    exact ⟨a, e, s.elim (fun r => .inl (h.rd (fun _ _ e => nomatch e) (fun z => by rw [hb] at z; cases z) (fun _ _ e => nomatch e) r)) .inr⟩
  | v, .tup ds, k, ⟨a, vs, e, s, z, q⟩ => ⟨a, vs, e, h.tup s, z, AtL.rq h k q⟩
  | v, .dK kvs, k, ⟨a, xs, e, s, q⟩ => ⟨a, xs, e, h.rd (fun _ _ e => nomatch e) (fun _ _ e => nomatch e) (fun _ _ e => nomatch e) s, AtK.rq h k q⟩
  | v, .dT kvs, k, ⟨a, xs, e, s, q⟩ => by
    have k2 : (!bt && okQT bl bt kvs) = true := k
    rw [Bool.and_eq_true] at k2
    have hb := nb k2.1
    exact ⟨a, xs, e, h.rd (fun _ _ e => nomatch e) (fun _ _ e => nomatch e) (fun z => by rw [hb] at z; cases z) s, AtT.rq h k2.2 q⟩
  | v, .ob fs, k, ⟨a, dx, xs, e, s, q⟩ => ⟨a, dx, xs, e, h.ins s, AtF.rq h k q⟩
  | v, .dN kvs, k, ⟨a, es, e, s, nd, q⟩ => ⟨a, es, e, h.rd (fun _ _ e => by unfold ExtD at e; exact nomatch e) (fun _ _ e => by unfold ExtD at e; exact nomatch e) (fun _ _ e => by unfold ExtD at e; exact nomatch e) s, nd, AtN.rq h k q⟩
  | v, .exc c ps, k, ⟨a, dd, e, s, q⟩ => ⟨a, dd, e, h.rd (fun _ _ e => by unfold ExT at e; exact nomatch e) (fun _ _ e => by unfold ExT at e; exact nomatch e) (fun _ _ e => by unfold ExT at e; exact nomatch e) s,
      q.elim (fun ⟨e1, x, e2, q2⟩ => .inl ⟨e1, x, e2, At.rq h k q2⟩) (fun ⟨e1, l, e2, r, q2⟩ => .inr ⟨e1, l, e2, h.rd (fun _ _ e => nomatch e) (fun _ _ e => nomatch e) (fun _ _ e => nomatch e) r, At.rq h k q2⟩)⟩
theorem AtL.rq {Y : Yx} {G G' : Hp} {bl bt : Bool} (h : RQ bl bt G G') : ∀ {vs : List V} {ds : List D}, okQL bl bt ds = true → AtL Y G vs ds → AtL Y G' vs ds
  | _, [], _, q => q
  | _, d :: ds, k, ⟨v, r, e, q, t⟩ => by
    have k2 : (okQ bl bt d && okQL bl bt ds) = true := k
    rw [Bool.and_eq_true] at k2
    exact ⟨v, r, e, At.rq h k2.1 q, AtL.rq h k2.2 t⟩
theorem AtK.rq {Y : Yx} {G G' : Hp} {bl bt : Bool} (h : RQ bl bt G G') : ∀ {vs : List (Key × V)} {ds : List (Key × D)}, okQK bl bt ds = true → AtK Y G vs ds → AtK Y G' vs ds
  | _, [], _, q => q
  | _, (c, d) :: ds, k, ⟨v, r, e, q, t⟩ => by
    have k2 : (okQ bl bt d && okQK bl bt ds) = true := k
    rw [Bool.and_eq_true] at k2
    exact ⟨v, r, e, At.rq h k2.1 q, AtK.rq h k2.2 t⟩
theorem AtT.rq {Y : Yx} {G G' : Hp} {bl bt : Bool} (h : RQ bl bt G G') : ∀ {vs : List (List Key × V)} {ds : List (List Key × D)}, okQT bl bt ds = true → AtT Y G vs ds → AtT Y G' vs ds
  | _, [], _, q => q
  | _, (c, d) :: ds, k, ⟨v, r, e, q, t⟩ => by
    have k2 : (okQ bl bt d && okQT bl bt ds) = true := k
    rw [Bool.and_eq_true] at k2
    exact ⟨v, r, e, At.rq h k2.1 q, AtT.rq h k2.2 t⟩
theorem AtF.rq {Y : Yx} {G G' : Hp} {bl bt : Bool} (h : RQ bl bt G G') : ∀ {vs : List (Str × V)} {ds : List (Str × D)}, okQF bl bt ds = true → AtF Y G vs ds → AtF Y G' vs ds
  | _, [], _, q => q
  | _, (c, d) :: ds, k, ⟨v, r, e, q, t⟩ => by
    have k2 : (okQ bl bt d && okQF bl bt ds) = true := k
    rw [Bool.and_eq_true] at k2
    exact ⟨v, r, e, At.rq h k2.1 q, AtF.rq h k2.2 t⟩
theorem AtN.rq {Y : Yx} {G G' : Hp} {bl bt : Bool} (h : RQ bl bt G G') : ∀ {vs : List DictEntry} {ds : List (AK × D)}, okQN bl bt ds = true → AtN Y G vs ds → AtN Y G' vs ds
  | _, [], _, q => q
  | _, (c, d) :: ds, k, ⟨v, x, r, e, ke, rv, q, t⟩ => by
    have k2 : (okQ bl bt d && okQN bl bt ds) = true := k
    rw [Bool.and_eq_true] at k2
    exact ⟨v, x, r, e, ke.mono fun _ _ z => h.tup z, rv, At.rq h k2.1 q, AtN.rq h k2.2 t⟩
end
end PL

/-! P44: x = e, where e looks at owned lists and what comes of it holds no list. -/
namespace PL
open PySem PySem.Spec PyProof.Rows L2
/-- owned lists alone -/
def onlyL (ρ : List Sl) : Bool := ρ.all fun s => match s with
  | .no => true
  | .dat _ => true
  | .ol _ => true
  | _ => false
def cutA (at_ : Nat → Option Addr) (n : Nat) : Nat → Option Addr := fun k => if k < n then at_ k else none
theorem cutA_of {at_ : Nat → Option Addr} {n k : Nat} {a : Addr} (h : cutA at_ n k = some a) : k < n ∧ at_ k = some a := by
  unfold cutA at h
  split at h
  · rename_i q; exact ⟨q, h⟩
  · cases h
section
variable {Y : Yx} {fo : Addr → Prop} {at_ : Nat → Option Addr} {B : Hp} {σ : L2.St} {H : Hp} {ρ : List Sl}
theorem EnvO.cutL (E : EnvO Y fo at_ B σ H ρ) (h : onlyL ρ = true) : EnvO Y fo (cutA at_ ρ.length) B σ H ρ := by
  have sub : ∀ a, hid fo (cutA at_ ρ.length) a → hid fo at_ a := fun a m => m.elim .inl fun ⟨k, m⟩ => .inr ⟨k, (cutA_of m).2⟩
  refine ⟨E.same, E.fin, fun i j a h1 h2 => E.dj i j a (cutA_of h1).2 (cutA_of h2).2, fun i a h => E.df i a (cutA_of h).2, fun i a h => E.nw i a (cutA_of h).2, E.len, fun i a h1 hl => absurd (cutA_of h1).1 (by omega), fun i s e => ?_⟩
  have hi := (List.getElem?_eq_some_iff.mp e).1
  have hc : cutA at_ ρ.length i = at_ i := if_pos hi
  have r := E.sl i s e
  have hs := List.all_eq_true.mp h s (List.mem_of_getElem? e)
  rw [hc]
  cases s with
  | no => exact r
  | dat d => obtain ⟨e1, x, e2, q⟩ := r; exact ⟨e1, x, e2, q.same (hd_sub sub)⟩
  | ol xs => obtain ⟨a, vs, e1, e2, e3, z, q⟩ := r; exact ⟨a, vs, e1, e2, e3, z, q.same (hd_sub sub)⟩
  | _ => cases hs
/-- what holds no list is no owned list -/
theorem EnvO.rqL (E : EnvO Y fo at_ B σ H ρ) (h : onlyL ρ = true) {H1 : Hp} (s1 : Same H H1) : RQ true false (hd (hid fo fun _ => none) H1) (hd (hid fo (cutA at_ ρ.length)) H1) := by
  have key : ∀ {b : Addr} {u : HO}, (hd (hid fo fun _ => none) H1) b = some u → (∀ xs, u ≠ .lst xs) → (hd (hid fo (cutA at_ ρ.length)) H1) b = some u := fun {b u} e hu => by
    obtain ⟨n1, e1⟩ := hd_some e
    refine (hd_not fun m => ?_).trans e1
    rcases m with m | ⟨k, m⟩
    · exact n1 (.inl m)
    · obtain ⟨hk, ha⟩ := cutA_of m
      have es : ρ[k]? = some ρ[k] := List.getElem?_eq_getElem hk
      have r := E.sl k _ es
      have hs := List.all_eq_true.mp h _ (List.mem_of_getElem? es)
      generalize ρ[k] = s at r hs
      cases s with
      | no => have : at_ k = none := r; rw [this] at ha; cases ha
      | dat d => rw [r.1] at ha; cases ha
      | ol xs =>
        obtain ⟨a, vs, e2, _, e3, _⟩ := r
        rw [e2] at ha; cases ha
        rw [s1 _ _ e3] at e1
        cases e1
        exact hu vs rfl
      | _ => cases hs
  refine ⟨fun {b u} h1 h2 _ r => ?_, (fun z => nomatch z), fun {b xs} e => key e (fun _ z => nomatch z), fun {b C dx xs} e => key e (fun _ z => nomatch z)⟩
  rcases r with r | ⟨o, r⟩
  · exact .inl (key r (h2 rfl))
  · exact .inr ⟨o, key r (fun _ z => nomatch z)⟩
end
section
variable {X : Cx} {Y : Yx} {W : WX} {e : Expr} {f : EF D}
def sqF (j : Nat) (f : EF D) : SF := fun ρ => if onlyL ρ = true then lf (f (PL.view ρ)) ρ fun d => if j < ρ.length ∧ okQ true false d = true then some (.nx (ρ.set j (.dat d))) else none else none
theorem sx_setQ {i : Nat} {x : Str} {pos pos' : Pos} (hN : X.N.Nodup) (hi : X.N[i]? = some x) (hx : Loc X.env.scope x) (he : PE X e (tE Y W f)) (hs : swapsWith e (some (.Name x pos')) pos.line X.env = pure false := by rfl) (hf : X.fn x = true ∨ X.env.scope.names.lookup x = some .local := by first | exact .inl rfl | exact .inr rfl | assumption) :
    PS X (.Assign [.Name x pos'] e pos) (tS Y W (sqF i f)) := PS.imp (ps_set hN hi hx he hs hf) fun Dn σ H ⟨fo, at_, B, ρ, E, h⟩ => by
  unfold sqF at h
  by_cases ho : onlyL ρ = true
  case neg => rw [if_neg ho] at h; exact h.elim
  rw [if_pos ho] at h
  have E1 := E.cutL ho
  refine ⟨fo, fun _ => none, H, PL.view ρ, E.view, ?_⟩
  cases ef : f (PL.view ρ) with
  | bad => rw [ef] at h; exact h.elim
  | ex c ps => rw [ef] at h; exact fun dd H' s xd => h _ σ H H' dd E1 s xd
  | ok d =>
    rw [ef, lf_ok] at h
    intro H1 s1 v a
    by_cases hz : i < ρ.length ∧ okQ true false d = true
    · rw [if_pos hz] at h
      exact h _ _ H1 ((E1.ext s1).putD (Same.refl H1) hz.1 (At.rq (E.rqL ho s1) hz.2 a))
    · rw [if_neg hz] at h; exact h.elim
end
end PL

/-! P45: a.append(b.pop(k)). -/
namespace PL
open PySem PySem.Spec PyProof.Rows L2
theorem AtL.erase {Y : Yx} {G : Hp} {vs : List V} {ds : List D} (a : AtL Y G vs ds) (m : Nat) : AtL Y G (vs.eraseIdx m) (ds.eraseIdx m) := by
  rw [List.eraseIdx_eq_take_drop_succ, List.eraseIdx_eq_take_drop_succ]
  exact (a.take _).append (a.drop _)
section
variable {X : Cx} {Y : Yx} {W : WX} {o o2 e : Expr} {g : EF D} {apos cpos apos2 cpos2 pos : Pos}
@[simp] def apF (i j : Nat) (g : EF D) : SF := fun ρ => match ρ[i]? with
  | some (.ol xs) => (match ρ[j]? with
    | some (.ol ys) => lf (g ρ) ρ fun d => (match d with
      | .int k => if i ≠ j ∧ 0 ≤ k ∧ k < ys.length ∧ xs.length < cap then (match ys[k.toNat]? with
        | some y => some (.nx ((ρ.set j (.ol (ys.eraseIdx k.toNat))).set i (.ol (xs ++ [y]))))
        | none => none) else none
      | _ => none)
    | _ => none)
  | _ => none
theorem sx_appop {i j : Nat} (ho : PE X o (tVar i)) (ho2 : PE X o2 (tVar j)) (he : PE X e (tE Y W g)) (hbase : attributeBase o "append" X.env (eval o X.env) = eval o X.env := by rfl) (hbase2 : attributeBase o2 "pop" X.env (eval o2 X.env) = eval o2 X.env := by rfl)
    (hfew : ((backTo cpos (starEach [.Call (.Attribute o2 "pop" apos2) [e] [] cpos2] X.env)).all (fun x => !x.1) && (backToKw cpos (keywordEach [] X.env)).all (fun x => x.1.isSome)
      && decide (([.Call (.Attribute o2 "pop" apos2) [e] [] cpos2] : List Expr).length + ([] : List Keyword).length + (if ([] : List Keyword).isEmpty then 0 else 1) < 30)) = true := by rfl)
    (hfew2 : ((backTo cpos2 (starEach [e] X.env)).all (fun x => !x.1) && (backToKw cpos2 (keywordEach [] X.env)).all (fun x => x.1.isSome)
      && decide (([e] : List Expr).length + ([] : List Keyword).length + (if ([] : List Keyword).isEmpty then 0 else 1) < 30)) = true := by rfl)
    (hline : (apos.endLine == cpos.line) = true := by rfl) (hline2 : (apos2.endLine == cpos2.line) = true := by rfl)
    (hs : starEach [.Call (.Attribute o2 "pop" apos2) [e] [] cpos2] X.env = (false, eval (.Call (.Attribute o2 "pop" apos2) [e] [] cpos2) X.env) :: starEach [] X.env := by rfl) (hs2 : starEach [e] X.env = (false, eval e X.env) :: starEach [] X.env := by rfl)
    (hplain : (backTo cpos (starEach [] X.env)).any (·.1) = false := by rfl) (hplain2 : (backTo cpos2 (starEach [] X.env)).any (·.1) = false := by rfl)
    (hw : swapsWith (.Call (.Attribute o "append" apos) [.Call (.Attribute o2 "pop" apos2) [e] [] cpos2] [] cpos) none pos.line X.env = pure false := by rfl) :
    PS X (.Expr (.Call (.Attribute o "append" apos) [.Call (.Attribute o2 "pop" apos2) [e] [] cpos2] [] cpos) pos) (tS Y W (apF i j g)) :=
  PS.imp (ps_expr (pe_bm PySem.F.plainAttrs_list PySem.F.slot_list_append PySem.F.type_list_append mt_append ho (pa_cons (pe_bm PySem.F.plainAttrs_list PySem.F.slot_list_pop PySem.F.type_list_pop mt_popAt ho2 (pa_cons he pa_nil hs2) hbase2 hfew2 hline2 hs2 hplain2) pa_nil hs) hbase hfew hline hs hplain) hw) fun Dn σ H ⟨fo, at_, B, ρ, E, h⟩ => by
  unfold apF at h
  cases ei : ρ[i]? with
  | none => rw [ei] at h; exact h.elim
  | some s =>
    rw [ei] at h
    cases s with
    | ol xs =>
      dsimp only at h
      cases ej : ρ[j]? with
      | none => rw [ej] at h; exact h.elim
      | some s2 =>
        rw [ej] at h
        cases s2 with
        | ol ys =>
          dsimp only at h
          obtain ⟨q, vs, ha, hs, hq, z, al⟩ := E.own ei
          obtain ⟨q2, ws, ha2, hs2', hq2, z2, al2⟩ := E.own ej
          refine ⟨_, hs, .inl ⟨rfl, vs, SqL.of hq⟩, _, hs2', .inl ⟨rfl, ws, SqL.of hq2⟩, fo, at_, B, ρ, E, (lf_post E h).mono fun d H1 s1 ⟨E1, h1⟩ v a => ?_⟩
          match d, h1, a with
          | .int k, h1, a =>
            dsimp only at h1
            by_cases hc : i ≠ j ∧ 0 ≤ k ∧ k < ys.length ∧ xs.length < cap
            case neg => rw [if_neg hc] at h1; exact h1.elim
            rw [if_pos hc] at h1
            obtain ⟨hij, k0, k1, hx⟩ := hc
            have lw := al2.length
            have lv := al.length
            have hk : k.toNat < ys.length := by omega
            rw [List.getElem?_eq_getElem hk] at h1
            dsimp only at h1
            obtain ⟨y', ey, ay⟩ := al2.get (List.getElem?_eq_getElem hk)
            have nq : q ≠ q2 := fun e => hij (E.dj i j q ha (by rw [e]; exact ha2))
            have hh2 : hid fo at_ q2 := .inr ⟨j, ha2⟩
            have hcap : cap < 2 ^ 63 := by unfold cap; omega
            refine ⟨q2, ws, k, k.toNat, y', rfl, by rw [show v = .int k from a], s1 _ _ hq2, by omega, by omega, ?_, ey, ?_⟩
            · unfold seqIndex?
              dsimp only
              rw [if_neg (show ¬ k < 0 by omega), if_pos (by rw [Bool.and_eq_true, decide_eq_true_iff, decide_eq_true_iff]; omega)]
            · have E2 := E1.mutL (List.getElem?_eq_some_iff.mp ej).1 ha2 hs2' (vs := ws.eraseIdx k.toNat) (ds := ys.eraseIdx k.toNat) (Nat.le_trans (List.length_eraseIdx_le ..) z2) ((al2.same (hd_same s1)).erase k.toNat)
              refine ⟨q, vs, y', rfl, rfl, (upd_ne nq).trans (s1 _ _ hq), by rw [← cap_eq, lv]; exact hx, ?_⟩
              have E3 := E2.mutL (i := i) (q := q) (by rw [List.length_set]; exact (List.getElem?_eq_some_iff.mp ei).1) ha hs (vs := vs ++ [y']) (ds := xs ++ [ys[k.toNat]]) (by simp; omega) (by
                rw [hd_upd hh2]
                exact (al.same (hd_same s1)).append ⟨y', [], rfl, ay.same (hd_same s1), rfl⟩)
              exact h1 _ _ _ E3
        | _ => exact h.elim
    | _ => exact h.elim
end
end PL

/-! P46: dict(d) of a dict whose keys are tuples. -/
namespace PL
open PySem PySem.Spec PyProof.Rows L2
section
variable {prog : Program} {w : World} {K : Type} [DecidableEq K] {knd : HeapKind prog w K} {A : Around} {E : Value → Shared → Prop} {s : Shared}
theorem call_dictH {o : Addr} {more : List (K × Addr × Value)} {Q : Value → Shared → Prop} (hu : knd.room A.in1.in1) (hoS : (o == sysModules) = false) (ho : s.heap.DictOfH knd o more) (hty : ∀ x ∈ more, (⟨s.heap.push { cls := .type "dict", data := .dict #[] }, s.gens, s.drawn, s.toks, s.os⟩ : Shared).TypeIs (.ref x.2.1) "tuple") (hap : (more.map fun x => knd.hash x.1).Nodup) (hsz : more.length ≤ sizeLine)
    (hpush : (s.heap.push { cls := .type "dict", data := .dict #[] }).DictOfH knd o more) (hnew : (s.heap.push { cls := .type "dict", data := .dict #[] }).DictOfH knd s.heap.objs.size [])
    (h : ∀ h', h'.DictOfH knd s.heap.objs.size more → Heap.SameBut s.heap.objs.size (s.heap.push { cls := .type "dict", data := .dict #[] }) h' → Q (.ref s.heap.objs.size) { s with heap := h' }) :
    wpAny (model prog w) A (call (.type "dict") [.ref o]) Q E s := by
  refine callType_codes (Q₁ := fun obj s₁ => obj = .ref s.heap.objs.size ∧ s₁ = { s with heap := s.heap.push { cls := .type "dict", data := .dict #[] } }) F.kt_called_dict (F.kt_typeCall_dict_1 _) F.entry_dict_init (kt_code_dict_new _ ⟨rfl, rfl⟩) ?_
  rintro obj s₁ ⟨rfl, rfl⟩
  have hdo : s.heap.objs.size ≠ o := by
    obtain ⟨_, _, _, hg, _⟩ := ho
    exact fun e => absurd (Heap.lt_size hg) (by rw [e]; exact Nat.lt_irrefl _)
  refine ⟨hnew.typeIs, F.args_dict_init_2 _ _, ?_⟩
  unfold Builtin.«dict.__init__»
  refine wpAny_bind ?_
  unfold Builtin.Dict.selfAndRest
  refine wpAny_bind (wpAny_notOrdered_dict hnew.typeIs ?_)
  show wpAny _ _ (pure (s.heap.objs.size, [Value.ref o])) _ _ _
  refine wpAny_pure ?_
  show wpAny _ _ (Builtin.Dict.updateFrom "dict.__init__" s.heap.objs.size (.ref o) [] .none) _ _ _
  unfold Builtin.Dict.updateFrom
  refine wpAny_bind (wpAny_typeOf hpush.typeIs ?_)
  rw [if_neg (by decide)]
  refine wpAny_bind ?_
  unfold Builtin.Dict.merge
  refine wpAny_bind ?_
  unfold Builtin.Dict.readDirectly
  refine wpAny_bind (wpAny_isInstance hpush.typeIs isSubtype_dict_dict ?_)
  simp only [Bool.not_true, Bool.false_eq_true, if_false]
  refine wpAny_bind (wpAny_specialOf hpush.typeIs F.slot_dict_iter.lookup (wpAny_pure ?_))
  simp only [beq_self_eq_true, if_true]
  refine wpAny_bind (wpAny_pure ?_)
  refine wpAny_mergeDict_heap (hsz := by simpa using hsz) hu hdo hoS hnew hpush (.inr ⟨hty, hap⟩) fun h' hd' ho' hs' => ?_
  show wpAny _ _ (Builtin.Dict.addKeywords s.heap.objs.size [] >>= _) _ _ _
  rw [storedAllH_nil_of_nodup more hpush.nodup] at hd'
  exact wpAny_bind (wpAny_pure (wpAny_pure ⟨rfl, h h' hd' hs'⟩))
end
end PL

/-! P47: dict(d) of a dict whose keys are tuples of ints with unlike hashes; x = e, where e looks at owned things and makes a dict of ints. -/
namespace PL
open PySem PySem.Spec PyProof.Rows L2
def intsK : List Key → Option (List Int)
  | [] => some []
  | .inl i :: r => (intsK r).map (i :: ·)
  | _ => none
def hashT (k : List Key) : Option Int := (intsK k).map fun ns => hashAK (.tup ns)
def hashesT {α : Type} : List (List Key × α) → Option (List Int)
  | [] => some []
  | (k, _) :: r => (hashT k).bind fun h => (hashesT r).map (h :: ·)
theorem intsK_eq : ∀ {k : List Key} {ns : List Int}, intsK k = some ns → k = ns.map .inl
  | [], ns, e => by cases e; rfl
  | .inl i :: r, ns, e => by
    obtain ⟨ms, e1, rfl⟩ := Option.map_eq_some_iff.mp (show (intsK r).map (i :: ·) = some ns from e)
    rw [intsK_eq e1]; rfl
  | .inr x :: r, ns, e => nomatch e
theorem hashT_key {P : Program} {w : World} {k : List Key} {h : Int} (e : hashT k = some h) : (tupleKind (mixKind P w)).hash k = h := by
  obtain ⟨ns, e1, rfl⟩ := Option.map_eq_some_iff.mp e
  rw [intsK_eq e1]
  show reduceHash (Builtin.Tuple.tupleHashOf ((ns.map Sum.inl).map (mixKind P w).hash)) = reduceHash (Builtin.Tuple.tupleHashOf (ns.map hashInt))
  rw [List.map_map]
  rfl
theorem hashesT_kt {α : Type} {P : Program} {w : World} {H : Hp} {g : α → V} : ∀ {kvs : List (List Key × α)} {xs : List (List Key × Addr × Value)} {hs : List Int}, KT H (kvs.map fun p => (p.1, g p.2)) xs → hashesT kvs = some hs → xs.map (fun x => (tupleKind (mixKind P w)).hash x.1) = hs
  | [], xs, hs, r, e => by cases r; cases e; rfl
  | (k, v) :: kvs, xs, hs, r, e => by
    cases r with
    | @cons p q ps qs hq t =>
      obtain ⟨h, e1, e2⟩ := Option.bind_eq_some_iff.mp (show (hashT k).bind (fun h => (hashesT kvs).map (h :: ·)) = some hs from e)
      obtain ⟨hr, e3, rfl⟩ := Option.map_eq_some_iff.mp e2
      rw [List.map_cons, hashesT_kt t e3, ← hq.1, hashT_key e1]
def rCopyT : List V → Hp → VK → Prop := fun xs H Q => ∃ (a : Addr) (kvs : List (List Key × V)) (hs : List Int), xs = [V.ref a] ∧ Rd H a (.dT kvs) ∧ hashesT kvs = some hs ∧ hs.Nodup ∧ ∀ p, H p = none → Q (.ref p) (upd H p (.dT kvs))
section
variable {X : Cx} {Y : Yx}
theorem cr_copyT (hu : X.A.units + 65 < cLine) : CallR X (.type "dict") rCopyT := by
  intro pins s σ H xs us Q I r q
  obtain ⟨a, kvs, hs, rfl, hq, eh, nd, q⟩ := q
  obtain ⟨u, rfl, rx⟩ := vals1 r
  cases rx
  obtain ⟨z, lo, xs, rel, dd⟩ := dt_rd I.hok hq
  have st := tupleKind_stays (knd := mixKind X.prog X.w)
  have old : ∀ b o, s.heap.get? b = some o → (s.heap.push { cls := .type "dict", data := .dict #[] }).get? b = some o := fun b o e => Heap.get?_push_of_some _ e
  have keys : ∀ x ∈ xs, (tupleKind (mixKind X.prog X.w)).is (s.heap.push { cls := .type "dict", data := .dict #[] }) x.1 x.2.1 := fun x m => by
    obtain ⟨_, _, _, _, _, _, _, his, _⟩ := dd
    exact st.stays (fun b o _ _ e _ => old b o e) (his x m)
  have dp : (s.heap.push { cls := .type "dict", data := .dict #[] }).DictOfH (tupleKind (mixKind X.prog X.w)) a xs := dd.at' (old a) keys
  refine call_dictH (knd := tupleKind (mixKind X.prog X.w)) (by show X.A.units + 1 + 1 < cLine; omega) lo dd (fun x m => ?_) ?_ (by rw [← Paired.length rel]; exact z) dp (Heap.DictOfH.new s.heap) fun h' hd' hs' => ?_
  · exact st.tuple (s := ⟨s.heap.push { cls := .type "dict", data := .dict #[] }, s.gens, s.drawn, s.toks, s.os⟩) (keys x m)
  · have e2 := hashesT_kt (P := X.prog) (w := X.w) (g := id) (kvs := kvs) (xs := xs) (by rw [show (kvs.map fun p => (p.1, id p.2)) = kvs from List.map_id _]; exact rel) eh
    rw [e2]; exact nd
  · have hm : (s.heap.objs.size == sysModules) = false := beq_eq_false_iff_ne.mpr (Nat.ne_of_gt I.big)
    obtain ⟨ob, es, ep, h1, h2, h3, h4, _, h5⟩ := hd'
    have hf : H s.heap.objs.size = none := I.hok.fresh (Nat.le_refl _)
    exact ⟨.ref s.heap.objs.size, upd H s.heap.objs.size (.dT kvs), I.laid (t' := s.toks) (fun b o e => (hs'.2 b (Nat.ne_of_lt (Heap.lt_size e))).trans (old b o e)) (Nat.le_refl _) (show ObjOk X.prog X.w _ _ _ (.dT kvs) from ⟨z, hm, xs, rel.keeps fun c ys ec => by rw [upd_ne (ne_of_none ec hf)]; exact ec, ob, es, ep, h1, h2, h3, h4, h5⟩), rfl, q _ hf⟩
def copyTO : List D → Option Sl
  | [.dT kvs] => (hashesT kvs).bind fun hs => if hs.Nodup then some (.oT kvs) else none
  | _ => none
theorem hashesT_v {G : Hp} : ∀ {kvs : List (List Key × D)} {xs : List (List Key × V)} {hs : List Int}, AtT Y G xs kvs → hashesT kvs = some hs → hashesT xs = some hs
  | [], xs, hs, a, e => by cases (show xs = [] from a); exact e
  | (k, d) :: r, xs, hs, ⟨v, q, ex, av, t⟩, e => by
    subst ex
    obtain ⟨h, e1, e2⟩ := Option.bind_eq_some_iff.mp (show (hashT k).bind (fun h => (hashesT r).map (h :: ·)) = some hs from e)
    obtain ⟨hr, e3, rfl⟩ := Option.map_eq_some_iff.mp e2
    show (hashT k).bind (fun h => (hashesT q).map (h :: ·)) = _
    rw [e1, hashesT_v t e3]; rfl
theorem v_copyT : VCo Y rCopyT copyTO := fun hh H xs ds s Q al a z q => by
  match ds, z, a with
  | [.dT kvs], z, a =>
    obtain ⟨hs, e, z2⟩ := Option.bind_eq_some_iff.mp (show (hashesT kvs).bind (fun hs => if hs.Nodup then some (Sl.oT kvs) else none) = some s from z)
    split at z2
    · rename_i nd
      cases z2
      obtain ⟨x, rfl, ax⟩ := args1 a
      obtain ⟨r, vs, rfl, g, at_⟩ := ax
      exact ⟨r, vs, hs, rfl, (RLe.of_same hd_le).rd (fun _ _ e => nomatch e) g, hashesT_v at_ e, nd, fun p np => q _ _ (some p) (same_new np) (fun a e => by cases e; exact np) (sl_newT np at_) (fun z => nomatch z)⟩
    · cases z2
end
/-! ### x = e, where e looks at what is owned and makes a dict of tuple keys and ints -/
section
variable {X : Cx} {Y : Yx} {W : WX} {e : Expr} {f : EF Sl}
theorem vInts_any {G G' : Hp} : ∀ {kvs : List (List Key × D)} {u : List (List Key × Int)} {xs : List (List Key × V)}, vInts kvs = some u → AtT Y G xs kvs → AtT Y G' xs kvs
  | [], u, xs, e, a => a
  | (k, d) :: r, u, xs, e, ⟨v, q, ex, av, t⟩ => by
    cases d with
    | int i =>
      have e2 : (vInts r).map ((k, i) :: ·) = some u := e
      obtain ⟨u2, e3, rfl⟩ := Option.map_eq_some_iff.mp e2
      exact ⟨v, q, ex, av, vInts_any e3 t⟩
    | _ => cases e
def svTF (j : Nat) (f : EF Sl) : SF := fun ρ => lf (f (PL.view ρ)) ρ fun s => match s with
  | .oT kvs => if j < ρ.length ∧ (vInts kvs).isSome = true then some (.nx (ρ.set j (.oT kvs))) else none
  | _ => none
theorem sx_setVT {i : Nat} {x : Str} {pos pos' : Pos} (hN : X.N.Nodup) (hi : X.N[i]? = some x) (hx : Loc X.env.scope x) (he : PE X e (tO Y W f)) (hs : swapsWith e (some (.Name x pos')) pos.line X.env = pure false := by rfl) (hf : X.fn x = true ∨ X.env.scope.names.lookup x = some .local := by first | exact .inl rfl | exact .inr rfl | assumption) :
    PS X (.Assign [.Name x pos'] e pos) (tS Y W (svTF i f)) := PS.imp (ps_set hN hi hx he hs hf) fun Dn σ H ⟨fo, at_, B, ρ, E, h⟩ => by
  unfold svTF at h
  refine ⟨fo, fun _ => none, H, PL.view ρ, E.view, ?_⟩
  cases ef : f (PL.view ρ) with
  | bad => rw [ef] at h; exact h.elim
  | ex c ps => rw [ef] at h; exact fun dd H' s xd => h _ σ H H' dd E s xd
  | ok s =>
    rw [ef, lf_ok] at h
    intro H1 s1 v oa new r hn
    cases s with
    | oT kvs =>
      dsimp only at h
      by_cases hz : i < ρ.length ∧ (vInts kvs).isSome = true
      · rw [if_pos hz] at h
        obtain ⟨u, eu⟩ := Option.isSome_iff_exists.mp hz.2
        obtain ⟨a, vs, e1, e2, e3, q⟩ := r
        exact h _ _ H1 (E.put s1 hz.1 new ⟨a, vs, e1, e2, e3, vInts_any eu q⟩)
      · rw [if_neg hz] at h; exact h.elim
    | _ => exact h.elim
end
end PL

/-! P48: a list of owned dicts of tuple keys: made by a comprehension; one of them cleared, put into. -/
namespace PL
open PySem PySem.Spec PyProof.Rows L2
open Classical in
/-- slot i of n owns a and as -/
noncomputable def ownD (at_ : Nat → Option Addr) (n i : Nat) (a : Addr) (as : List Addr) : Nat → Option Addr := fun j => if j = i then some a else if ∃ m, j = i + (m + 1) * n then as[(j - i) / n - 1]? else at_ j
section
variable {at_ : Nat → Option Addr} {n i j m : Nat} {a b : Addr} {as : List Addr}
theorem ownD_i : ownD at_ n i a as i = some a := if_pos rfl
theorem ownD_g (hn : 0 < n) : ownD at_ n i a as (i + (m + 1) * n) = as[m]? := by
  have h := mul_pos_le m n
  unfold ownD
  rw [if_neg (by omega), if_pos ⟨m, rfl⟩]
  congr 1
  rw [Nat.add_sub_cancel_left, Nat.mul_div_cancel _ hn]; omega
theorem ownD_o (h1 : j ≠ i) (h2 : ∀ m, j ≠ i + (m + 1) * n) : ownD at_ n i a as j = at_ j := by
  unfold ownD
  rw [if_neg h1, if_neg fun ⟨m, e⟩ => h2 m e]
theorem ownD_lt (h1 : j ≠ i) (hj : j < n) : ownD at_ n i a as j = at_ j := ownD_o h1 fun m e => by
  have := mul_pos_le m n
  omega
theorem ownD_from (hn : 0 < n) (h : ownD at_ n i a as j = some b) : (j = i ∧ b = a) ∨ (∃ m, j = i + (m + 1) * n ∧ as[m]? = some b) ∨ (j ≠ i ∧ (∀ m, j ≠ i + (m + 1) * n) ∧ at_ j = some b) := by
  by_cases q1 : j = i
  · subst q1; rw [ownD_i] at h; cases h; exact .inl ⟨rfl, rfl⟩
  · by_cases q : ∃ m, j = i + (m + 1) * n
    · obtain ⟨m, rfl⟩ := q
      rw [ownD_g hn] at h
      exact .inr (.inl ⟨m, rfl, h⟩)
    · rw [ownD_o q1 fun m e => q ⟨m, e⟩] at h
      exact .inr (.inr ⟨q1, fun m e => q ⟨m, e⟩, h⟩)
theorem ownD_hid {fo : Addr → Prop} (hn : 0 < n) (h : hid fo (ownD at_ n i a as) b) : hid fo at_ b ∨ b = a ∨ b ∈ as := by
  rcases h with h | ⟨j, h⟩
  · exact .inl (.inl h)
  · rcases ownD_from hn h with ⟨_, e⟩ | ⟨m, _, e⟩ | ⟨_, _, e⟩
    · exact .inr (.inl e)
    · exact .inr (.inr (List.mem_of_getElem? e))
    · exact .inl (.inr ⟨j, e⟩)
theorem ownD_gsl (hi : i < n) (hj : j < n) (hne : j ≠ i) : gsl (ownD at_ n i a as) n j b ↔ gsl at_ n j b := by
  constructor
  · rintro ⟨m, h⟩
    refine ⟨m, ?_⟩
    rw [ownD_o (fun z => ?_) fun k => slot_ne hi hj hne] at h
    · exact h
    · have := mul_pos_le m n
      omega
  · rintro ⟨m, h⟩
    refine ⟨m, ?_⟩
    rw [ownD_o (fun z => ?_) fun k => slot_ne hi hj hne]
    · exact h
    · have := mul_pos_le m n
      omega
end
theorem nodup_idx {α : Type} {as : List α} {m k : Nat} {b : α} (nd : as.Nodup) (h1 : as[m]? = some b) (h2 : as[k]? = some b) : m = k := by
  obtain ⟨l1, e1⟩ := List.getElem?_eq_some_iff.mp h1
  obtain ⟨l2, e2⟩ := List.getElem?_eq_some_iff.mp h2
  have pw := List.pairwise_iff_getElem.mp nd
  rcases Nat.lt_trichotomy m k with h | h | h
  · exact absurd (e1.trans e2.symm) (pw m k l1 l2 h)
  · exact h
  · exact absurd (e2.trans e1.symm) (pw k m l2 l1 h)
section
variable {Y : Yx} {fo : Addr → Prop} {at_ : Nat → Option Addr} {B : Hp} {σ : L2.St} {H H1 H' : Hp} {ρ : List Sl} {G : Hp}
/-- a slot is given a thing that owns as besides -/
theorem EnvO.putG (E : EnvO Y fo at_ B σ H ρ) (hs : Same H H') {i : Nat} {v : Option V} {s : Sl} {a : Addr} {as : List Addr} (hi : i < ρ.length) (na : H a = none) (nas : ∀ b ∈ as, H b = none) (nd : as.Nodup) (hna : a ∉ as)
    (tk : ∀ b ∈ as, ∃ o, H' b = some o ∧ ∀ xs, o ≠ .tup xs) (r : SlR Y (fun l => l ∈ as) (hd (hid fo (ownD at_ ρ.length i a as)) H') H' v s (some a)) : EnvO Y fo (ownD at_ ρ.length i a as) B (σ.set i v) H' (ρ.set i s) := by
  have hn : 0 < ρ.length := by omega
  have n0 : ∀ b, b = a ∨ b ∈ as → H b = none := fun b h => h.elim (fun e => by rw [e]; exact na) (nas b)
  have n1 : ∀ b, b = a ∨ b ∈ as → ¬ fo b := fun b h q => E.fin b q (n0 b h)
  have n2 : ∀ b j, b = a ∨ b ∈ as → at_ j ≠ some b := fun b j h q => E.al b (.inr ⟨j, q⟩) (n0 b h)
  refine ⟨E.same.trans hs, E.fin.same hs, fun j k b h1 h2 => ?_, fun j b h => ?_, fun j b h => ?_, by simp [E.len], fun j b h hl => ?_, fun j x e => ?_⟩
  · rcases ownD_from hn h1 with ⟨a1, b1⟩ | ⟨m1, a1, b1⟩ | ⟨_, _, b1⟩ <;> rcases ownD_from hn h2 with ⟨a2, b2⟩ | ⟨m2, a2, b2⟩ | ⟨_, _, b2⟩
    · rw [a1, a2]
    · exact absurd (by rw [← b1]; exact List.mem_of_getElem? b2) hna
    · exact absurd b2 (n2 b k (.inl b1))
    · exact absurd (by rw [← b2]; exact List.mem_of_getElem? b1) hna
    · rw [a1, a2, nodup_idx nd b1 b2]
    · exact absurd b2 (n2 b k (.inr (List.mem_of_getElem? b1)))
    · exact absurd b1 (n2 b j (.inl b2))
    · exact absurd b1 (n2 b j (.inr (List.mem_of_getElem? b2)))
    · exact E.dj j k b b1 b2
  · rcases ownD_from hn h with ⟨_, b1⟩ | ⟨m1, _, b1⟩ | ⟨_, _, b1⟩
    · exact n1 b (.inl b1)
    · exact n1 b (.inr (List.mem_of_getElem? b1))
    · exact E.df j b b1
  · rcases ownD_from hn h with ⟨_, b1⟩ | ⟨m1, _, b1⟩ | ⟨_, _, b1⟩
    · exact E.same.free (n0 b (.inl b1))
    · exact E.same.free (n0 b (.inr (List.mem_of_getElem? b1)))
    · exact E.nw j b b1
  · rw [List.length_set] at hl
    rcases ownD_from hn h with ⟨a1, b1⟩ | ⟨m1, _, b1⟩ | ⟨_, _, b1⟩
    · omega
    · exact tk b (List.mem_of_getElem? b1)
    · obtain ⟨o, e, n⟩ := E.gt j b b1 hl
      exact ⟨o, hs _ _ e, n⟩
  · rw [List.length_set]
    by_cases hj : j = i
    · subst hj
      rw [List.getElem?_set_self hi] at e
      cases e
      rw [List.getElem?_set_self (by rw [E.len]; exact hi), ownD_i]
      refine r.mono (Same.refl _) (fun _ _ _ z => z) (fun l hl => ?_) fun _ _ _ z => z
      obtain ⟨m, hm⟩ := List.getElem?_of_mem hl
      exact ⟨m, by rw [ownD_g hn]; exact hm⟩
    · rw [List.getElem?_set_ne (Ne.symm hj)] at e ⊢
      have hj2 : j < ρ.length := (List.getElem?_eq_some_iff.mp e).1
      rw [ownD_lt hj hj2]
      refine (E.sl j x e).mono (fun b u z => ?_) (fun a u _ z => hs a u z) (fun l hl => (ownD_gsl hi hj2 hj).mpr hl) (fun a u _ z => hs a u z)
      obtain ⟨n, z⟩ := hd_some z
      refine (hd_not fun q => ?_).trans (hs b u z)
      rcases ownD_hid hn q with q | q
      · exact n q
      · rw [n0 b q] at z; cases z
/-- more is hidden: what is new -/
theorem EnvO.more (E : EnvO Y fo at_ B σ H1 ρ) (s : Same H1 H') {S : Addr → Prop} (n : ∀ c, S c → H1 c = none) (t : ∀ c, S c → ∃ o, H' c = some o ∧ ∀ xs, o ≠ .tup xs) : EnvO Y (fun c => fo c ∨ S c) at_ B σ H' ρ := by
  have E4 := E.ext s
  refine ⟨E4.same, ⟨fun a m => ?_, fun a xs m => ?_⟩, E4.dj, fun j a q m => ?_, E4.nw, E4.len, E4.gt, fun j r e => ?_⟩
  · rcases m with m | m
    · exact E4.fin a m
    · obtain ⟨o, e, _⟩ := t a m
      rw [e]; exact fun z => nomatch z
  · rcases m with m | m
    · exact E4.fin.nt a xs m
    · obtain ⟨o, e, nt⟩ := t a m
      rw [e]; exact fun z => nt xs (by cases z; rfl)
  · rcases m with m | m
    · exact E4.df j a q m
    · exact E.al a (.inr ⟨j, q⟩) (n a m)
  · refine (E.sl j r e).mono (fun b o q => ?_) (fun a u _ q => s a u q) (fun _ z => z) fun a u _ q => s a u q
    obtain ⟨n1, q⟩ := hd_some q
    refine (hd_not ?_).trans (s b o q)
    rintro ((m | m) | m)
    · exact n1 (.inl m)
    · rw [n b m] at q; cases q
    · exact n1 (.inr m)
theorem hid_more {S : Addr → Prop} : hid (fun c => fo c ∨ S c) at_ = fun a => hid fo at_ a ∨ S a := by
  funext a
  apply propext
  constructor
  · rintro ((m | m) | m)
    · exact .inl (.inl m)
    · exact .inr m
    · exact .inl (.inr m)
  · rintro ((m | m) | m)
    · exact .inl (.inl m)
    · exact .inr m
    · exact .inl (.inr m)
/-- the dicts at as -/
def DcT (Y : Yx) (G H : Hp) (a : Addr) (k : List (List Key × D)) : Prop := ∃ xs, H a = some (.dT xs) ∧ AtT Y G xs k
theorem ods_of {gs : Addr → Prop} : ∀ {as : List Addr} {ks : List (List (List Key × D))}, as.Nodup → (∀ a ∈ as, gs a) → Paired (DcT Y G H) as ks → ODs Y gs G H (as.map V.ref) ks
  | _, _, _, _, .nil => rfl
  | a :: as, k :: ks, nd, h, .cons ⟨xs, e, at_⟩ t => by
    have nd2 := List.nodup_cons.mp nd
    exact ⟨a, as.map V.ref, xs, rfl, h a (List.mem_cons_self ..), e, at_, fun m => nd2.1 (by
      obtain ⟨b, hb, e2⟩ := List.mem_map.mp m
      cases e2; exact hb), ods_of nd2.2 (fun b m => h b (List.mem_cons_of_mem _ m)) t⟩
end
/-! ### v = [f(x) for x in xs], each an owned dict -/
def dGo (step : D → Option (List (List Key × D))) : List D → Option (List (List (List Key × D)))
  | [] => some []
  | d :: ds => (step d).bind fun k => (dGo step ds).map (k :: ·)
def dSt (vs : List Nat) (b : BF) (f : EF Sl) (ρ : List Sl) (d : D) : Option (List (List Key × D)) := match b d (wipeS ρ vs) with
  | none => none
  | some ρ1 => match f ρ1 with
    | .ok (.oT kvs) => some kvs
    | _ => none
def odF (i : Nat) (vs : List Nat) (l : EF (List D)) (b : BF) (f : EF Sl) : SF := fun ρ => lf (l ρ) ρ fun ds => if okW ρ vs = true ∧ ds.length ≤ cap ∧ i < ρ.length then (dGo (dSt vs b f ρ) ds).map fun xs => .nx (ρ.set i (.oD xs)) else none
section
variable {X : Cx} {Y : Yx} {W : WX}
theorem lcod_rd {i : Nat} {g : TG} {vs bs : List Nat} {l : EF (List D)} {b : BF} {f : EF Sl} (ht : TgR Y g bs b) (sub : ∀ i ∈ bs, i ∈ vs) {Dn : Ends} {σ : L2.St} {H : Hp} (h : tS Y W (odF i vs l b f) Dn σ H) : tAsg (tLc (tI Y W l) g (tT Y W0 yesT) (tO Y W0 f) vs) (gName i) Dn σ H := by
  obtain ⟨fo, at_, B, ρ, E, h⟩ := h
  unfold odF at h
  refine ⟨fo, at_, B, ρ, E, (lf_post E h).mono fun ds H1 s1 ⟨E1, h1⟩ J it Da nD => ?_⟩
  by_cases ok : okW ρ vs = true ∧ ds.length ≤ cap ∧ i < ρ.length
  case neg => rw [if_neg ok] at h1; exact h1.elim
  rw [if_pos ok] at h1
  obtain ⟨ok, okl, oki⟩ := ok
  have hn : 0 < ρ.length := by omega
  obtain ⟨Gd, Yd, w, hG, hY⟩ := it
  have E2 := E1.wiped ok
  cases el : dGo (dSt vs b f ρ) ds with
  | none => rw [el] at h1; exact h1.elim
  | some xs =>
    rw [el] at h1
    have h2 : ∀ at_ σ H, EnvO Y fo at_ B σ H (ρ.set i (.oD xs)) → Dn.nx σ H := h1
    have sB : Same (hd (hid fo at_) H1) H1 := hd_le
    refine lc_it w (fun k H' => ∃ (as : List Addr) (acc rest : List (List (List Key × D))), H' Da = some (.lst (as.map V.ref)) ∧ Same H1 H' ∧ as.Nodup ∧ (∀ c ∈ as, c ≠ Da ∧ H1 c = none) ∧
        Paired (DcT Y (hd (fun c => hid fo at_ c ∨ (c = Da ∨ c ∈ as)) H') H') as acc ∧ dGo (dSt vs b f ρ) (ds.drop k) = some rest ∧ acc ++ rest = xs ∧ as.length = k)
      ⟨[], [], xs, upd_same, same_new nD, List.nodup_nil, (fun _ m => nomatch m), .nil, el, rfl, rfl⟩ (fun k H' _ ⟨_, _, _, _, s, _⟩ => hG H' (sB.trans s)) ?_ ?_
    · rintro k x H' H3 hi ⟨as, acc, rest, hD, s, nd, nas, pr, er, ea, ln⟩ y
      have tkS : ∀ c, (c = Da ∨ c ∈ as) → ∃ o, H' c = some o ∧ ∀ xs, o ≠ .tup xs := fun c hc => by
        rcases hc with rfl | hc
        · exact ⟨_, hD, fun _ z => nomatch z⟩
        · obtain ⟨j, hj⟩ := List.getElem?_of_mem hc
          have go : ∀ {as : List Addr} {acc : List (List (List Key × D))} {G : Hp}, Paired (DcT Y G H') as acc → c ∈ as → ∃ o, H' c = some o ∧ ∀ xs, o ≠ .tup xs := by
            intro as acc G p
            induction p with
            | nil => intro m; cases m
            | cons q t ih =>
              intro m
              rcases List.mem_cons.mp m with rfl | m
              · obtain ⟨us, e, _⟩ := q; exact ⟨_, e, fun _ z => nomatch z⟩
              · exact ih m
          exact go pr hc
      have nS : ∀ c, (c = Da ∨ c ∈ as) → H1 c = none := fun c hc => hc.elim (fun e => by rw [e]; exact nD) fun m => (nas c m).2
      have E3 := E2.more s (S := fun c => c = Da ∨ c ∈ as) nS tkS
      have s3 : Same (hd (hid fo at_) H1) (hd (hid (fun c => fo c ∨ (c = Da ∨ c ∈ as)) at_) H') := fun c o e => by
        obtain ⟨n, e⟩ := hd_some e
        refine (hd_not ?_).trans (s c o e)
        rw [hid_more]
        rintro (m | m)
        · exact n m
        · rw [nS c m] at e; cases e
      obtain ⟨s2, d, ed, ad⟩ := hY k H' x H3 _ hi s3 E3.al y
      rw [List.drop_eq_getElem_cons hi] at er
      have ed' : ds[k] = d := by rw [List.getElem?_eq_getElem hi] at ed; exact Option.some.inj ed
      rw [ed'] at er
      unfold dGo at er
      obtain ⟨kvs, es, er⟩ := Option.bind_eq_some_iff.mp er
      obtain ⟨rest2, er2, er3⟩ := Option.map_eq_some_iff.mp er
      unfold dSt at es
      cases eb : b d (wipeS ρ vs) with
      | none => rw [eb] at es; cases es
      | some ρ1 =>
        rw [eb] at es
        refine ht _ at_ _ _ H3 _ x d ρ1 _ (E3.ext s2) ad eb fun σ2 E5 l2 u2 => ⟨wipe_eq l2 u2 sub, ?_⟩
        have ec : clr at_ bs = at_ := by
          funext j
          by_cases hj : j ∈ bs
          · rw [clr_in hj]
            have hv := sub j hj
            have q := ok
            unfold okW at q
            have q2 := List.all_eq_true.mp q j hv
            cases e : ρ[j]? with
            | none => rw [e] at q2; exact absurd q2 Bool.false_ne_true
            | some s =>
              rw [e] at q2
              have r := E1.sl j s e
              cases s with
              | no => exact r.symm
              | dat d => exact r.1.symm
              | _ => exact absurd q2 Bool.false_ne_true
          · rw [clr_out hj]
        rw [ec] at E5
        have D3 : H3 Da = some (.lst (as.map V.ref)) := s2 _ _ hD
        refine ⟨_, at_, B, ρ1, E5, fun H4 s4 => ?_⟩
        refine Eq.mpr (if_pos rfl) ?_
        refine ⟨_, at_, B, ρ1, E5.ext s4, ?_⟩
        have ef : f ρ1 = .ok (.oT kvs) := by
          dsimp only at es
          cases ef : f ρ1 with
          | bad => rw [ef] at es; cases es
          | ex c ps => rw [ef] at es; cases es
          | ok s => rw [ef] at es; cases s <;> first | (cases es; done) | skip
                    cases es; rfl
        rw [ef]
        intro H5 s5 v oa new r hn
        obtain ⟨c, ws, rfl, e2, hc, ak⟩ := r
        cases e2
        have nc4 : H4 c = none := new c rfl
        have s14 : Same H' H4 := s2.trans s4
        have D4 : H4 Da = some (.lst (as.map V.ref)) := s4 _ _ D3
        have cDa : c ≠ Da := fun z => by rw [z, D4] at nc4; cases nc4
        have cas : c ∉ as := fun m => by
          obtain ⟨o, e, _⟩ := tkS c (.inr m)
          rw [s14 _ _ e] at nc4; cases nc4
        have nc1 : H1 c = none := (s.trans s14).free nc4
        refine ⟨as.map V.ref, s5 _ _ D4, ?_, as ++ [c], acc ++ [kvs], rest2, ?_, fun b o e => ?_, ?_, fun b m => ?_, ?_, er2, ?_, ?_⟩
        · rw [← cap_eq, List.length_map, ln]; omega
        · rw [upd_same, List.map_append]; rfl
        · rw [upd_ne (ne_of_none e nD)]; exact s5 _ _ (s14 _ _ (s _ _ e))
        · rw [List.nodup_append]
          exact ⟨nd, by simp, fun x hx y hy => by rw [List.mem_singleton.mp hy]; exact fun z => cas (by rw [← z]; exact hx)⟩
        · rcases List.mem_append.mp m with m | m
          · exact nas b m
          · rw [List.mem_singleton.mp m]; exact ⟨cDa, nc1⟩
        · have hG5 : hd (fun b => hid fo at_ b ∨ (b = Da ∨ b ∈ as ++ [c])) (upd H5 Da (.lst (as.map V.ref ++ [V.ref c]))) = hd (fun b => hid fo at_ b ∨ (b = Da ∨ b ∈ as ++ [c])) H5 := hd_upd (.inr (.inl rfl))
          rw [hG5]
          refine Paired.snoc ?_ ⟨ws, (upd_ne cDa).trans hc, ak.same (hd_sub fun b m => ?_)⟩
          · have go : ∀ {as' : List Addr} {acc' : List (List (List Key × D))}, (∀ b ∈ as', b ∈ as) → Paired (DcT Y (hd (fun c => hid fo at_ c ∨ (c = Da ∨ c ∈ as)) H') H') as' acc' →
                Paired (DcT Y (hd (fun b => hid fo at_ b ∨ (b = Da ∨ b ∈ as ++ [c])) H5) (upd H5 Da (.lst (as.map V.ref ++ [V.ref c])))) as' acc' := by
              intro as' acc' hsub p
              induction p with
              | nil => exact .nil
              | cons q t ih =>
                obtain ⟨us, e, au⟩ := q
                refine .cons ⟨us, (upd_ne (nas _ (hsub _ (List.mem_cons_self ..))).1).trans (s5 _ _ (s14 _ _ e)), au.same fun b u z => ?_⟩ (ih fun b m => hsub b (List.mem_cons_of_mem _ m))
                obtain ⟨n, z⟩ := hd_some z
                refine (hd_not fun m => ?_).trans (s5 _ _ (s14 _ _ z))
                rcases m with m | m | m
                · exact n (.inl m)
                · exact n (.inr (.inl m))
                · rcases List.mem_append.mp m with m | m
                  · exact n (.inr (.inr m))
                  · rw [List.mem_singleton.mp m] at z
                    rw [s14 _ _ z] at nc4; cases nc4
            exact go (fun _ m => m) pr
          · rw [hid_more]
            rcases m with m | m | m
            · exact .inl (.inl m)
            · exact .inl (.inr (.inl m))
            · rcases List.mem_append.mp m with m | m
              · exact .inl (.inr (.inr m))
              · rw [List.mem_singleton.mp m]; exact .inr rfl
        · rw [List.append_assoc]
          show acc ++ (kvs :: rest2) = xs
          rw [show kvs :: rest2 = rest from er3]; exact ea
        · rw [List.length_append, List.length_singleton, ln]
    · rintro H' ⟨as, acc, rest, hD, s, nd, nas, pr, er, ea, ln⟩
      rw [List.drop_length] at er
      have e0 : rest = [] := by cases er; rfl
      rw [e0, List.append_nil] at ea
      subst ea
      have tk : ∀ c ∈ as, ∃ o, H' c = some o ∧ ∀ xs, o ≠ .tup xs := by
        intro c hc
        have go : ∀ {as : List Addr} {acc : List (List (List Key × D))} {G : Hp}, Paired (DcT Y G H') as acc → c ∈ as → ∃ o, H' c = some o ∧ ∀ xs, o ≠ .tup xs := by
          intro as acc G p
          induction p with
          | nil => intro m; cases m
          | cons q t ih =>
            intro m
            rcases List.mem_cons.mp m with rfl | m
            · obtain ⟨us, e, _⟩ := q; exact ⟨_, e, fun _ z => nomatch z⟩
            · exact ih m
        exact go pr hc
      refine h2 _ _ H' (E1.putG s oki nD (fun c m => (nas c m).2) nd (fun m => (nas Da m).1 rfl) tk ⟨Da, as.map V.ref, rfl, rfl, hD, by rw [List.length_map, ln]; exact okl, ?_⟩)
      refine ods_of nd (fun _ m => m) (pr.mono fun c kv ⟨us, e, au⟩ => ⟨us, e, au.same (hd_sub fun b m => ?_)⟩)
      exact ownD_hid hn m
theorem sx_setLcOD {i : Nat} {y : Str} {py : Pos} {elt tg iter : Expr} {scope : Scope} {own : List (Str × Nat)} {pos spos : Pos} {g : TG} {bs : List Nat} {l : EF (List D)} {b : BF} {f : EF Sl} (hc : X.calm = true) (hN : X.N.Nodup) (hy : X.N[i]? = some y) (hyl : X.env.scope.names.lookup y = some .local)
    (hsw : swapsWith (.ListComp elt [⟨tg, iter, [], 0⟩] scope pos) (some (.Name y py)) spos.line X.env = pure true) (hi : PI X tg iter (tI Y W l)) (ok : BlkOk X.N X.env.scope scope own)
    (hg : ∀ (s : Shared) (H : Hp) (C : Addr) (cl : List (Str × Addr)) (fp : List Addr), PG (X.blk s H scope (compEnvC scope cl C X.env) fp) tg g) (tg_ : TgR Y g bs b) (sub : ∀ i ∈ bs, i ∈ own.map (·.2))
    (he : ∀ (s : Shared) (H : Hp) (C : Addr) (cl : List (Str × Addr)) (fp : List Addr), PE (X.blk s H scope (compEnvC scope cl C X.env) fp) elt (tO Y W0 f)) (hs : ∀ x, foldedSetIterable iter X.env x = pure x := by intro _; rfl) :
    PS X (.Assign [.Name y py] (.ListComp elt [⟨tg, iter, [], 0⟩] scope pos) spos) (tS Y W (odF i (own.map (·.2)) l b f)) :=
  PS.imp (ps_setLc hc hN hy hyl hsw hi ok hg (fun _ _ _ _ _ => ptx_nil) he hs) fun Dn σ H h => lcod_rd tg_ sub h
end
/-! ### one of the dicts is changed -/
section
variable {Y : Yx} {fo : Addr → Prop} {at_ : Nat → Option Addr} {B : Hp} {σ : L2.St} {H : Hp} {ρ : List Sl} {gs : Addr → Prop} {G : Hp}
theorem ODs.get : ∀ {vs : List V} {es : List (List (List Key × D))} {j : Nat} {k : List (List Key × D)}, ODs Y gs G H vs es → es[j]? = some k → ∃ l ws, vs[j]? = some (.ref l) ∧ gs l ∧ H l = some (.dT ws) ∧ AtT Y G ws k
  | _, [], j, k, r, h => by simp at h
  | _, k0 :: es, 0, k, ⟨l, q, xs, rfl, g, hl, al, nd, t⟩, h => by
    simp at h; subst h
    exact ⟨l, xs, rfl, g, hl, al⟩
  | _, k0 :: es, j + 1, k, ⟨l, q, xs, rfl, g, hl, al, nd, t⟩, h => by
    obtain ⟨l', ws, r⟩ := ODs.get t (j := j) (by simpa using h)
    exact ⟨l', ws, by simpa using r.1, r.2⟩
theorem ODs.len : ∀ {vs : List V} {es : List (List (List Key × D))}, ODs Y gs G H vs es → vs.length = es.length
  | _, [], r => by cases (show _ = [] from r); rfl
  | _, k0 :: es, ⟨l, q, xs, rfl, g, hl, al, nd, t⟩ => by rw [List.length_cons, List.length_cons, ODs.len t]
theorem ODs.upd {l : Addr} {ws : List (List Key × V)} {k' : List (List Key × D)} (al' : AtT Y G ws k') : ∀ {vs : List V} {es : List (List (List Key × D))} {j : Nat}, ODs Y gs G H vs es → vs[j]? = some (.ref l) → ODs Y gs G (upd H l (.dT ws)) vs (es.set j k')
  | _, [], j, r, h => by cases (show _ = [] from r); simp at h
  | _, k0 :: es, 0, ⟨l0, q, xs, rfl, g, hl, al, nd, t⟩, h => by
    simp at h; subst h
    have keep : ∀ {vs : List V} {es : List (List (List Key × D))}, V.ref l0 ∉ vs → ODs Y gs G H vs es → ODs Y gs G (L2.upd H l0 (.dT ws)) vs es := by
      intro vs es
      induction es generalizing vs with
      | nil => intro _ r; exact r
      | cons p es ih =>
        intro n ⟨l, q, xs, e1, g, hl, al, nd, t⟩
        subst e1
        exact ⟨l, q, xs, rfl, g, (upd_ne fun z => n (by rw [z]; exact List.mem_cons_self ..)).trans hl, al, nd, ih (fun m => n (List.mem_cons_of_mem _ m)) t⟩
    exact ⟨l0, q, ws, rfl, g, upd_same, al', nd, keep nd t⟩
  | _, k0 :: es, j + 1, ⟨l0, q, xs, rfl, g, hl, al, nd, t⟩, h => by
    have h' : q[j]? = some (.ref l) := by simpa using h
    have n0 : l0 ≠ l := fun z => nd (by rw [z]; exact List.mem_of_getElem? h')
    exact ⟨l0, q, xs, rfl, g, (upd_ne n0).trans hl, al, nd, ODs.upd al' t h'⟩
theorem EnvO.ownO (E : EnvO Y fo at_ B σ H ρ) {i : Nat} {es : List (List (List Key × D))} (e : ρ[i]? = some (.oD es)) :
    ∃ a vs, at_ i = some a ∧ σ[i]? = some (some (.ref a)) ∧ H a = some (.lst vs) ∧ vs.length ≤ cap ∧ ODs Y (gsl at_ ρ.length i) (hd (hid fo at_) H) H vs es := by
  obtain ⟨q, vs, e1, e2, e3, e4, al⟩ := E.sl i _ e
  exact ⟨q, vs, e1, join_some e2, e3, e4, al⟩
/-- a dict within the list is changed -/
theorem EnvO.mutO (E : EnvO Y fo at_ B σ H ρ) {i j : Nat} {es : List (List (List Key × D))} {a l : Addr} {vs : List V} {ws : List (List Key × V)} {k' : List (List Key × D)} (e : ρ[i]? = some (.oD es)) (ha : at_ i = some a) (hs : σ[i]? = some (some (.ref a))) (hH : H a = some (.lst vs)) (hz : vs.length ≤ cap)
    (od : ODs Y (gsl at_ ρ.length i) (hd (hid fo at_) H) H vs es) (hj : vs[j]? = some (.ref l)) (hg : gsl at_ ρ.length i l) (al : AtT Y (hd (hid fo at_) H) ws k') :
    EnvO Y fo at_ B σ (upd H l (.dT ws)) (ρ.set i (.oD (es.set j k'))) := by
  have hi : i < ρ.length := (List.getElem?_eq_some_iff.mp e).1
  obtain ⟨m0, hg⟩ := hg
  have h0 := mul_pos_le m0 ρ.length
  have hh : hid fo at_ l := .inr ⟨_, hg⟩
  have nla : a ≠ l := fun q => by
    have := E.dj _ i a (by rw [q]; exact hg) ha
    omega
  refine ⟨fun b u q => ?_, ⟨fun b q => ?_, fun b xs q => ?_⟩, E.dj, E.df, E.nw, by rw [List.length_set]; exact E.len, fun j2 b h hge => ?_, fun j2 x ex => ?_⟩
  · rw [upd_ne (fun z => by rw [z, E.nw _ l hg] at q; cases q)]; exact E.same b u q
  · rw [upd_ne (fun z => E.df _ l hg (by rw [← z]; exact q))]; exact E.fin b q
  · rw [upd_ne (fun z => E.df _ l hg (by rw [← z]; exact q))]; exact E.fin.nt b xs q
  · rw [List.length_set] at hge
    by_cases q : b = l
    · rw [q, upd_same]; exact ⟨_, rfl, fun _ z => nomatch z⟩
    · rw [upd_ne q]; exact E.gt j2 b h hge
  · rw [hd_upd hh, List.length_set]
    by_cases hj2 : j2 = i
    · subst hj2
      rw [List.getElem?_set_self hi] at ex
      cases ex
      rw [ha, hs]
      exact ⟨a, vs, rfl, rfl, (upd_ne nla).trans hH, hz, ODs.upd al od hj⟩
    · rw [List.getElem?_set_ne (Ne.symm hj2)] at ex
      have h2 : j2 < ρ.length := (List.getElem?_eq_some_iff.mp ex).1
      refine (E.sl j2 x ex).mono (Same.refl _) (fun b u hb z => ?_) (fun _ z => z) fun b u ⟨m, hb⟩ z => ?_
      · rw [upd_ne (fun q => ?_)]; exact z
        have := E.dj j2 _ l (by rw [← q]; exact hb) hg
        omega
      · rw [upd_ne (fun q => ?_)]; exact z
        exact slot_ne hi h2 hj2 (E.dj _ _ l (by rw [← q]; exact hb) hg)
end
theorem atI_nat {α : Type} {xs : List α} {j : Nat} (h : j < xs.length) : atI xs (j : Int) = xs[j]? := by
  unfold atI ixN
  rw [if_pos (Int.natCast_nonneg j), if_pos (by omega)]
  rfl
def odClF (i j : Nat) : SF := fun ρ => match ρ[i]? with
  | some (.oD xs) => if j < xs.length then some (.nx (ρ.set i (.oD (xs.set j [])))) else none
  | _ => none
def odPutF (i j : Nat) (fk fv : EF D) : SF := fun ρ => lf (fv ρ) ρ fun v => match ρ[i]? with
  | some (.oD xs) => (match xs[j]? with
    | some kvs => lf (fk ρ) ρ fun k => (match k with
      | .tup ks => (match tkey ks with
        | some q => if kvs.length < cap then some (.nx (ρ.set i (.oD (xs.set j (pk kvs q v))))) else none
        | none => none)
      | _ => none)
    | none => none)
  | _ => none
section
variable {X : Cx} {Y : Yx} {W : WX} {o : Expr} {fk fv : EF D} {pos pos' ppos ipos apos cpos : Pos} {i j ij : Nat} {z : Int}
theorem sx_odcl (ho : PE X o (tVar i)) (hz : z = (j : Int)) (hsl : PlainIx (.Constant (.int z) ij ipos)) (hbase : attributeBase (.Subscript o (.Constant (.int z) ij ipos) ppos) "clear" X.env (eval (.Subscript o (.Constant (.int z) ij ipos) ppos) X.env) = eval (.Subscript o (.Constant (.int z) ij ipos) ppos) X.env := by rfl) (hline : (apos.endLine == cpos.line) = true := by rfl)
    (hw : swapsWith (.Call (.Attribute (.Subscript o (.Constant (.int z) ij ipos) ppos) "clear" apos) [] [] cpos) none pos.line X.env = pure false := by rfl) :
    PS X (.Expr (.Call (.Attribute (.Subscript o (.Constant (.int z) ij ipos) ppos) "clear" apos) [] [] cpos) pos) (tS Y W (odClF i j)) :=
  PS.imp (ps_expr (pe_bm0 PySem.F.plainAttrs_dict PySem.F.slot_dict_clear PySem.F.type_dict_clear mtd_clearT (pe_ix ix_list ho pe_int hsl) hbase hline) hw) fun Dn σ H ⟨fo, at_, B, ρ, E, h⟩ => by
    unfold odClF at h
    cases es : ρ[i]? with
    | none => rw [es] at h; exact h.elim
    | some s =>
      rw [es] at h
      cases s with
      | oD xs =>
        dsimp only at h
        by_cases hj : j < xs.length
        · rw [if_pos hj] at h
          obtain ⟨a, vs, ha, hsv, hH, hzc, od⟩ := E.ownO es
          obtain ⟨l, ws, hl, hg, hw, al⟩ := od.get (List.getElem?_eq_getElem hj)
          have hat : atI vs z = some (.ref l) := by rw [hz, atI_nat (by rw [od.len]; exact hj)]; exact hl
          exact ⟨.ref a, hsv, a, vs, z, .ref l, rfl, rfl, SqL.of hH, hat, .inr (.inr (.inl ⟨rfl, .inr ⟨ws, hw⟩⟩)), l, ws, rfl, rfl, hw, h at_ σ _ (E.mutO es ha hsv hH hzc od hl hg rfl)⟩
        · rw [if_neg hj] at h; exact h.elim
      | _ => exact h.elim
theorem sx_odput {k value : Expr} (hu : X.A.units + 65 < cLine) (ho : PE X o (tVar i)) (hz : z = (j : Int)) (hsl : PlainIx (.Constant (.int z) ij ipos)) (he : PE X k (tE Y W fk)) (hv : PE X value (tE Y W fv))
    (hs : swapsWith value (some (.Subscript (.Subscript o (.Constant (.int z) ij ipos) ppos) k pos')) pos.line X.env = pure false := by rfl) :
    PS X (.Assign [.Subscript (.Subscript o (.Constant (.int z) ij ipos) ppos) k pos'] value pos) (tS Y W (odPutF i j fk fv)) := PS.imp (ps_dput (by omega) (pe_ix ix_list ho pe_int hsl) he hv hs) fun Dn σ H ⟨fo, at_, B, ρ, E, h⟩ => by
  refine ⟨fo, at_, B, ρ, E, (lf_post E h).mono fun d H1 s1 ⟨E1, h1⟩ v av => ?_⟩
  cases es : ρ[i]? with
  | none => rw [es] at h1; exact h1.elim
  | some s =>
    rw [es] at h1
    cases s with
    | oD xs =>
      dsimp only at h1
      cases ej : xs[j]? with
      | none => rw [ej] at h1; exact h1.elim
      | some kvs =>
        rw [ej] at h1
        dsimp only at h1
        have hj : j < xs.length := (List.getElem?_eq_some_iff.mp ej).1
        obtain ⟨a, vs, ha, hsv, hH, hzc, od⟩ := E1.ownO es
        obtain ⟨l, ws, hl, hg, hw, al⟩ := od.get ej
        have hat : atI vs z = some (.ref l) := by rw [hz, atI_nat (by rw [od.len]; exact hj)]; exact hl
        refine ⟨.ref a, hsv, a, vs, z, .ref l, rfl, rfl, SqL.of hH, hat, fo, at_, B, ρ, E1, (lf_post E1 h1).mono fun kd H2 s2 ⟨E2, h2⟩ y ay => ?_⟩
        cases kd with
        | tup ks =>
          dsimp only at h2
          cases ek : tkey ks with
          | none => rw [ek] at h2; exact h2.elim
          | some q =>
            rw [ek] at h2
            dsimp only at h2
            by_cases hc : kvs.length < cap
            · rw [if_pos hc] at h2
              obtain ⟨b, us, rfl, g, _, al2⟩ := ay
              have g2 : H2 b = some (.tup (q.map kV)) := by rw [← tkey_v ek al2]; exact hd_le _ _ g
              have od2 : ODs Y (gsl at_ ρ.length i) (hd (hid fo at_) H2) H2 vs xs := od.mono (RLe.of_same (hd_same s2)) (fun _ z => z) fun _ _ _ z => s2 _ _ z
              exact ⟨l, _, rfl, DPut.t (s2 _ _ hw) g2 (by rw [← cap_eq, al.length]; exact hc), h2 at_ σ _ (E2.mutO es ha hsv (s2 _ _ hH) hzc od2 hl hg ((al.same (hd_same s2)).put q (av.same (hd_same s2))))⟩
            · rw [if_neg hc] at h2; exact h2.elim
        | _ => exact h2.elim
    | _ => exact h1.elim
end
end PL

namespace PL
open PySem PySem.Spec L2
/-! ### sets of rooms as bits -/
theorem band_nat (a b : Nat) : Builtin.bitAnd (a : Int) (b : Int) = ((a &&& b : Nat) : Int) := by
  unfold Builtin.bitAnd
  have h1 : decide (0 ≤ (a : Int)) = true := decide_eq_true (Int.natCast_nonneg a)
  have h2 : decide (0 ≤ (b : Int)) = true := decide_eq_true (Int.natCast_nonneg b)
  rw [h1, h2]
  simp
theorem bor_nat (a b : Nat) : Builtin.bitOr (a : Int) (b : Int) = ((a ||| b : Nat) : Int) := by
  unfold Builtin.bitOr Builtin.bitAnd Builtin.bitNot
  have h1 : decide (0 ≤ -(a : Int) - 1) = false := decide_eq_false (by omega)
  have h2 : decide (0 ≤ -(b : Int) - 1) = false := decide_eq_false (by omega)
  rw [h1, h2]
  dsimp only
  have e1 : (-(-(a : Int) - 1) - 1).toNat = a := by omega
  have e2 : (-(-(b : Int) - 1) - 1).toNat = b := by omega
  rw [e1, e2]
  omega
theorem bxor_top {b l : Nat} (h : b.testBit l = true) : Builtin.bitXor (b : Int) ((2 ^ l : Nat) : Int) = ((b - 2 ^ l : Nat) : Int) := by
  unfold Builtin.bitXor
  rw [bor_nat, band_nat]
  have e1 : b ||| 2 ^ l = b := by
    refine Nat.eq_of_testBit_eq fun i => ?_
    rw [Nat.testBit_or, Nat.testBit_two_pow]
    by_cases hi : l = i
    · subst hi; simp [h]
    · simp [hi]
  have e2 : b &&& 2 ^ l = 2 ^ l := by
    refine Nat.eq_of_testBit_eq fun i => ?_
    rw [Nat.testBit_and, Nat.testBit_two_pow]
    by_cases hi : l = i
    · subst hi; simp [h]
    · simp [hi]
  have hge : 2 ^ l ≤ b := Nat.ge_two_pow_of_testBit h
  rw [e1, e2]
  omega
/-- the image of a set of rooms -/
def imB (rs : List Int) (b : Nat) : Nat := (List.range rs.length).foldl (fun acc q => if b.testBit q then acc ||| 2 ^ (rs.getD q 0).toNat else acc) 0
theorem fold_bit (rs : List Int) (b : Nat) (r : Nat) : ∀ (l : List Nat) (acc : Nat), (l.foldl (fun acc q => if b.testBit q then acc ||| 2 ^ (rs.getD q 0).toNat else acc) acc).testBit r = true ↔ acc.testBit r = true ∨ ∃ q ∈ l, b.testBit q = true ∧ (rs.getD q 0).toNat = r
  | [], acc => by simp
  | q :: l, acc => by
    rw [List.foldl_cons, fold_bit rs b r l]
    by_cases hq : b.testBit q = true
    · rw [if_pos hq, Nat.testBit_or, Bool.or_eq_true, Nat.testBit_two_pow, decide_eq_true_iff]
      simp only [List.mem_cons, exists_eq_or_imp, hq, true_and]
      exact or_assoc
    · rw [if_neg hq]
      simp only [List.mem_cons, exists_eq_or_imp, hq, false_and, false_or]
      simp
theorem imB_bit {rs : List Int} {b r : Nat} : (imB rs b).testBit r = true ↔ ∃ q, q < rs.length ∧ b.testBit q = true ∧ (rs.getD q 0).toNat = r := by
  unfold imB
  rw [fold_bit]
  simp
theorem bit_eq {a b : Nat} (h : ∀ r, a.testBit r = true ↔ b.testBit r = true) : a = b :=
  Nat.eq_of_testBit_eq fun i => by rw [Bool.eq_iff_iff]; exact h i
theorem top_bit {b : Nat} (h : b ≠ 0) : b.testBit b.log2 = true ∧ 2 ^ b.log2 ≤ b ∧ b < 2 ^ (b.log2 + 1) := by
  have h1 : 2 ^ b.log2 ≤ b := Nat.log2_self_le h
  have h2 : b < 2 ^ (b.log2 + 1) := Nat.lt_log2_self
  refine ⟨?_, h1, h2⟩
  have e : b = 2 ^ b.log2 + (b - 2 ^ b.log2) := by omega
  have h3 : b - 2 ^ b.log2 < 2 ^ b.log2 := by rw [Nat.pow_succ] at h2; omega
  have : (2 ^ b.log2 + (b - 2 ^ b.log2)).testBit b.log2 = true := by
    rw [Nat.testBit_two_pow_add_eq, Nat.testBit_lt_two_pow h3]; rfl
  rw [← e] at this; exact this
theorem sub_bit {b l i : Nat} (h : b.testBit l = true) (h2 : b < 2 ^ (l + 1)) : (b - 2 ^ l).testBit i = true ↔ b.testBit i = true ∧ i ≠ l := by
  have h1 : 2 ^ l ≤ b := Nat.ge_two_pow_of_testBit h
  have e : b = 2 ^ l + (b - 2 ^ l) := by omega
  have h3 : b - 2 ^ l < 2 ^ l := by rw [Nat.pow_succ] at h2; omega
  rcases Nat.lt_trichotomy i l with hi | hi | hi
  · have : b.testBit i = (b - 2 ^ l).testBit i := by
      have := Nat.testBit_two_pow_add_gt hi (b - 2 ^ l)
      rw [← e] at this; exact this
    rw [this]
    exact ⟨fun h => ⟨h, by omega⟩, fun h => h.1⟩
  · subst hi
    rw [Nat.testBit_lt_two_pow h3]
    simp
  · have h4 : (b - 2 ^ l).testBit i = false := Nat.testBit_lt_two_pow (Nat.lt_of_lt_of_le h3 (Nat.pow_le_pow_right (by decide) (by omega)))
    have h5 : b.testBit i = false := Nat.testBit_lt_two_pow (Nat.lt_of_lt_of_le h2 (Nat.pow_le_pow_right (by decide) (by omega)))
    rw [h4, h5]; simp
theorem imB_step {rs : List Int} {b : Nat} (h0 : b ≠ 0) (hl : b.log2 < rs.length) : imB rs b = imB rs (b - 2 ^ b.log2) ||| 2 ^ (rs.getD b.log2 0).toNat := by
  obtain ⟨h1, h2, h3⟩ := top_bit h0
  refine bit_eq fun r => ?_
  rw [Nat.testBit_or, Bool.or_eq_true, imB_bit, imB_bit, Nat.testBit_two_pow, decide_eq_true_iff]
  constructor
  · rintro ⟨q, hq, hb, e⟩
    by_cases hql : q = b.log2
    · subst hql; exact .inr e
    · exact .inl ⟨q, hq, (sub_bit h1 h3).mpr ⟨hb, hql⟩, e⟩
  · rintro (⟨q, hq, hb, e⟩ | e)
    · exact ⟨q, hq, ((sub_bit h1 h3).mp hb).1, e⟩
    · exact ⟨b.log2, hl, h1, e⟩
theorem imB_zero {rs : List Int} : imB rs 0 = 0 := bit_eq fun r => by rw [imB_bit]; simp
theorem imB_lt {rs : List Int} {b n : Nat} (h : ∀ r ∈ rs, r.toNat < n) : imB rs b < 2 ^ n := by
  refine Nat.lt_pow_two_of_testBit _ fun i hi => ?_
  cases e : (imB rs b).testBit i with
  | false => rfl
  | true =>
    obtain ⟨q, hq, _, e2⟩ := imB_bit.mp e
    have : rs.getD q 0 ∈ rs := by
      rw [List.getD_eq_getElem?_getD, List.getElem?_eq_getElem hq]
      exact List.getElem_mem _
    have := h _ this
    omega
theorem log2_lt_of {b n : Nat} (h0 : b ≠ 0) (h : b < 2 ^ n) : b.log2 < n := (Nat.log2_lt h0).mpr h
end PL

/-! M_k04: mirrors. -/
namespace PL
open PySem PySem.Spec L2
noncomputable def B_images_by_0 : SF := (seqF (stF 3 (bin (un (varE 2) bitsD) (cE (.int 1)) subD))
  (lmF 1 (consL (bin (ixoE 1 (bin (varE 2) (bin (cE (.int 1)) (varE 3) shlD) xorD)) (bin (cE (.int 1)) (bin (varE 0) (varE 3) idxD) shlD) orD) nilL) appO))
noncomputable def F_images_by : SF := (seqF (soF 1 (lstO (consL (cE (.int 0)) nilL)))
  (seqF (forF (rgE (consL (cE (.int 1)) (consL (bin (cE (.int 1)) (ca (consL (varE 0) nilL) lenD) shlD) nilL)) rng2D) (bN 2) B_images_by_0)
  (rtvF 1)))
noncomputable def M_images_by : Mi := bodyM 4 F_images_by
noncomputable def F_rooms_of : SF := (rtoF (lcF [1] (rgE (consL (un (varE 0) bitsD) nilL) rng1D) (bN 1) (tru (bin (bin (bin (varE 0) (varE 1) shrD) (cE (.int 1)) andD) (cE (.int 1)) eqD)) (varE 1)))
noncomputable def M_rooms_of : Mi := bodyM 2 F_rooms_of
noncomputable def F_is_among : SF := (rtF (blE (andT (tru (un (varE 0) (isT "int"))) (andT (tru (blE (notT (tru (un (varE 0) (isT "bool")))))) (tru (chain (varE 1) (varE 0) (varE 2) leD leD))))))
noncomputable def M_is_among : Mi := bodyM 3 F_is_among
noncomputable def F_is_letter : SF := (rtF (blE (andT (tru (un (varE 0) (isT "str"))) (andT (tru (bin (ca (consL (varE 0) nilL) lenD) (cE (.int 1)) eqD)) (tru (bin (varE 0) (cE (.str "abcdefghijklmnopqrstuvwxyz")) inV))))))
noncomputable def M_is_letter : Mi := bodyM 1 F_is_letter
noncomputable def F_House_size : SF := (rtF (fldE "many" (varE 0)))
noncomputable def M_House_size : Mi := bodyM 1 F_House_size
noncomputable def F_House_table : SF := (rtF (ca (consL (fzE (lcF [1] (keysE (fldE "moves" (varE 0))) (bN 1) yesT (tupE (consL (varE 1) (consL (bin (fldE "moves" (varE 0)) (varE 1) idxD) nilL))))) nilL) tupleD))
noncomputable def M_House_table : Mi := bodyM 2 F_House_table
noncomputable def F__law_mixed : SF := (seqF (stF 2 (bin (bin (bin (bin (bin (bin (varE 0) (cE (.int 1000000007)) modD) (bin (bin (cE (.int 7919)) (varE 1) mulD2) (varE 1) mulD2) addD) (bin (cE (.int 31)) (varE 1) mulD2) addD) (cE (.int 17)) addD) (cE (.int 48271)) mulD2) (cE (.int 2147483647)) modD))
  (rtF (bin (bin (bin (varE 2) (bin (bin (varE 2) (cE (.int 65521)) modD) (cE (.int 16807)) addD) mulD2) (cE (.int 2147483629)) modD) (cE (.int 4)) fdivD)))
noncomputable def M__law_mixed : Mi := bodyM 3 F__law_mixed
noncomputable def B__law_sets_0 : SF := (stF 1 (bin (varE 1) (fzE (lcF [3] (srcE (varE 1)) (bN 3) yesT (bin (varE 3) (tupE (consL (varE 2) nilL)) addD))) addD))
noncomputable def F__law_sets : SF := (seqF (stF 1 (fzE (lstO (consL (tupE nilL) nilL))))
  (seqF (forF (rgE (consL (varE 0) nilL) rng1D) (bN 2) B__law_sets_0)
  (rtoF (slE (varE 1) (pS (cE (.int 1))) pN))))
noncomputable def M__law_sets : Mi := bodyM 4 F__law_sets
noncomputable def F_set_images : SF := (rtoF (lcF [1, 2] (srcE (fzE (mcO M_House_table (obE "table" (varE 0) nilL)))) (bT (bsCons (bN 1) (bsCons (bN 2) bsNil))) yesT (fzE (mcO M_images_by (consL (varE 2) nilL)))))
noncomputable def M_set_images : Mi := bodyM 3 F_set_images
noncomputable def F_need_button : SF := (seqF (ifF (orT (notT (tru (un (varE 1) (isT "tuple")))) (orT (tru (bin (ca (consL (varE 1) nilL) lenD) (cE (.int 2)) neD)) (orT (notT (tru (fzE (mcO M_is_letter (consL (bin (varE 1) (cE (.int 0)) idxD) nilL))))) (tru (bin (bin (varE 1) (cE (.int 0)) idxD) (varE 2) inV)))))
  (raF 1)
  nxF)
  (seqF (stF 3 (bin (varE 1) (cE (.int 1)) idxD))
  (ifF (orT (notT (tru (un (varE 3) (isT "list")))) (orT (tru (bin (ca (consL (varE 3) nilL) lenD) (varE 0) neD)) (notT (tru (ca (consL (fzE (lcF [4] (srcE (varE 3)) (bN 4) yesT (fzE (mcO M_is_among (consL (varE 4) (consL (cE (.int 0)) (consL (bin (varE 0) (cE (.int 1)) subD) nilL))))))) nilL) allD)))))
  (raF 1)
  nxF)))
noncomputable def M_need_button : Mi := bodyM 5 F_need_button
noncomputable def F__law_number : SF := (seqF (stF 2 (cE (.int 0)))
  (seqF (ifF (tru (bin (ca (consL (varE 0) nilL) lenD) (cE (.int 0)) gtD))
  (stF 2 (bin (varE 0) (bin (varE 1) (ca (consL (varE 0) nilL) lenD) modD) idxD))
  nxF)
  (rtoF (mcO M__law_mixed (consL (varE 2) (consL (varE 1) nilL))))))
noncomputable def M__law_number : Mi := bodyM 3 F__law_number
noncomputable def B__law_right_0 : SF := (seqF (stF 9 (ca (consL (fzE (sortedSetO (fzE (lcF [11] (srcE (varE 5)) (bN 11) yesT (bin (varE 8) (varE 11) idxD))))) nilL) tupleD))
  (ifF (tru (bin (varE 9) (varE 0) inV))
  (lmF 6 (consL (bin (varE 0) (varE 9) idxD) nilL) appO)
  nxF))
noncomputable def B__law_right_1 : SF := (seqF (soF 6 (lstO nilL))
  (seqF (forF (srcE (varE 1)) (bT (bsCons (bN 7) (bsCons (bN 8) bsNil))) B__law_right_0)
  (seqF (ifF (tru (bin (varE 5) (varE 0) ninV))
  (seqF (ifF (orT (viewT (tru (bin (varE 6) (fzE (lstO nilL)) neD))) (tru (bin (ca (consL (varE 5) nilL) lenD) (cE (.int 1)) eqD)))
  (rtF (cE (.bl false)))
  nxF)
  ctF)
  nxF)
  (seqF (stF 10 (ifE (tru (bin (ca (consL (varE 5) nilL) lenD) (cE (.int 1)) eqD)) (cE (.int 0)) (bin (cE (.int 1)) (viewE (ca (consL (bin (varE 6) (fzE (lstO (consL (bin (cE (.int 10)) (cE (.int 9)) powD) nilL))) addD) nilL) min1D)) addD)))
  (ifF (orT (tru (un (bin (varE 0) (varE 5) idxD) (isT "bool"))) (orT (notT (tru (un (bin (varE 0) (varE 5) idxD) (isT "int")))) (tru (bin (bin (varE 0) (varE 5) idxD) (varE 10) neD))))
  (rtF (cE (.bl false)))
  nxF)))))
noncomputable def F__law_right : SF := (seqF (stF 2 (ca (consL (bin (bin (varE 1) (cE (.int 0)) idxD) (cE (.int 1)) idxD) nilL) lenD))
  (seqF (stF 3 (fzE (mcO M__law_sets (consL (varE 2) nilL))))
  (seqF (stF 4 (fzE (cao (consL (fzE (lcF [5] (srcE (varE 3)) (bN 5) yesT (tupE (consL (varE 5) (consL (cE (.bl true)) nilL))))) nilL) dictTO)))
  (seqF (ifF (orT (notT (tru (un (varE 0) (isTD "dict")))) (tru (bin (fzE (lcF [5] (keysTE (varE 0)) (bN 5) (tru (bin (varE 5) (varE 4) ninV)) (varE 5))) (fzE (lstO nilL)) neD)))
  (rtF (cE (.bl false)))
  nxF)
  (seqF (forF (srcE (varE 3)) (bN 5) B__law_right_1)
  (rtF (cE (.bl true))))))))
noncomputable def M__law_right : Mi := bodyM 12 F__law_right
noncomputable def B_set_levels_0 : SF := (askF 1 (bin (varE 2) (varE 3) idxD) (varE 3))
noncomputable def B_set_levels_1 : SF := (forF (rgE (consL (cE (.int 1)) (consL (ca (consL (varE 2) nilL) lenD) nilL)) rng2D) (bN 3) B_set_levels_0)
noncomputable def B_set_levels_2 : SF := (ifF (viewT (tru (bin (varE 3) (varE 5) ninV)))
  (seqF (dpF 5 (varE 3) (viewE (bin (bin (varE 5) (bin (varE 4) (varE 6) idxD) idxD) (cE (.int 1)) addD)))
  (lmF 4 (consL (varE 3) nilL) appO))
  nxF)
noncomputable def B_set_levels_3 : SF := (seqF (forF (srcE (get3 (varE 1) (ixoE 4 (varE 6)) (fzE (lstO nilL)))) (bN 3) B_set_levels_2)
  (auF 6 (cE (.int 1))))
noncomputable def F_set_levels : SF := (seqF (soF 1 (cO (.oA [])))
  (seqF (forF (srcE (fzE (mcO M_set_images (consL (varE 0) nilL)))) (bN 2) B_set_levels_1)
  (seqF (soF 4 (lcF [7] (rgE (consL (fzE (mcO M_House_size (obE "size" (varE 0) nilL))) nilL) rng1D) (bN 7) yesT (bin (cE (.int 1)) (varE 7) shlD)))
  (seqF (soF 5 (cao (consL (fzE (viewO (lcF [3] (srcE (varE 4)) (bN 3) yesT (tupE (consL (varE 3) (consL (cE (.int 0)) nilL)))))) nilL) dictO))
  (seqF (stF 6 (cE (.int 0)))
  (seqF (fzF 1 (whF (viewT (tru (bin (varE 6) (ca (consL (varE 4) nilL) lenD) ltD)))
  B_set_levels_3))
  (rtvF 5)))))))
noncomputable def M_set_levels : Mi := bodyM 8 F_set_levels
noncomputable def B_need_house_0 : SF := (seqF (exF (viewE (fzE (mcO M_need_button (consL (varE 0) (consL (varE 3) (consL (varE 2) nilL)))))))
  (lmF 2 (consL (bin (varE 3) (cE (.int 0)) idxD) nilL) appO))
noncomputable def F_need_house : SF := (seqF (ifF (notT (tru (fzE (mcO M_is_among (consL (varE 0) (consL (cE (.int 1)) (consL (cE (.int 10)) nilL)))))))
  (raF 1)
  nxF)
  (seqF (ifF (orT (notT (tru (un (varE 1) (isT "list")))) (notT (tru (chain (cE (.int 1)) (ca (consL (varE 1) nilL) lenD) (cE (.int 5)) leD leD))))
  (raF 1)
  nxF)
  (seqF (soF 2 (lstO nilL))
  (forF (srcE (varE 1)) (bN 3) B_need_house_0))))
noncomputable def M_need_house : Mi := bodyM 4 F_need_house
noncomputable def B__law_table_0 : SF := (seqF (stF 7 (fzE (mcO M__law_number (consL (varE 0) (consL (bin (bin (varE 1) (cE (.int 60)) addD) (varE 6) addD) nilL)))))
  (seqF (soF 8 (lcF [11] (rgE (consL (varE 2) nilL) rng1D) (bN 11) yesT (bin (bin (fzE (mcO M__law_number (consL (varE 0) (consL (bin (bin (varE 1) (bin (cE (.int 12)) (varE 6) mulD2) addD) (varE 11) addD) nilL)))) (cE (.int 5)) fdivD) (varE 2) modD)))
  (seqF (ifF (tru (bin (bin (varE 7) (cE (.int 6)) modD) (cE (.int 0)) eqD))
  (soF 8 (lcF [11] (rgE (consL (varE 2) nilL) rng1D) (bN 11) yesT (bin (bin (bin (varE 11) (cE (.int 1)) addD) (bin (bin (varE 7) (cE (.int 6)) fdivD) (varE 2) modD) addD) (varE 2) modD)))
  nxF)
  (seqF (ifF (orT (tru (bin (bin (varE 7) (cE (.int 6)) modD) (cE (.int 1)) eqD)) (tru (bin (bin (varE 7) (cE (.int 6)) modD) (cE (.int 2)) eqD)))
  (seqF (prF 9 10 (consL (bin (bin (varE 7) (cE (.int 6)) fdivD) (varE 2) modD) (consL (bin (bin (varE 7) (cE (.int 64)) fdivD) (varE 2) modD) nilL)))
  (seqF (soF 8 (rgOkD rng1D (consL (varE 2) nilL)))
  (seqF (seF 8 (varE 9) (varE 10))
  (ifF (tru (bin (bin (varE 7) (cE (.int 6)) modD) (cE (.int 2)) eqD))
  (seF 8 (varE 10) (varE 9))
  nxF))))
  nxF)
  (seqF (ifF (tru (bin (bin (varE 7) (cE (.int 6)) modD) (cE (.int 3)) eqD))
  (fzF 8 (soF 8 (lcF [12] (srcE (varE 8)) (bN 12) yesT (bin (varE 12) (bin (cE (.int 1)) (bin (bin (varE 7) (cE (.int 6)) fdivD) (varE 2) modD) addD) modD))))
  nxF)
  (fzF 8 (lmF 5 (consL (tupE (consL (bin (cE (.str "abcdefghijklmnopqrstuvwxyz")) (bin (bin (varE 4) (bin (cE (.int 7)) (varE 6) mulD2) addD) (cE (.int 26)) modD) idxD) (consL (varE 8) nilL))) nilL) appO)))))))
noncomputable def F__law_table : SF := (seqF (stF 4 (fzE (mcO M__law_number (consL (varE 0) (consL (bin (varE 1) (cE (.int 70)) addD) nilL)))))
  (seqF (soF 5 (lstO nilL))
  (seqF (forF (rgE (consL (varE 3) nilL) rng1D) (bN 6) B__law_table_0)
  (rtvF 5))))
noncomputable def M__law_table : Mi := bodyM 13 F__law_table
noncomputable def F_depths : SF := (seqF (stF 1 (fzE (mcO M_set_levels (consL (varE 0) nilL))))
  (rtoF (cao (consL (fzE (lcF [2] (srcE (fzE (cao (consL (varE 1) nilL) sortedD))) (bN 2) yesT (tupE (consL (ca (consL (fzE (mcO M_rooms_of (consL (varE 2) nilL))) nilL) tupleD) (consL (bin (varE 1) (varE 2) idxD) nilL))))) nilL) dictTO)))
noncomputable def M_depths : Mi := bodyM 3 F_depths
noncomputable def F_House___init__ : SF := (seqF (exF (fzE (mcO M_need_house (consL (varE 1) (consL (varE 2) nilL)))))
  (seqF (afF 0 "many" (varE 1))
  (afF 0 "moves" (fzE (cao (consL (fzE (lcF [3, 4] (srcE (varE 2)) (bT (bsCons (bN 3) (bsCons (bN 4) bsNil))) yesT (tupE (consL (varE 3) (consL (ca (consL (varE 4) nilL) tupleD) nilL))))) nilL) dictO)))))
noncomputable def M_House___init__ : MiI := bodyI 5 F_House___init__
noncomputable def F__law_drawn : SF := (seqF (stF 3 (fzE (mcO M__law_number (consL (varE 0) (consL (bin (varE 1) (cE (.int 71)) addD) nilL)))))
  (seqF (stF 4 (bin (fzE (lstO (consL (bin (cE (.int 1)) (bin (bin (varE 3) (cE (.int 8)) fdivD) (varE 2) modD) addD) (consL (bin (cE (.int 1)) (bin (bin (varE 3) (cE (.int 8)) fdivD) (varE 2) modD) addD) (consL (bin (cE (.int 2)) (bin (bin (varE 3) (cE (.int 8)) fdivD) (ca (consL (cE (.int 1)) (consL (bin (varE 2) (cE (.int 1)) subD) nilL)) maxD) modD) addD) (consL (varE 2) nilL)))))) (bin (varE 3) (cE (.int 4)) modD) idxD))
  (rtoF (mcO M__law_table (consL (varE 0) (consL (varE 1) (consL (ca (consL (varE 4) (consL (varE 2) nilL)) minD) (consL (bin (cE (.int 1)) (bin (bin (varE 3) (cE (.int 100)) fdivD) (cE (.int 5)) modD) addD) nilL))))))))
noncomputable def M__law_drawn : Mi := bodyM 5 F__law_drawn
noncomputable def F__law_made : SF := (rtF (mkE M_House___init__ (consL (ca (consL (bin (bin (varE 0) (cE (.int 0)) idxD) (cE (.int 1)) idxD) nilL) lenD) (consL (fzE (lcF [1, 2] (srcE (varE 0)) (bT (bsCons (bN 1) (bsCons (bN 2) bsNil))) yesT (tupE (consL (varE 1) (consL (fzE (cao (consL (varE 2) nilL) listO)) nilL))))) nilL))))
noncomputable def M__law_made : Mi := bodyM 3 F__law_made
noncomputable def F_law : SF := (seqF (stF 1 (bin (fzE (lstO (consL (cE (.int 8)) (consL (cE (.int 10)) nilL)))) (ca (consL (bin (bin (fzE (mcO M__law_number (consL (varE 0) (consL (cE (.int 95)) nilL)))) (cE (.int 16)) modD) (cE (.int 1)) eqD) nilL) int1D) idxD))
  (seqF (stF 2 (fzE (lstO (consL (fzE (mcO M__law_drawn (consL (varE 0) (consL (cE (.int 0)) (consL (varE 1) nilL))))) (consL (fzE (mcO M__law_drawn (consL (varE 0) (consL (cE (.int 100)) (consL (cE (.int 5)) nilL))))) nilL)))))
  (seqF (stF 3 (fzE (lcF [6] (srcE (varE 2)) (bN 6) yesT (fzE (mcO M__law_made (consL (varE 6) nilL))))))
  (seqF (odF 4 [7] (srcE (varE 3)) (bN 7) (mcO M_depths (consL (varE 7) nilL)))
  (seqF (svTF 5 (cao (consL (bin (varE 4) (cE (.int 0)) idxD) nilL) copyTO))
  (seqF (ifF (orT (viewT (notT (tru (fzE (mcO M__law_right (consL (bin (varE 4) (cE (.int 0)) idxD) (consL (bin (varE 2) (cE (.int 0)) idxD) nilL))))))) (viewT (notT (tru (fzE (mcO M__law_right (consL (bin (varE 4) (cE (.int 1)) idxD) (consL (bin (varE 2) (cE (.int 1)) idxD) nilL))))))))
  (rtF (cE (.bl false)))
  nxF)
  (seqF (odClF 4 0)
  (seqF (odPutF 4 1 (tupE (consL (cE (.int 99)) nilL)) (cE (.int 0)))
  (rtF (blE (andT (tru (viewE (bin (fzE (mcO M_depths (consL (bin (varE 3) (cE (.int 0)) idxD) nilL))) (varE 5) eqT))) (tru (fzE (mcO M__law_right (consL (fzE (mcO M_depths (consL (bin (varE 3) (cE (.int 1)) idxD) nilL))) (consL (bin (varE 2) (cE (.int 1)) idxD) nilL))))))))))))))))
noncomputable def M_law : Mi := bodyM 8 F_law
end PL

namespace PL
open PySem PySem.Spec L2
@[simp] theorem rt_ol {xs : List D} : retable (.ol xs) = true := rfl
@[simp] theorem rt_oK {xs : List (Key × D)} : retable (.oK xs) = true := rfl
@[simp] theorem rt_oT {xs : List (List Key × D)} : retable (.oT xs) = true := rfl
@[simp] theorem rt_dat {d : D} : retable (.dat d) = true := rfl

/-! ### numbers -/
def mixed (c k : Int) : Int := let n := (c % 1000000007 + 7919 * k * k + 31 * k + 17) * 48271 % 2147483647; n * (n % 65521 + 16807) % 2147483629 / 4
theorem mixed_lo (c k : Int) : 0 ≤ mixed c k := by unfold mixed; simp only; omega
theorem mixed_hi (c k : Int) : mixed c k < 536870912 := by unfold mixed; simp only; omega
theorem cmL {i j : Int} (h1 : -(2 ^ 64) < i) (h2 : i < 2 ^ 64) : CMul i j := .inl ⟨h1, h2⟩
theorem cmR {i j : Int} (h1 : -(2 ^ 64) < j) (h2 : j < 2 ^ 64) : CMul i j := .inr ⟨h1, h2⟩
theorem cdv {i j : Int} (h1 : 0 < j) (h2 : j < 1073741824) : CDiv i j := ⟨h1, h2⟩
theorem m_mixed (c k : Int) (h : 0 ≤ k) (h2 : k < 10000) : M__law_mixed [.int c, .int k] = .ok (.dat (.int (mixed c k))) := by
  have c1 : CMul 7919 k := cmL (by decide) (by decide)
  have c2 : CMul (7919 * k) k := cmR (by omega) (by omega)
  have c3 : CMul 31 k := cmL (by decide) (by decide)
  have c4 : ∀ z : Int, CMul z 48271 := fun z => cmR (by decide) (by decide)
  have c5 : ∀ z y : Int, CMul (z % 2147483647) y := fun z y => cmL (by omega) (by omega)
  have c6 : ∀ z, CDiv z 4 := fun z => cdv (by decide) (by decide)
  simp [M__law_mixed, F__law_mixed, bodyM, c1, c2, c3, c4, c5, c6, mixed]
theorem ixN_ok {n : Nat} {i : Int} (h : 0 ≤ i) (h2 : i < n) : ixN n i = some i.toNat := by unfold ixN; rw [if_pos h, if_pos h2]
theorem atI_ok {α : Type} {xs : List α} {i : Int} (h : 0 ≤ i) (h2 : i < xs.length) : atI xs i = some (xs[i.toNat]'(by omega)) := by
  unfold atI; rw [ixN_ok h h2, Option.bind_some, List.getElem?_eq_getElem]
def num (ns : List Int) (k : Int) : Int := mixed (if h : 0 < ns.length then ns[(k % ns.length).toNat]'(by have h1 := Int.emod_nonneg k (show (ns.length : Int) ≠ 0 by omega); have h2 := Int.emod_lt_of_pos k (show (0 : Int) < ns.length by omega); omega) else 0) k
theorem num_lo {ns : List Int} {k : Int} : 0 ≤ num ns k := mixed_lo _ _
theorem num_hi {ns : List Int} {k : Int} : num ns k < 536870912 := mixed_hi _ _
theorem m_number (ns : List Int) (k : Int) (h : 0 ≤ k) (h2 : k < 10000) : M__law_number [.scr ns, .int k] = .ok (.dat (.int (num ns k))) := by
  by_cases hn : 0 < ns.length
  · have h1 := Int.emod_nonneg k (show (ns.length : Int) ≠ 0 by omega)
    have h3 := Int.emod_lt_of_pos k (show (0 : Int) < ns.length by omega)
    have e : idxD (.scr ns) (.int (k % ns.length)) = some (.int (ns[(k % ns.length).toNat]'(by omega))) := by
      show (atI ns (k % ns.length)).map D.int = _
      rw [atI_ok h1 h3]; rfl
    simp [M__law_number, F__law_number, bodyM, hn, e, m_mixed _ _ h h2, num]
  · simp [M__law_number, F__law_number, bodyM, hn, m_mixed _ _ h h2, num]
/-! ### comprehensions, loops -/
theorem lcGo_map {step : D → R (Option D)} {h : D → D} : ∀ {ds : List D}, (∀ d ∈ ds, step d = .ok (some (h d))) → lcGo step ds = .ok (ds.map h)
  | [], _ => rfl
  | d :: ds, hs => by
    unfold lcGo
    rw [hs d (List.mem_cons_self ..), rb_ok, lcGo_map fun e m => hs e (List.mem_cons_of_mem _ m)]
    rfl
theorem lcF_map {vs : List Nat} {l : EF (List D)} {b : BF} {tt : EF Bool} {f : EF D} {ρ : List Sl} {ds : List D} (h : D → D) (hl : l ρ = .ok ds) (ok : okW ρ vs = true) (z : ds.length ≤ cap) (hs : ∀ d ∈ ds, lcSt vs b tt f ρ d = .ok (some (h d))) :
    lcF vs l b tt f ρ = .ok (.ol (ds.map h)) := by
  unfold lcF
  rw [hl, rb_ok, if_pos ⟨ok, z⟩, lcGo_map hs]; rfl
theorem lcGo_fm {step : D → R (Option D)} {h : D → Option D} : ∀ {ds : List D}, (∀ d ∈ ds, step d = .ok (h d)) → lcGo step ds = .ok (ds.filterMap h)
  | [], _ => rfl
  | d :: ds, hs => by
    unfold lcGo
    rw [hs d (List.mem_cons_self ..), rb_ok, lcGo_fm fun e m => hs e (List.mem_cons_of_mem _ m), rb_ok, List.filterMap_cons]
    cases h d <;> rfl
theorem lcF_fm {vs : List Nat} {l : EF (List D)} {b : BF} {tt : EF Bool} {f : EF D} {ρ : List Sl} {ds : List D} (h : D → Option D) (hl : l ρ = .ok ds) (ok : okW ρ vs = true) (z : ds.length ≤ cap) (hs : ∀ d ∈ ds, lcSt vs b tt f ρ d = .ok (h d)) :
    lcF vs l b tt f ρ = .ok (.ol (ds.filterMap h)) := by
  unfold lcF
  rw [hl, rb_ok, if_pos ⟨ok, z⟩, lcGo_fm hs]; rfl
theorem seq_nx {F G : SF} {ρ ρ1 : List Sl} (h : F ρ = some (.nx ρ1)) : seqF F G ρ = G ρ1 := by unfold seqF; rw [h]
theorem for_nx {l : EF (List D)} {b : BF} {F : SF} {ρ : List Sl} {ds : List D} (h : l ρ = .ok ds) : forF l b F ρ = forGo b F ds ρ := by unfold forF; rw [h, lf_ok]
/-- a loop whose body always goes on -/
theorem forGo_run {b : BF} {F : SF} (P : List D → List Sl → Prop) {ds : List D} (hs : ∀ pre d post ρ, ds = pre ++ d :: post → P pre ρ → ∃ ρ1 ρ2, b d ρ = some ρ1 ∧ F ρ1 = some (.nx ρ2) ∧ P (pre ++ [d]) ρ2) :
    ∀ (pre post : List D) (ρ : List Sl), ds = pre ++ post → P pre ρ → ∃ ρ', forGo b F post ρ = some (.nx ρ') ∧ P ds ρ'
  | pre, [], ρ, e, h => ⟨ρ, rfl, by rw [e, List.append_nil]; exact h⟩
  | pre, d :: post, ρ, e, h => by
    obtain ⟨ρ1, ρ2, h1, h2, h3⟩ := hs pre d post ρ e h
    obtain ⟨ρ', h4, h5⟩ := forGo_run P hs (pre ++ [d]) post ρ2 (by rw [e]; simp) h3
    refine ⟨ρ', ?_, h5⟩
    unfold forGo
    rw [h1]
    simp only [h2]
    exact h4
theorem forF_run {l : EF (List D)} {b : BF} {F : SF} {ρ : List Sl} {ds : List D} (P : List D → List Sl → Prop) (hl : l ρ = .ok ds) (h0 : P [] ρ) (hs : ∀ pre d post ρ, ds = pre ++ d :: post → P pre ρ → ∃ ρ1 ρ2, b d ρ = some ρ1 ∧ F ρ1 = some (.nx ρ2) ∧ P (pre ++ [d]) ρ2) :
    ∃ ρ', forF l b F ρ = some (.nx ρ') ∧ P ds ρ' := by
  rw [for_nx hl]
  exact forGo_run P hs [] ds ρ rfl h0

/-! ### tables -/
abbrev Tb := List (Nat × List Int)
def sgn (c : Nat) : Str := ⟨#[c]⟩
def iL (rs : List Int) : List D := rs.map .int
def rowD (p : Nat × List Int) : D := .tup [.str (sgn p.1), .lst (iL p.2)]
def tbL (tb : Tb) : List D := tb.map rowD
structure TOk (n : Int) (tb : Tb) : Prop where
  n1 : 1 ≤ n
  n2 : n ≤ 10
  l1 : 1 ≤ tb.length
  l2 : tb.length ≤ 5
  nd : (tb.map (·.1)).Nodup
  lt : ∀ p ∈ tb, 97 ≤ p.1 ∧ p.1 ≤ 122
  rm : ∀ p ∈ tb, (p.2.length : Int) = n ∧ ∀ r ∈ p.2, 0 ≤ r ∧ r < n
theorem abc_cps : ("abcdefghijklmnopqrstuvwxyz" : Str).cps.toList = (List.range 26).map (97 + ·) := by decide +kernel
theorem abc_len : ("abcdefghijklmnopqrstuvwxyz" : Str).length = 26 := by decide +kernel
theorem abc_at {i : Int} (h : 0 ≤ i) (h2 : i < 26) : idxD (.str ("abcdefghijklmnopqrstuvwxyz" : Str)) (.int i) = some (.str (sgn (97 + i.toNat))) := by
  unfold idxD
  dsimp only
  rw [if_pos (by rw [abc_len]; decide), abc_cps, atI_ok h (by simp; omega)]
  simp [sgn]
theorem rng_mem {i j : Int} {d : D} (h : d ∈ rngL i j) : ∃ k : Int, d = .int k ∧ i ≤ k ∧ k < j := by
  unfold rngL at h
  obtain ⟨k, hk, rfl⟩ := List.mem_map.mp h
  have := List.mem_range.mp hk
  exact ⟨i + k, rfl, by omega, by omega⟩
theorem rng_len {i j : Int} : (rngL i j).length = (j - i).toNat := by unfold rngL; simp
theorem rng_iL {i j : Int} : rngL i j = iL ((List.range (j - i).toNat).map fun k => i + (k : Nat)) := by unfold rngL iL; rw [List.map_map]; rfl
/-- as many rooms as there are, each one of them -/
def Rs (n : Int) (rs : List Int) : Prop := (rs.length : Int) = n ∧ ∀ r ∈ rs, 0 ≤ r ∧ r < n
theorem iL_len {rs : List Int} : (iL rs).length = rs.length := by unfold iL; simp
/-- mapped to whole numbers -/
theorem iL_map {ds : List D} {h : D → D} (g : D → Int) (hg : ∀ d ∈ ds, h d = .int (g d)) : ds.map h = iL (ds.map g) := by
  unfold iL
  rw [List.map_map]
  exact List.map_congr_left fun d m => hg d m
theorem iL_mem {rs : List Int} {d : D} (h : d ∈ iL rs) : ∃ r, d = .int r ∧ r ∈ rs := by
  obtain ⟨r, m, rfl⟩ := List.mem_map.mp h
  exact ⟨r, rfl, m⟩
def intOf : D → Int
  | .int i => i
  | _ => 0
section
variable {ns : List Int} {at_ n many first k : Int}
def ts (ns : List Int) (at_ n many first : Int) (tb : Tb) (a6 a7 a8 a9 a10 : Sl) : List Sl := [.dat (.scr ns), .dat (.int at_), .dat (.int n), .dat (.int many), .dat (.int first), .ol (tbL tb), a6, a7, a8, a9, a10, .no, .no]
theorem comp_range {f : EF D} {ρ : List Sl} {v : Nat} {l : EF (List D)} (g : Int → Int) (h1 : 1 ≤ n) (h2 : n ≤ 10) (hl : l ρ = .ok (rngL 0 n)) (ok : okW ρ [v] = true) (hv : v < ρ.length)
    (hf : ∀ j : Int, 0 ≤ j → j < n → f (ρ.set v (.dat (.int j))) = .ok (.int (g j))) (hg : ∀ j, 0 ≤ j → j < n → 0 ≤ g j ∧ g j < n) :
    ∃ rs, lcF [v] l (bN v) yesT f ρ = .ok (.ol (iL rs)) ∧ Rs n rs := by
  refine ⟨(rngL 0 n).map fun d => g (intOf d), ?_, ?_, fun r m => ?_⟩
  · rw [lcF_map (fun d => .int (g (intOf d))) hl ok (by rw [rng_len]; unfold cap; omega)]
    · rw [iL_map (fun d => g (intOf d)) fun d _ => rfl]
    · intro d m
      obtain ⟨j, rfl, h3, h4⟩ := rng_mem m
      have e := hf j h3 h4
      unfold lcSt
      simp only [wipeS, bN, List.length_set, hv, if_pos]
      simp [e, intOf]
  · rw [List.length_map, rng_len]; omega
  · obtain ⟨d, m2, rfl⟩ := List.mem_map.mp m
    obtain ⟨j, rfl, h3, h4⟩ := rng_mem m2
    exact hg j h3 h4
end

theorem rng1_ok {n : Int} (h : -1000000000 ≤ n) (h2 : n ≤ 1000000000) : rng1D [.int n] = some (rngL 0 n) := if_pos ⟨by omega, by omega⟩
theorem rng2_ok {i n : Int} (h : -1000000000 ≤ n) (h2 : n ≤ 1000000000) (h3 : -1000000000 ≤ i) (h4 : i ≤ 1000000000) : rng2D [.int i, .int n] = some (rngL i n) := if_pos ⟨⟨by omega, by omega⟩, ⟨by omega, by omega⟩⟩
theorem Rs.set {n : Int} {rs : List Int} (h : Rs n rs) {i : Nat} {v : Int} (h1 : 0 ≤ v) (h2 : v < n) : Rs n (rs.set i v) :=
  ⟨by rw [List.length_set]; exact h.1, fun r m => by
    rcases List.mem_or_eq_of_mem_set m with m | m
    · exact h.2 r m
    · rw [m]; exact ⟨h1, h2⟩⟩
theorem iL_set {rs : List Int} {i : Nat} {v : Int} : (iL rs).set i (.int v) = iL (rs.set i v) := by unfold iL; rw [List.map_set]
section
variable {ns : List Int} {at_ n many first : Int}
/-- one turn of the loop that draws a table -/
theorem table_turn {tb : Tb} {a6 a7 a8 a9 a10 : Sl} {k : Int} (n1 : 1 ≤ n) (n2 : n ≤ 10) (h1 : 0 ≤ at_) (h2 : at_ ≤ 1000) (h3 : 0 ≤ k) (h4 : k < 5) (hf : 0 ≤ first) (hl : tb.length < 5) :
    ∃ a6' a7' a8' a9' a10' rs, Rs n rs ∧ B__law_table_0 (ts ns at_ n many first tb (.dat (.int k)) a7 a8 a9 a10) = some (.nx (ts ns at_ n many first (tb ++ [(97 + ((first + 7 * k) % 26).toNat, rs)]) a6' a7' a8' a9' a10')) := by
  unfold B__law_table_0
  have p1 : ∀ j : Int, 0 ≤ j → j < n → M__law_number [.scr ns, .int (at_ + 12 * k + j)] = .ok (.dat (.int (num ns (at_ + 12 * k + j)))) := fun j a b => m_number ns _ (by omega) (by omega)
  have p0 : M__law_number [.scr ns, .int (at_ + 60 + k)] = .ok (.dat (.int (num ns (at_ + 60 + k)))) := m_number ns _ (by omega) (by omega)
  have c0 : ∀ z : Int, CMul 12 z := fun z => cmL (by decide) (by decide)
  have c7 : ∀ z : Int, CMul 7 z := fun z => cmL (by decide) (by decide)
  have np : 0 < n := by omega
  have rg := rng1_ok (n := n) (by omega) (by omega)
  have lo : 0 ≤ num ns (at_ + 60 + k) := num_lo
  generalize num ns (at_ + 60 + k) = cell at p0 lo
  have d6 : CDiv cell 6 := cdv (by decide) (by decide)
  have d64 : CDiv cell 64 := cdv (by decide) (by decide)
  have m6 : 0 ≤ cell / 6 % n ∧ cell / 6 % n < n := ⟨Int.emod_nonneg _ (by omega), Int.emod_lt_of_pos _ np⟩
  have m64 : 0 ≤ cell / 64 % n ∧ cell / 64 % n < n := ⟨Int.emod_nonneg _ (by omega), Int.emod_lt_of_pos _ np⟩
  -- the cell
  rw [seq_nx (ρ1 := ts ns at_ n many first tb (.dat (.int k)) (.dat (.int cell)) a8 a9 a10) (by simp [ts, p0])]
  -- any rooms
  obtain ⟨rs1, e1, r1⟩ := comp_range (n := n) (v := 11) (ρ := ts ns at_ n many first tb (.dat (.int k)) (.dat (.int cell)) a8 a9 a10) (l := rgE (consL (varE 2) nilL) rng1D) (f := (bin (bin (fzE (mcO M__law_number (consL (varE 0) (consL (bin (bin (varE 1) (bin (cE (.int 12)) (varE 6) mulD2) addD) (varE 11) addD) nilL)))) (cE (.int 5)) fdivD) (varE 2) modD)) (fun j => num ns (at_ + 12 * k + j) / 5 % n) n1 n2
    (by simp [ts, rg]) rfl (by simp [ts]) (fun j a b => by
      have q : CDiv (num ns (at_ + 12 * k + j)) 5 := cdv (by decide) (by decide)
      simp [ts, c0, p1 j a b, q, np]) fun j a b => ⟨Int.emod_nonneg _ (by omega), Int.emod_lt_of_pos _ (by omega)⟩
  rw [seq_nx (ρ1 := ts ns at_ n many first tb (.dat (.int k)) (.dat (.int cell)) (.ol (iL rs1)) a9 a10) (by simp only [soF, e1]; simp [ts])]
  -- turned about
  have st2 : ∀ (rs : List Int), Rs n rs → ∃ rs2, Rs n rs2 ∧ (ifF (tru (bin (bin (varE 7) (cE (D.int 6)) modD) (cE (D.int 0)) eqD)) (soF 8 (lcF [11] (rgE (consL (varE 2) nilL) rng1D) (bN 11) yesT
      (bin (bin (bin (varE 11) (cE (D.int 1)) addD) (bin (bin (varE 7) (cE (D.int 6)) fdivD) (varE 2) modD) addD) (varE 2) modD))) nxF) (ts ns at_ n many first tb (.dat (.int k)) (.dat (.int cell)) (.ol (iL rs)) a9 a10) =
      some (.nx (ts ns at_ n many first tb (.dat (.int k)) (.dat (.int cell)) (.ol (iL rs2)) a9 a10)) := fun rs r => by
    by_cases h : cell % 6 = 0
    · obtain ⟨rs2, e2, r2⟩ := comp_range (n := n) (v := 11) (ρ := ts ns at_ n many first tb (.dat (.int k)) (.dat (.int cell)) (.ol (iL rs)) a9 a10) (l := rgE (consL (varE 2) nilL) rng1D) (f := (bin (bin (bin (varE 11) (cE (D.int 1)) addD) (bin (bin (varE 7) (cE (D.int 6)) fdivD) (varE 2) modD) addD) (varE 2) modD)) (fun j => (j + 1 + cell / 6 % n) % n) n1 n2
        (by simp [ts, rg]) rfl (by simp [ts]) (fun j a b => by simp [ts, np, d6]) fun j a b => ⟨Int.emod_nonneg _ (by omega), Int.emod_lt_of_pos _ (by omega)⟩
      refine ⟨rs2, r2, ?_⟩
      simp only [ifF, soF, e2]
      simp [ts, h]
    · exact ⟨rs, r, by simp [ts, h]⟩
  obtain ⟨rs2, r2, e2⟩ := st2 rs1 r1
  rw [seq_nx e2]
  -- one left alone, exchanged
  have st3 : ∀ (rs : List Int), Rs n rs → ∃ rs3 a9' a10', Rs n rs3 ∧ (ifF (orT (tru (bin (bin (varE 7) (cE (D.int 6)) modD) (cE (D.int 1)) eqD)) (tru (bin (bin (varE 7) (cE (D.int 6)) modD) (cE (D.int 2)) eqD)))
      (seqF (prF 9 10 (consL (bin (bin (varE 7) (cE (D.int 6)) fdivD) (varE 2) modD) (consL (bin (bin (varE 7) (cE (D.int 64)) fdivD) (varE 2) modD) nilL)))
        (seqF (soF 8 (rgOkD rng1D (consL (varE 2) nilL))) (seqF (seF 8 (varE 9) (varE 10)) (ifF (tru (bin (bin (varE 7) (cE (D.int 6)) modD) (cE (D.int 2)) eqD)) (seF 8 (varE 10) (varE 9)) nxF)))) nxF)
      (ts ns at_ n many first tb (.dat (.int k)) (.dat (.int cell)) (.ol (iL rs)) a9 a10) = some (.nx (ts ns at_ n many first tb (.dat (.int k)) (.dat (.int cell)) (.ol (iL rs3)) a9' a10')) := fun rs r => by
    by_cases h : cell % 6 = 1 ∨ cell % 6 = 2
    · have hr : (rngL 0 n).length ≤ 65536 := by rw [rng_len]; omega
      have base : Rs n ((List.range (n - 0).toNat).map fun k => (0 : Int) + (k : Nat)) := ⟨by simp; omega, fun r m => by
        obtain ⟨q, hq, rfl⟩ := List.mem_map.mp m
        have := List.mem_range.mp hq
        omega⟩
      have ln : (n - 0).toNat = (rngL 0 n).length := rng_len.symm
      have i1 : ixN (rngL 0 n).length (cell / 6 % n) = some (cell / 6 % n).toNat := ixN_ok m6.1 (by rw [rng_len]; omega)
      have i2 : ixN (rngL 0 n).length (cell / 64 % n) = some (cell / 64 % n).toNat := ixN_ok m64.1 (by rw [rng_len]; omega)
      by_cases h2 : cell % 6 = 2
      · refine ⟨_, .dat (.int (cell / 6 % n)), .dat (.int (cell / 64 % n)), (base.set (i := (cell / 6 % n).toNat) m64.1 m64.2).set (i := (cell / 64 % n).toNat) m6.1 m6.2, ?_⟩
        rw [← iL_set, ← iL_set, ← rng_iL]
        simp [ts, h2, d6, d64, np, rgOkD, rg, hr, intD, i1, i2]
      · have h1 : cell % 6 = 1 := h.resolve_right h2
        refine ⟨_, .dat (.int (cell / 6 % n)), .dat (.int (cell / 64 % n)), base.set (i := (cell / 6 % n).toNat) m64.1 m64.2, ?_⟩
        rw [← iL_set, ← rng_iL]
        simp [ts, h1, d6, d64, np, rgOkD, rg, hr, intD, i1, i2]
    · exact ⟨rs, a9, a10, r, by
        have h1 : ¬ cell % 6 = 1 := fun z => h (.inl z)
        have h2 : ¬ cell % 6 = 2 := fun z => h (.inr z)
        simp [ts, h1, h2]⟩
  obtain ⟨rs3, b9, b10, r3, e3⟩ := st3 rs2 r2
  rw [seq_nx e3]
  -- few rooms
  have st4 : ∀ (rs : List Int), Rs n rs → ∃ rs4 s8, fz s8 = .lst (iL rs4) ∧ s8 ≠ .no ∧ Rs n rs4 ∧ (ifF (tru (bin (bin (varE 7) (cE (D.int 6)) modD) (cE (D.int 3)) eqD)) (fzF 8 (soF 8 (lcF [12] (srcE (varE 8)) (bN 12) yesT
      (bin (varE 12) (bin (cE (D.int 1)) (bin (bin (varE 7) (cE (D.int 6)) fdivD) (varE 2) modD) addD) modD)))) nxF)
      (ts ns at_ n many first tb (.dat (.int k)) (.dat (.int cell)) (.ol (iL rs)) b9 b10) = some (.nx (ts ns at_ n many first tb (.dat (.int k)) (.dat (.int cell)) s8 b9 b10)) := fun rs r => by
    by_cases h : cell % 6 = 3
    · have e : lcF [12] (srcE (varE 8)) (bN 12) yesT (bin (varE 12) (bin (cE (D.int 1)) (bin (bin (varE 7) (cE (D.int 6)) fdivD) (varE 2) modD) addD) modD) (ts ns at_ n many first tb (.dat (.int k)) (.dat (.int cell)) (.dat (.lst (iL rs))) b9 b10) =
          .ok (.ol ((iL rs).map fun d => .int (intOf d % (1 + cell / 6 % n)))) := by
        refine lcF_map _ (by simp [ts, srcD]) rfl (by rw [iL_len]; have := r.1; unfold cap; omega) fun d m => ?_
        obtain ⟨q, rfl, m⟩ := iL_mem m
        simp [lcSt, ts, bN, wipeS, np, d6, intOf, show 0 < 1 + cell / 6 % n by omega]
      refine ⟨rs.map fun q => q % (1 + cell / 6 % n), .ol (iL (rs.map fun q => q % (1 + cell / 6 % n))), rfl, (fun z => nomatch z), ⟨by rw [List.length_map]; exact r.1, fun q m => ?_⟩, ?_⟩
      · obtain ⟨z, mz, rfl⟩ := List.mem_map.mp m
        have := r.2 z mz
        have p1 := Int.emod_nonneg z (show 1 + cell / 6 % n ≠ 0 by omega)
        have p2 := Int.emod_lt_of_pos z (show 0 < 1 + cell / 6 % n by omega)
        omega
      · have e5 : PL.frz 8 (ts ns at_ n many first tb (.dat (.int k)) (.dat (.int cell)) (.ol (iL rs)) b9 b10) = ts ns at_ n many first tb (.dat (.int k)) (.dat (.int cell)) (.dat (.lst (iL rs))) b9 b10 := rfl
        simp only [ifF, fzF, soF, e5, e]
        simp [ts, h, iL, intOf, Function.comp_def]
    · exact ⟨rs, .ol (iL rs), rfl, (fun z => nomatch z), r, by simp [ts, h]⟩
  obtain ⟨rs4, s8, f8, n8, r4, e4⟩ := st4 rs3 r3
  rw [seq_nx e4]
  -- the button
  have e5 : PL.frz 8 (ts ns at_ n many first tb (.dat (.int k)) (.dat (.int cell)) s8 b9 b10) = ts ns at_ n many first tb (.dat (.int k)) (.dat (.int cell)) (.dat (.lst (iL rs4))) b9 b10 := by
    show (match some s8 with
      | some .no => _
      | some s => _
      | none => _) = _
    cases s8 with
    | no => exact absurd rfl n8
    | _ => simp only [f8]; rfl
  have ab := abc_at (i := (first + 7 * k) % 26) (Int.emod_nonneg _ (by decide)) (Int.emod_lt_of_pos _ (by decide))
  refine ⟨.dat (.int k), .dat (.int cell), .dat (.lst (iL rs4)), b9, b10, rs4, r4, ?_⟩
  simp only [fzF, e5]
  have lt : tb.length < cap := by unfold cap; omega
  have c2 : (2 : Nat) ≤ cap := by unfold cap; omega
  simp [ts, c7, ab, appO, lt, c2, tbL, rowD]
/-- a table is drawn -/
theorem m_tableL (n1 : 1 ≤ n) (n2 : n ≤ 10) (h1 : 0 ≤ at_) (h2 : at_ ≤ 1000) (h3 : 1 ≤ many) (h4 : many ≤ 5) : ∃ tb, M__law_table [.scr ns, .int at_, .int n, .int many] = .ok (.ol (tbL tb)) ∧ TOk n tb ∧ tb.length = many.toNat := by
  have p0 : M__law_number [.scr ns, .int (at_ + 70)] = .ok (.dat (.int (num ns (at_ + 70)))) := m_number ns _ (by omega) (by omega)
  have lo : 0 ≤ num ns (at_ + 70) := num_lo
  have rg := rng1_ok (n := many) (by omega) (by omega)
  obtain ⟨ρ', e, tb, a6, a7, a8, a9, a10, rfl, hl, hc, hr⟩ := forF_run (l := rgE (consL (varE 3) nilL) rng1D) (b := bN 6) (F := B__law_table_0) (ρ := ts ns at_ n many (num ns (at_ + 70)) [] .no .no .no .no .no) (ds := rngL 0 many)
    (fun pre ρ => ∃ tb a6 a7 a8 a9 a10, ρ = ts ns at_ n many (num ns (at_ + 70)) tb a6 a7 a8 a9 a10 ∧ tb.length = pre.length ∧ (tb.map (·.1)) = (List.range tb.length).map (fun k : Nat => 97 + ((num ns (at_ + 70) + 7 * (k : Int)) % 26).toNat) ∧ ∀ p ∈ tb, Rs n p.2)
    (by simp [ts, rg]) ⟨[], _, _, _, _, _, rfl, rfl, rfl, fun p m => (nomatch m)⟩ (by
      rintro pre d post ρ e ⟨tb, a6, a7, a8, a9, a10, rfl, hl, hc, hr⟩
      have ln : pre.length < many := by
        have := congrArg List.length e
        rw [rng_len, List.length_append, List.length_cons] at this
        omega
      have ed : d = .int pre.length := by
        have h5 : (rngL 0 many)[pre.length]? = some d := by rw [e]; simp
        unfold rngL at h5
        rw [List.getElem?_map, List.getElem?_range (by omega)] at h5
        cases h5
        simp
      subst ed
      obtain ⟨b6, b7, b8, b9, b10, rs, hrs, eb⟩ := table_turn (ns := ns) (many := many) (tb := tb) (a6 := a6) (a7 := a7) (a8 := a8) (a9 := a9) (a10 := a10) (k := pre.length) n1 n2 h1 h2 (by omega) (by omega) lo (by omega)
      refine ⟨_, _, rfl, eb, _, b6, b7, b8, b9, b10, rfl, by simp [hl], ?_, fun p m => ?_⟩
      · rw [List.map_append, hc, List.length_append, List.length_singleton, List.range_succ, List.map_append, hl]; rfl
      · rcases List.mem_append.mp m with m | m
        · exact hr p m
        · rw [List.mem_singleton.mp m]; exact hrs)
  have hl2 : tb.length = many.toNat := by rw [hl, rng_len]; omega
  refine ⟨tb, ?_, ⟨n1, n2, by omega, by omega, ?_, fun p m => ?_, fun p m => hr p m⟩, hl2⟩
  · unfold M__law_table bodyM F__law_table
    rw [seq_nx (ρ1 := [.dat (.scr ns), .dat (.int at_), .dat (.int n), .dat (.int many), .dat (.int (num ns (at_ + 70))), .no, .no, .no, .no, .no, .no, .no, .no]) (by simp [p0])]
    rw [seq_nx (ρ1 := ts ns at_ n many (num ns (at_ + 70)) [] .no .no .no .no .no) (by simp [ts, tbL]), seq_nx e]
    simp [rtvF, ts]
  · rw [hc]
    generalize num ns (at_ + 70) = f at lo
    have : tb.length ≤ 5 := by omega
    refine List.Pairwise.map _ (fun a b h => ?_) (List.pairwise_lt_range.imp_of_mem fun {a b} ha hb h => (⟨h, List.mem_range.mp hb⟩ : a < b ∧ b < tb.length))
    obtain ⟨h5, h6⟩ := h
    omega
  · have : p.1 ∈ tb.map (·.1) := List.mem_map_of_mem m
    rw [hc] at this
    obtain ⟨k, _, ek⟩ := List.mem_map.mp this
    have p1 := Int.emod_nonneg (num ns (at_ + 70) + 7 * (k : Int)) (show (26 : Int) ≠ 0 by decide)
    have p2 := Int.emod_lt_of_pos (num ns (at_ + 70) + 7 * (k : Int)) (show (0 : Int) < 26 by decide)
    omega
theorem m_table (n1 : 1 ≤ n) (n2 : n ≤ 10) (h1 : 0 ≤ at_) (h2 : at_ ≤ 1000) (h3 : 1 ≤ many) (h4 : many ≤ 5) : ∃ tb, M__law_table [.scr ns, .int at_, .int n, .int many] = .ok (.ol (tbL tb)) ∧ TOk n tb :=
  let ⟨tb, a, b, _⟩ := m_tableL (ns := ns) n1 n2 h1 h2 h3 h4
  ⟨tb, a, b⟩
/-- a drawn house's table -/
theorem m_drawn {most : Int} (n1 : 1 ≤ most) (n2 : most ≤ 10) (h1 : 0 ≤ at_) (h2 : at_ ≤ 1000) : ∃ n tb, n ≤ most ∧ M__law_drawn [.scr ns, .int at_, .int most] = .ok (.ol (tbL tb)) ∧ TOk n tb := by
  have p0 : M__law_number [.scr ns, .int (at_ + 71)] = .ok (.dat (.int (num ns (at_ + 71)))) := m_number ns _ (by omega) (by omega)
  have lo : 0 ≤ num ns (at_ + 71) := num_lo
  generalize num ns (at_ + 71) = c at p0 lo
  have d8 : CDiv c 8 := cdv (by decide) (by decide)
  have d100 : CDiv c 100 := cdv (by decide) (by decide)
  have np : 0 < most := by omega
  have e1 : 0 ≤ c / 8 % most := Int.emod_nonneg _ (by omega)
  obtain ⟨z, ez, z0⟩ : ∃ z : Int, maxD [.int 1, .int (most - 1)] = some (.int z) ∧ 0 < z := by
    unfold maxD
    by_cases h : most - 1 > 1
    · exact ⟨most - 1, congrArg (fun z => some (D.int z)) (if_pos h), by omega⟩
    · exact ⟨1, congrArg (fun z => some (D.int z)) (if_neg h), by omega⟩
  have e2 : 0 ≤ c / 8 % z := Int.emod_nonneg _ (by omega)
  obtain ⟨v, v1, ev⟩ : ∃ v : Int, 1 ≤ v ∧ idxD (.lst [.int (1 + c / 8 % most), .int (1 + c / 8 % most), .int (2 + c / 8 % z), .int most]) (.int (c % 4)) = some (.int v) := by
    have h4 : c % 4 = 0 ∨ c % 4 = 1 ∨ c % 4 = 2 ∨ c % 4 = 3 := by omega
    rcases h4 with h | h | h | h
    · exact ⟨1 + c / 8 % most, by omega, by rw [h]; rfl⟩
    · exact ⟨1 + c / 8 % most, by omega, by rw [h]; rfl⟩
    · exact ⟨2 + c / 8 % z, by omega, by rw [h]; rfl⟩
    · exact ⟨most, by omega, by rw [h]; rfl⟩
  obtain ⟨n, en, n3, n4⟩ : ∃ n : Int, minD [.int v, .int most] = some (.int n) ∧ 1 ≤ n ∧ n ≤ most := by
    unfold minD
    by_cases h : most < v
    · exact ⟨most, congrArg (fun z => some (D.int z)) (if_pos h), by omega, by omega⟩
    · exact ⟨v, congrArg (fun z => some (D.int z)) (if_neg h), by omega, by omega⟩
  obtain ⟨tb, et, ok⟩ := m_table (ns := ns) (at_ := at_) (n := n) (many := 1 + c / 100 % 5) n3 (by omega) h1 h2 (by omega) (by omega)
  refine ⟨n, tb, n4, ?_, ok⟩
  have c4 : (4 : Nat) ≤ cap := by unfold cap; omega
  simp [M__law_drawn, F__law_drawn, bodyM, p0, d8, d100, np, ez, z0, c4, ev, en, et]
end

/-! ### houses -/
theorem sgn_inj {a b : Nat} (h : sgn a = sgn b) : a = b := by unfold sgn at h; simpa using h
theorem sgn_len {c : Nat} : (sgn c).length = 1 := rfl
theorem sgn_cps {c : Nat} : (sgn c).cps.toList = [c] := rfl
theorem one_cap : (1 : Nat) ≤ cap := by unfold cap; omega
theorem two_cap : (2 : Nat) ≤ cap := by unfold cap; omega
theorem m_among (i a b : Int) : M_is_among [.int i, .int a, .int b] = .ok (.dat (.bl (decide (a ≤ i ∧ i ≤ b)))) := by
  simp [M_is_among, F_is_among, bodyM]
  by_cases h : a ≤ i <;> by_cases h2 : i ≤ b <;> simp [h, h2]
theorem in_abc {c : Nat} (h : 97 ≤ c) (h2 : c ≤ 122) : inV (.str (sgn c)) (.str ("abcdefghijklmnopqrstuvwxyz" : Str)) = some (.bl true) := by
  have : c ∈ ("abcdefghijklmnopqrstuvwxyz" : Str).cps.toList := by
    rw [abc_cps]
    exact List.mem_map.mpr ⟨c - 97, List.mem_range.mpr (by omega), by omega⟩
  unfold inV inD
  simp [sgn_cps, this]
theorem m_letter {c : Nat} (h : 97 ≤ c) (h2 : c ≤ 122) : M_is_letter [.str (sgn c)] = .ok (.dat (.bl true)) := by
  simp [M_is_letter, F_is_letter, bodyM, sgn_len, one_cap, in_abc h h2]
/-- all of whole numbers -/
theorem bools_map {ds : List D} (h : D → Bool) : boolsD (ds.map fun d => .bl (h d)) = some (ds.map h) := by
  induction ds with
  | nil => rfl
  | cons d ds ih => simp only [List.map_cons]; unfold boolsD; rw [ih]; rfl
theorem allD_map {ds : List D} (h : D → Bool) : allD [.lst (ds.map fun d => .bl (h d))] = some (.bl (ds.all h)) := by
  show (boolsD _).map _ = _
  rw [bools_map]
  simp [List.all_map]
theorem deq_int {a b : Int} : deq (.int a) (.int b) = (a == b) := rfl
theorem deq_str {a b : Str} : deq (.str a) (.str b) = (a == b) := rfl
/-- a text among texts -/
def lD (l : List Nat) : List D := l.map fun c => .str (sgn c)
theorem in_strs {c : Nat} {l : List Nat} : inV (.str (sgn c)) (.lst (lD l)) = some (.bl (decide (c ∈ l))) := by
  unfold lD inV inD
  dsimp only
  have h1 : (scF (.str (sgn c)) && (l.map fun c => D.str (sgn c)).all fun y => scP y (.str (sgn c))) = true := by
    simp [scF, List.all_map, scP]
  rw [h1, Bool.true_or, if_pos rfl]
  simp only [Option.map_some, List.any_map, Function.comp_def, deq_str]
  congr 2
  rw [Bool.eq_iff_iff]
  simp only [List.any_eq_true, beq_iff_eq, decide_eq_true_eq]
  exact ⟨fun ⟨x, hx, e⟩ => by rw [← sgn_inj e]; exact hx, fun h => ⟨c, h, rfl⟩⟩
def inR (n : Int) (d : D) : Bool := decide (0 ≤ intOf d ∧ intOf d ≤ n - 1)
theorem all_among {n : Int} {rs : List Int} (hr : ∀ r ∈ rs, 0 ≤ r ∧ r < n) : allD [.lst ((iL rs).map fun d => .bl (inR n d))] = some (.bl true) := by
  rw [allD_map]
  refine congrArg (fun b => some (D.bl b)) (List.all_eq_true.mpr fun d m => ?_)
  obtain ⟨r, rfl, m2⟩ := iL_mem m
  have := hr r m2
  exact decide_eq_true (by show 0 ≤ r ∧ r ≤ n - 1; omega)
theorem m_inR (n r : Int) : M_is_among [.int r, .int 0, .int (n - 1)] = .ok (.dat (.bl (inR n (.int r)))) := m_among r 0 (n - 1)
section
variable {n : Int} {tb : Tb}
theorem m_button {c : Nat} {rs : List Int} {l : List Nat} (hc : 97 ≤ c) (hc2 : c ≤ 122) (hr : Rs n rs) (h10 : n ≤ 10) (hl : c ∉ l) : M_need_button [.int n, rowD (c, rs), .lst (lD l)] = .ok (.dat .non) := by
  have ix0 : idxD (.tup [.str (sgn c), .lst (iL rs)]) (.int 0) = some (.str (sgn c)) := rfl
  have ix1 : idxD (.tup [.str (sgn c), .lst (iL rs)]) (.int 1) = some (.lst (iL rs)) := rfl
  have e : lcF [4] (srcE (varE 3)) (bN 4) yesT (fzE (mcO M_is_among (consL (varE 4) (consL (cE (.int 0)) (consL (bin (varE 0) (cE (.int 1)) subD) nilL))))) [.dat (.int n), .dat (rowD (c, rs)), .dat (.lst (lD l)), .dat (.lst (iL rs)), .no] =
      .ok (.ol ((iL rs).map fun d => .bl (inR n d))) := by
    refine lcF_map _ (by simp [srcD]) rfl (by rw [iL_len]; have := hr.1; unfold cap; omega) fun d m => ?_
    obtain ⟨q, rfl, m⟩ := iL_mem m
    simp [lcSt, bN, wipeS, m_inR]
  have hlen : ((iL rs).length : Int) = n := by rw [iL_len]; exact hr.1
  simp only [rowD] at e
  simp [M_need_button, F_need_button, bodyM, rowD, ix0, ix1, m_letter hc hc2, in_strs, hl, e, all_among hr.2, hlen]
def lets (tb : Tb) : List Nat := tb.map (·.1)
theorem forGo_need (h10 : n ≤ 10) (B : D) : ∀ (post pre : Tb) (x3 : Sl), ((pre ++ post).map (·.1)).Nodup → (pre ++ post).length ≤ 5 → (∀ p ∈ post, 97 ≤ p.1 ∧ p.1 ≤ 122 ∧ Rs n p.2) →
    ∃ ρ', forGo (bN 3) B_need_house_0 (tbL post) [.dat (.int n), .dat B, .ol (lD (lets pre)), x3] = some (.nx ρ')
  | [], pre, x3, _, _, _ => ⟨_, rfl⟩
  | p :: post, pre, x3, nd, hl, ok => by
    obtain ⟨h1, h2, hr⟩ := ok p (List.mem_cons_self ..)
    have hn : p.1 ∉ lets pre := fun m => by
      rw [List.map_append, List.nodup_append] at nd
      exact nd.2.2 p.1 m p.1 (by simp) rfl
    have hb := m_button (l := lets pre) h1 h2 hr h10 hn
    have ix0 : idxD (rowD p) (.int 0) = some (.str (sgn p.1)) := rfl
    have hlen : (lD (lets pre)).length < cap := by
      unfold lD lets cap
      rw [List.length_append] at hl
      simp; omega
    have hs : lD (lets pre) ++ [.str (sgn p.1)] = lD (lets (pre ++ [p])) := by unfold lD lets; simp
    have e : B_need_house_0 [.dat (.int n), .dat B, .ol (lD (lets pre)), .dat (rowD p)] = some (.nx [.dat (.int n), .dat B, .ol (lD (lets (pre ++ [p]))), .dat (rowD p)]) := by
      have hb2 : M_need_button [.int n, rowD p, .lst (lD (lets pre))] = .ok (.dat .non) := hb
      simp [B_need_house_0, PL.view, hb2, ix0, appO, hlen, hs]
    show ∃ ρ', forGo (bN 3) B_need_house_0 (rowD p :: tbL post) _ = _
    unfold forGo
    rw [show bN 3 (rowD p) [.dat (.int n), .dat B, .ol (lD (lets pre)), x3] = some [.dat (.int n), .dat B, .ol (lD (lets pre)), .dat (rowD p)] from rfl]
    simp only [e]
    exact forGo_need h10 B post (pre ++ [p]) _ (by simpa using nd) (by simpa using hl) fun q m => ok q (List.mem_cons_of_mem _ m)
theorem m_need_house (ok : TOk n tb) : M_need_house [.int n, .lst (tbL tb)] = .ok (.dat .non) := by
  obtain ⟨n1, n2, l1, l2, nd, lt, rm⟩ := ok
  obtain ⟨ρ', e⟩ := forGo_need n2 (.lst (tbL tb)) tb [] .no (by simpa using nd) (by simpa using l2) fun p m => ⟨(lt p m).1, (lt p m).2, rm p m⟩
  have e2 : forF (srcE (varE 1)) (bN 3) B_need_house_0 [.dat (.int n), .dat (.lst (tbL tb)), .ol [], .no] = some (.nx ρ') := by
    rw [for_nx (ds := tbL tb) (by simp [srcD])]
    exact e
  have hl : (tbL tb).length = tb.length := by unfold tbL; simp
  simp [M_need_house, F_need_house, bodyM, m_among, n1, n2, hl, l2, show 0 < tb.length by omega, show (1 : Int) ≤ tb.length by omega, show (tb.length : Int) ≤ 5 by omega, e2]
end

end PL

namespace PL
open PySem PySem.Spec L2
/-! ### the made house -/
def mvK (tb : Tb) : List (Key × D) := tb.map fun p => (.inr (sgn p.1), .tup (iL p.2))
def hsD (n : Int) (tb : Tb) : D := .ob [("many", .int n), ("moves", .dK (mvK tb))]
theorem pairsD_map : ∀ (tb : Tb), pairsD (tb.map fun p => .tup [.str (sgn p.1), .tup (iL p.2)]) = some (mvK tb)
  | [] => rfl
  | p :: tb => by
    rw [List.map_cons]
    unfold pairsD
    rw [pairsD_map tb]; rfl
theorem pk_new {κ α : Type} [DecidableEq κ] {kvs : List (κ × α)} {k : κ} {v : α} (h : k ∉ kvs.map (·.1)) : pk kvs k v = kvs ++ [(k, v)] := by
  unfold pk
  rw [if_neg]
  intro z
  obtain ⟨p, m, e⟩ := List.any_eq_true.mp z
  exact h (List.mem_map.mpr ⟨p, m, of_decide_eq_true e⟩)
theorem fold_new {κ α : Type} [DecidableEq κ] : ∀ {kvs acc : List (κ × α)}, ((acc ++ kvs).map (·.1)).Nodup → kvs.foldl (fun acc kv => pk acc kv.1 kv.2) acc = acc ++ kvs
  | [], acc, _ => by simp
  | p :: kvs, acc, nd => by
    have h : p.1 ∉ acc.map (·.1) := fun m => by
      rw [List.map_append, List.nodup_append] at nd
      exact nd.2.2 p.1 m p.1 (by simp) rfl
    rw [List.foldl_cons, pk_new h]
    rw [fold_new (by simpa using nd)]
    simp
theorem mkD_eq {kvs : List (Key × D)} (nd : (kvs.map (·.1)).Nodup) : mkD kvs = kvs := by
  unfold mkD
  rw [fold_new (by simpa using nd), List.nil_append]
theorem mvK_nd {tb : Tb} (nd : (tb.map (·.1)).Nodup) : ((mvK tb).map (·.1)).Nodup := by
  unfold mvK
  rw [List.map_map]
  have e : ((fun kv : Key × D => kv.1) ∘ fun p : Nat × List Int => ((Sum.inr (sgn p.1) : Key), D.tup (iL p.2))) = (fun c : Nat => (Sum.inr (sgn c) : Key)) ∘ (fun p : Nat × List Int => p.1) := rfl
  rw [e, ← List.map_map]
  exact List.Pairwise.map _ (fun a b h z => h (sgn_inj (by injection z))) nd
section
variable {n : Int} {tb : Tb}
def tupd : D → D
  | .tup [a, .lst r] => .tup [a, .tup r]
  | d => d
theorem m_init (ok : TOk n tb) (x : Addr) : M_House___init__ x [.int n, .lst (tbL tb)] = .ok [("many", .int n), ("moves", .dK (mvK tb))] := by
  have e : lcF [3, 4] (srcE (varE 2)) (bT (bsCons (bN 3) (bsCons (bN 4) bsNil))) yesT (tupE (consL (varE 3) (consL (ca (consL (varE 4) nilL) tupleD) nilL))) [.oI x [("many", .int n)], .dat (.int n), .dat (.lst (tbL tb)), .no, .no] =
      .ok (.ol ((tbL tb).map tupd)) := by
    refine lcF_map _ (by simp [srcD]) rfl (by unfold tbL cap; rw [List.length_map]; have := ok.l2; omega) fun d m => ?_
    obtain ⟨p, _, rfl⟩ := List.mem_map.mp m
    simp [lcSt, bT, bsCons, bsNil, bN, wipeS, rowD, tupleD, two_cap, tupd]
  have e2 : (tbL tb).map tupd = tb.map fun p => .tup [.str (sgn p.1), .tup (iL p.2)] := by
    unfold tbL; rw [List.map_map]; rfl
  rw [e2] at e
  have e3 : dictO [.lst (tb.map fun p => .tup [.str (sgn p.1), .tup (iL p.2)])] = some (.oK (mvK tb)) := by
    show (pairsD _).map _ = _
    rw [pairsD_map, Option.map_some, mkD_eq (mvK_nd ok.nd)]
  have nm : ¬ (Str.ofString "many" = Str.ofString "moves") := by decide +kernel
  simp [M_House___init__, F_House___init__, bodyI, m_need_house ok, e, e3, pf, nm]
theorem e_mk {l : EF (List D)} {ρ : List Sl} (ok : TOk n tb) (hl : l ρ = .ok [.int n, .lst (tbL tb)]) : mkE M_House___init__ l ρ = .ok (hsD n tb) := by
  have ev : Even M_House___init__ [.int n, .lst (tbL tb)] := fun x => by rw [m_init ok x, m_init ok 0]
  unfold mkE
  rw [hl, rb_ok, if_pos ev, m_init ok 0]; rfl
theorem hs_many : List.lookup ("many" : Str) [(("many" : Str), D.int n), ("moves", D.dK (mvK tb))] = some (.int n) := by
  rw [List.lookup_cons]
  have : (("many" : Str) == "many") = true := by decide +kernel
  rw [this]
theorem hs_moves : List.lookup ("moves" : Str) [(("many" : Str), D.int n), ("moves", D.dK (mvK tb))] = some (.dK (mvK tb)) := by
  rw [List.lookup_cons]
  have : (("moves" : Str) == "many") = false := by decide +kernel
  rw [this, List.lookup_cons]
  have : (("moves" : Str) == "moves") = true := by decide +kernel
  rw [this]
/-- the house's own names are no methods' -/
theorem hs_none {m : Str} (h1 : (m == ("many" : Str)) = false) (h2 : (m == ("moves" : Str)) = false) : List.lookup m [(("many" : Str), D.int n), ("moves", D.dK (mvK tb))] = none := by
  rw [List.lookup_cons, h1, List.lookup_cons, h2]; rfl
theorem f_many {f : EF D} {ρ : List Sl} (h : f ρ = .ok (hsD n tb)) : fldE "many" f ρ = .ok (.int n) := by
  unfold fldE
  rw [h, rb_ok]
  show ofO (List.lookup _ _) = _
  rw [hs_many]; rfl
theorem f_moves {f : EF D} {ρ : List Sl} (h : f ρ = .ok (hsD n tb)) : fldE "moves" f ρ = .ok (.dK (mvK tb)) := by
  unfold fldE
  rw [h, rb_ok]
  show ofO (List.lookup _ _) = _
  rw [hs_moves]; rfl
theorem f_ob {m : Str} {f : EF D} {l : EF (List D)} {ρ : List Sl} {ds : List D} (h : f ρ = .ok (hsD n tb)) (hl : l ρ = .ok ds) (h1 : (m == ("many" : Str)) = false) (h2 : (m == ("moves" : Str)) = false) : obE m f l ρ = .ok (hsD n tb :: ds) := by
  unfold obE
  rw [h, rb_ok]
  show (if (List.lookup _ _).isNone = true then _ else _) = _
  rw [hs_none h1 h2, hl]; rfl
theorem m_size : M_House_size [hsD n tb] = .ok (.dat (.int n)) := by
  have e : fldE "many" (varE 0) [.dat (hsD n tb)] = .ok (.int n) := f_many rfl
  unfold M_House_size bodyM F_House_size rtF
  simp only [List.map_cons, List.map_nil, List.length_cons, List.length_nil, List.append_nil, List.replicate, Nat.sub_self, Nat.zero_add, e, lf_ok]
/-- what the table says at a letter -/
theorem lk_mv {c : Nat} {rs : List Int} : ∀ {tb : Tb}, (tb.map (·.1)).Nodup → (c, rs) ∈ tb → lk (mvK tb) (.inr (sgn c)) = some (.tup (iL rs))
  | [], _, m => (nomatch m)
  | p :: tb, nd, m => by
    have nd2 := List.nodup_cons.mp nd
    unfold mvK
    rw [List.map_cons, lk_cons]
    rcases List.mem_cons.mp m with e | e
    · rw [← e, if_pos rfl]
    · rw [if_neg fun z => nd2.1 (List.mem_map.mpr ⟨(c, rs), e, by injection z with z; exact (sgn_inj z).symm⟩)]
      exact lk_mv nd2.2 e
theorem lk_no {c : Nat} : ∀ {tb : Tb}, c ∉ lets tb → lk (mvK tb) (.inr (sgn c)) = none
  | [], _ => rfl
  | p :: tb, h => by
    unfold lets at h
    rw [List.map_cons, List.mem_cons, not_or] at h
    unfold mvK
    rw [List.map_cons, lk_cons, if_neg fun z => h.1 (by injection z with z; exact (sgn_inj z).symm)]
    exact lk_no h.2
end

/-! ### rows -/
def rowS (r : List Nat) : Str := ⟨r.toArray⟩
theorem rowS_len {r : List Nat} : (rowS r).length = r.length := by show r.toArray.size = _; simp
theorem signs_row {r : List Nat} : signs (rowS r) = lD r := by unfold signs rowS lD sgn; simp
theorem lD_len {r : List Nat} : (lD r).length = r.length := by unfold lD; simp
theorem lD_mem {r : List Nat} {d : D} (h : d ∈ lD r) : ∃ c, d = .str (sgn c) ∧ c ∈ r := by
  obtain ⟨c, m, rfl⟩ := List.mem_map.mp h
  exact ⟨c, rfl, m⟩
theorem src_row {r : List Nat} : srcD (.str (rowS r)) = some (lD r) := by show some (signs (rowS r)) = _; rw [signs_row]
/-- what the table says at a letter -/
def lookT (tb : Tb) (c : Nat) : List Int := ((tb.find? fun p => p.1 == c).map (·.2)).getD []
def stp (tb : Tb) (q : Int) (c : Nat) : Int := (lookT tb c).getD q.toNat 0
def gon (tb : Tb) (q : Int) (r : List Nat) : Int := r.foldl (stp tb) q
theorem look_mem {tb : Tb} {c : Nat} (h : c ∈ lets tb) : (c, lookT tb c) ∈ tb := by
  unfold lets at h
  obtain ⟨p, m, e⟩ := List.mem_map.mp h
  unfold lookT
  cases hf : tb.find? fun p => p.1 == c with
  | none => exact absurd (by simpa using e) (List.find?_eq_none.mp hf p m)
  | some q =>
    have h1 := List.find?_some hf
    have h2 := List.mem_of_find?_eq_some hf
    have : q.1 = c := by simpa using h1
    show (c, q.2) ∈ tb
    rw [← this]; exact h2
def letsIn (tb : Tb) (r : List Nat) : Prop := ∀ c ∈ r, c ∈ lets tb
section
variable {n : Int} {tb : Tb}
theorem stp_in (ok : TOk n tb) {q : Int} {c : Nat} (h : 0 ≤ q) (h2 : q < n) (hc : c ∈ lets tb) : atI (lookT tb c) q = some (stp tb q c) ∧ 0 ≤ stp tb q c ∧ stp tb q c < n := by
  have m := look_mem hc
  obtain ⟨hl, hr⟩ := ok.rm _ m
  have e : stp tb q c = (lookT tb c)[q.toNat]'(by have : ((lookT tb c).length : Int) = n := hl; omega) := by
    unfold stp
    rw [List.getD_eq_getElem?_getD, List.getElem?_eq_getElem (by have : ((lookT tb c).length : Int) = n := hl; omega)]; rfl
  rw [e]
  exact ⟨atI_ok h (by have : ((lookT tb c).length : Int) = n := hl; omega), hr _ (List.getElem_mem _)⟩
theorem gon_in (ok : TOk n tb) : ∀ {r : List Nat} {q : Int}, 0 ≤ q → q < n → letsIn tb r → 0 ≤ gon tb q r ∧ gon tb q r < n
  | [], q, h, h2, _ => ⟨h, h2⟩
  | c :: r, q, h, h2, hl => by
    obtain ⟨_, h3, h4⟩ := stp_in ok h h2 (hl c (List.mem_cons_self ..))
    exact gon_in ok (r := r) h3 h4 fun e m => hl e (List.mem_cons_of_mem _ m)
theorem atI_iL {rs : List Int} {q z : Int} (h : atI rs q = some z) : atI (iL rs) q = some (.int z) := by
  unfold atI at h ⊢
  rw [iL_len]
  obtain ⟨j, e1, e2⟩ := Option.bind_eq_some_iff.mp h
  rw [e1, Option.bind_some]
  unfold iL
  rw [List.getElem?_map, e2]; rfl
theorem idx_mv (ok : TOk n tb) {c : Nat} (hc : c ∈ lets tb) : idxD (.dK (mvK tb)) (.str (sgn c)) = some (.tup (iL (lookT tb c))) := by
  show (some (lk (mvK tb) (.inr (sgn c)))).bind id = _
  rw [lk_mv ok.nd (look_mem hc)]; rfl
theorem in_mv {c : Nat} (ok : TOk n tb) : inV (.str (sgn c)) (.dK (mvK tb)) = some (.bl (decide (c ∈ lets tb))) := by
  show ((some (lk (mvK tb) (.inr (sgn c)))).map Option.isSome).map D.bl = _
  by_cases h : c ∈ lets tb
  · rw [lk_mv ok.nd (look_mem h), decide_eq_true h]; rfl
  · rw [lk_no h, decide_eq_false h]; rfl
/-! ### letters, the table -/
def ltr (tb : Tb) : Str := Txt.join "" ((lets tb).map sgn)
theorem keys_mv : keysV (mvK tb) = lD (lets tb) := by unfold keysV mvK lD lets; rw [List.map_map, List.map_map]; rfl
theorem strs_lD : ∀ {l : List Nat}, strsD (lD l) = some (l.map sgn)
  | [] => rfl
  | c :: l => by unfold lD; rw [List.map_cons]; unfold strsD; rw [show strsD (l.map fun c => .str (sgn c)) = _ from strs_lD (l := l)]; rfl
theorem sum_ones : ∀ {l : List Nat}, ((l.map sgn).map (·.length)).sum = l.length
  | [] => rfl
  | c :: l => by rw [List.map_cons, List.map_cons, List.sum_cons, sum_ones, sgn_len, List.length_cons]; omega
theorem empty_len : ("" : Str).length = 0 := by decide +kernel
theorem join_lD {l : List Nat} (h : l.length ≤ 100000) : joinD (.str "") [.lst (lD l)] = some (.str (Txt.join "" (l.map sgn))) := by
  unfold joinD
  dsimp only
  rw [strs_lD, Option.bind_some, sum_ones, if_pos (by rw [empty_len, Nat.mul_zero]; unfold cap; omega)]
def tupL (tb : Tb) : List D := tb.map fun p => .tup [.str (sgn p.1), .tup (iL p.2)]
theorem m_table_ (ok : TOk n tb) : M_House_table [hsD n tb] = .ok (.dat (.tup (tupL tb))) := by
  have e : fldE "moves" (varE 0) [.dat (hsD n tb), .no] = .ok (.dK (mvK tb)) := f_moves rfl
  have e1 : lcF [1] (keysE (fldE "moves" (varE 0))) (bN 1) yesT (tupE (consL (varE 1) (consL (bin (fldE "moves" (varE 0)) (varE 1) idxD) nilL))) [.dat (hsD n tb), .no] =
      .ok (.ol ((lD (lets tb)).map fun d => .tup [d, ((idxD (.dK (mvK tb)) d).getD .non)])) := by
    refine lcF_map _ ?_ rfl (by rw [lD_len]; unfold lets cap; rw [List.length_map]; have := ok.l2; omega) fun d m => ?_
    · unfold keysE
      rw [e, rb_ok]
      show ofO (some (keysV (mvK tb))) = _
      rw [keys_mv]; rfl
    · obtain ⟨c, rfl, hc⟩ := lD_mem m
      have e5 : fldE "moves" (varE 0) [.dat (hsD n tb), .dat (.str (sgn c))] = .ok (.dK (mvK tb)) := f_moves rfl
      simp [lcSt, bN, wipeS, -fldE, e5, idx_mv ok hc, two_cap]
  have e2 : ((lD (lets tb)).map fun d => D.tup [d, ((idxD (.dK (mvK tb)) d).getD .non)]) = tupL tb := by
    unfold lD lets tupL
    rw [List.map_map, List.map_map]
    refine List.map_congr_left fun p m => ?_
    have h1 : idxD (.dK (mvK tb)) (.str (sgn p.1)) = some (.tup (iL p.2)) := by
      show (some (lk (mvK tb) (.inr (sgn p.1)))).bind id = _
      rw [lk_mv ok.nd (show (p.1, p.2) ∈ tb from m)]; rfl
    show D.tup [.str (sgn p.1), ((idxD (.dK (mvK tb)) (.str (sgn p.1))).getD .non)] = _
    rw [h1]; rfl
  rw [e2] at e1
  have e3 : tupleD [.lst (tupL tb)] = some (.tup (tupL tb)) := rfl
  simp only [M_House_table, F_House_table, bodyM, List.map_cons, List.map_nil, List.length_cons, List.length_nil, List.append_nil, List.replicate, List.cons_append, List.nil_append, Nat.zero_add, rtF, ca, consL, fzE, e1, rb_ok, fz, e_nilL, e3, of_some, lf_ok]
end

/-! ### rows are walked -/
section
variable {n : Int} {tb : Tb}
def inL (tb : Tb) : D → Bool
  | .str z => z.cps.toList.all fun c => decide (c ∈ lets tb)
  | _ => false
theorem inL_sgn {c : Nat} : inL tb (.str (sgn c)) = decide (c ∈ lets tb) := by unfold inL; dsimp only; rw [sgn_cps]; simp
def letsOk (tb : Tb) (r : List Nat) : Bool := r.all fun c => decide (c ∈ lets tb)
theorem all_lets {r : List Nat} : allD [.lst ((lD r).map fun d => .bl (inL tb d))] = some (.bl (letsOk tb r)) := by
  rw [allD_map]
  unfold lD letsOk
  rw [List.all_map]
  congr 2
  refine List.all_congr rfl fun c => ?_
  exact inL_sgn
theorem letsOk_iff {r : List Nat} : letsOk tb r = true ↔ letsIn tb r := by unfold letsOk letsIn; rw [List.all_eq_true]; exact ⟨fun h c m => of_decide_eq_true (h c m), fun h c m => decide_eq_true (h c m)⟩
/-! ### images -/
theorem intsD_iL : ∀ {rs : List Int}, intsD (iL rs) = some rs
  | [] => rfl
  | r :: rs => by unfold iL; rw [List.map_cons]; unfold intsD; rw [show intsD (rs.map D.int) = _ from intsD_iL (rs := rs)]; rfl
theorem pl_iL : ∀ {rs : List Int}, plL (iL rs) = true
  | [] => rfl
  | r :: rs => by unfold iL; rw [List.map_cons]; show (plE (.int r) && plL (rs.map D.int)) = true; rw [show plL (rs.map D.int) = true from pl_iL (rs := rs)]; rfl
theorem dep_iL : ∀ {rs : List Int}, depL (iL rs) = 0
  | [] => rfl
  | r :: rs => by unfold iL; rw [List.map_cons]; show max (dep (.int r)) (depL (rs.map D.int)) = 0; rw [show depL (rs.map D.int) = 0 from dep_iL (rs := rs)]; rfl
theorem deq_iL {rs qs : List Int} : deqL (iL rs) (iL qs) = (rs == qs) := by
  induction rs generalizing qs with
  | nil => cases qs with
    | nil => rfl
    | cons q qs => rfl
  | cons r rs ih => cases qs with
    | nil => rfl
    | cons q qs =>
      have h := ih (qs := qs)
      have e : deqL (iL (r :: rs)) (iL (q :: qs)) = (deq (.int r) (.int q) && deqL (iL rs) (iL qs)) := rfl
      rw [e, h, deq_int, List.cons_beq_cons]
theorem eq_iL {rs qs : List Int} : eqD (.lst (iL rs)) (.lst (iL qs)) = some (.bl (rs == qs)) := by
  have h : eqC (.lst (iL rs)) (.lst (iL qs)) = true := by
    unfold eqC
    have h1 : ∀ l : List Int, plE (.lst (iL l)) = true := fun l => pl_iL (rs := l)
    have h2 : ∀ l : List Int, dep (.lst (iL l)) = 1 := fun l => by show depL (iL l) + 1 = 1; rw [dep_iL]
    rw [h1, h1, h2, h2]; rfl
  unfold eqD
  rw [if_pos h]
  show some (D.bl (deqL _ _)) = _
  rw [deq_iL]
theorem ne_iL {rs qs : List Int} : neD (.lst (iL rs)) (.lst (iL qs)) = some (.bl (!(rs == qs))) := by
  have h : eqC (.lst (iL rs)) (.lst (iL qs)) = true := by
    unfold eqC
    have h1 : ∀ l : List Int, plE (.lst (iL l)) = true := fun l => pl_iL (rs := l)
    have h2 : ∀ l : List Int, dep (.lst (iL l)) = 1 := fun l => by show depL (iL l) + 1 = 1; rw [dep_iL]
    rw [h1, h1, h2, h2]; rfl
  unfold neD
  rw [if_pos h]
  show some (D.bl (!deqL _ _)) = _
  rw [deq_iL]
theorem sdd_len {rs : List Int} (h : rs.Nodup) : (sdd rs).length = rs.length := len_eq (nodup_pw sdd_pw) h fun z => mem_sdd
theorem sdd_le {rs : List Int} : (sdd rs).length ≤ rs.length := (nodup_pw sdd_pw).length_le_of_subset fun z h => mem_sdd.mp h
def rmsOk (n : Int) (rs : List Int) : Prop := rs ≠ [] ∧ rs.Nodup ∧ rs.length ≤ 10 ∧ ∀ r ∈ rs, 0 ≤ r ∧ r < n
theorem fzE_ok {g : EF Sl} {ρ : List Sl} {s : Sl} (h : g ρ = .ok s) : fzE g ρ = .ok (fz s) := by unfold fzE; rw [h]; rfl
theorem sortedSet_iL {f : EF D} {ρ : List Sl} {rs : List Int} (h : f ρ = .ok (.lst (iL rs))) (hl : rs.length < 64) : sortedSetO f ρ = .ok (.ol (iL (sdd rs))) := by
  unfold sortedSetO
  rw [h, rb_ok]
  show ofO ((intsD (iL _)).bind _) = _
  have := sdd_le (rs := rs)
  rw [intsD_iL, Option.bind_some, if_pos ⟨by omega, by omega⟩]; rfl
end

/-! ### the law's own pressing -/
theorem str_app (a b : List Nat) : (⟨a.toArray⟩ : Str) ++ (⟨b.toArray⟩ : Str) = ⟨(a ++ b).toArray⟩ := by
  show (⟨a.toArray ++ b.toArray⟩ : Str) = _
  simp
theorem empty_row : ("" : Str) = rowS [] := by decide +kernel
theorem join_sgn : ∀ (l : List Nat), Txt.join "" (l.map sgn) = rowS l := by
  intro l
  unfold Txt.join
  rw [StrLaws.glued_eq_join]
  induction l with
  | nil => rfl
  | cons c l ih =>
    cases l with
    | nil => rfl
    | cons e l =>
      show sgn c ++ "" ++ Str.join "" ((e :: l).map sgn) = _
      rw [ih, empty_row]
      show (⟨[c].toArray⟩ : Str) ++ (⟨([] : List Nat).toArray⟩ : Str) ++ (⟨(e :: l).toArray⟩ : Str) = _
      rw [str_app, str_app]; rfl
def mvL (tb : Tb) : List (Key × D) := tb.map fun p => (.inr (sgn p.1), .lst (iL p.2))
theorem pairsD_tb : ∀ (tb : Tb), pairsD (tbL tb) = some (mvL tb)
  | [] => rfl
  | p :: tb => by
    unfold tbL
    rw [List.map_cons]
    unfold pairsD
    rw [show pairsD (tb.map rowD) = _ from pairsD_tb tb]; rfl
section
variable {n : Int} {tb : Tb}
theorem mvL_nd (nd : (tb.map (·.1)).Nodup) : ((mvL tb).map (·.1)).Nodup := by
  unfold mvL
  rw [List.map_map]
  have e : ((fun kv : Key × D => kv.1) ∘ fun p : Nat × List Int => ((Sum.inr (sgn p.1) : Key), D.lst (iL p.2))) = (fun c : Nat => (Sum.inr (sgn c) : Key)) ∘ (fun p : Nat × List Int => p.1) := rfl
  rw [e, ← List.map_map]
  exact List.Pairwise.map _ (fun a b h z => h (sgn_inj (by injection z))) nd
theorem lk_mvL {c : Nat} {rs : List Int} : ∀ {tb : Tb}, (tb.map (·.1)).Nodup → (c, rs) ∈ tb → lk (mvL tb) (.inr (sgn c)) = some (.lst (iL rs))
  | [], _, m => (nomatch m)
  | p :: tb, nd, m => by
    have nd2 := List.nodup_cons.mp nd
    unfold mvL
    rw [List.map_cons, lk_cons]
    rcases List.mem_cons.mp m with e | e
    · rw [← e, if_pos rfl]
    · rw [if_neg fun z => nd2.1 (List.mem_map.mpr ⟨(c, rs), e, by injection z with z; exact (sgn_inj z).symm⟩)]
      exact lk_mvL nd2.2 e
theorem idx_mvL (ok : TOk n tb) {c : Nat} (hc : c ∈ lets tb) : idxD (.dK (mvL tb)) (.str (sgn c)) = some (.lst (iL (lookT tb c))) := by
  show (some (lk (mvL tb) (.inr (sgn c)))).bind id = _
  rw [lk_mvL ok.nd (look_mem hc)]; rfl
theorem dict_tb (ok : TOk n tb) : dictO [.lst (tbL tb)] = some (.oK (mvL tb)) := by
  show (pairsD _).map _ = _
  rw [pairsD_tb, Option.map_some, mkD_eq (mvL_nd ok.nd)]
theorem tb_len : (tbL tb).length = tb.length := by unfold tbL; simp
def rowAt (tb : Tb) (i : Int) : Nat × List Int := tb.getD i.toNat (0, [])
theorem tb_at (ok : TOk n tb) {i : Int} (h : 0 ≤ i) (h2 : i < tb.length) : (rowAt tb i).1 ∈ lets tb ∧ ((rowAt tb i).2.length : Int) = n ∧ idxD (.lst (tbL tb)) (.int i) = some (rowD (rowAt tb i)) := by
  have e : atI (tbL tb) i = some ((tbL tb)[i.toNat]'(by rw [tb_len]; omega)) := atI_ok h (by rw [tb_len]; exact h2)
  have e2 : (tbL tb)[i.toNat]'(by rw [tb_len]; omega) = rowD (tb[i.toNat]'(by omega)) := by unfold tbL; simp
  have e3 : rowAt tb i = tb[i.toNat]'(by omega) := by unfold rowAt; rw [List.getD_eq_getElem?_getD, List.getElem?_eq_getElem (by omega)]; rfl
  have m : tb[i.toNat]'(by omega) ∈ tb := List.getElem_mem _
  rw [e3]
  refine ⟨List.mem_map_of_mem m, (ok.rm _ m).1, ?_⟩
  show atI (tbL tb) i = _
  rw [e, e2]
def rowPick (ns : List Int) (tb : Tb) (at_ : Int) (d : D) : Nat := (rowAt tb (num ns (at_ + intOf d) / 3 % tb.length)).1
end

theorem sIx_in {k : Nat} {d : Nat} {i : Int} (h : 0 ≤ i) (h2 : i ≤ k) : HT.sIx k d (some i) = i.toNat := by
  show (if i < 0 then _ else min i.toNat k) = _
  rw [if_neg (by omega)]
  omega
theorem sl_to {xs : List D} {i : Int} (h : 0 ≤ i) (h2 : i ≤ xs.length) : slD (.lst xs) none (some i) = some (.ol (xs.take i.toNat)) := by
  show some (Sl.ol _) = _
  rw [sIx_in h h2]
  show some (Sl.ol ((xs.drop 0).take (i.toNat - 0))) = _
  rw [List.drop_zero, Nat.sub_zero]
theorem sl_from {xs : List D} {i : Int} (h : 0 ≤ i) (h2 : i ≤ xs.length) : slD (.lst xs) (some i) none = some (.ol (xs.drop i.toNat)) := by
  show some (Sl.ol _) = _
  rw [sIx_in h h2]
  show some (Sl.ol ((xs.drop i.toNat).take (xs.length - i.toNat))) = _
  rw [List.take_of_length_le (by rw [List.length_drop]; exact Nat.le_refl _)]
theorem listO_lst {xs : List D} : listO [.lst xs] = some (.ol xs) := rfl
theorem sx_len {tb : Tb} : (tbL tb).length = tb.length := by unfold tbL; simp

/-! ### the law looks -/
section
variable {n : Int} {tb : Tb}
theorem tupd_tb : (tbL tb).map tupd = tupL tb := by unfold tbL tupL; rw [List.map_map]; rfl
theorem okR_int {i : Int} (h : i.natAbs < 10 ^ 12) : okR (.int i) = true := decide_eq_true h
theorem okR_iL {rs : List Int} (h : ∀ r ∈ rs, 0 ≤ r ∧ r < 1000000) : okRL (iL rs) = true := okRL_map fun r m => okR_int (by have := h r m; have : (10 : Nat) ^ 12 = 1000000000000 := (by decide); omega)
theorem okR_sgn {c : Nat} (h : c ≤ 122) : okR (.str (sgn c)) = true := by
  show ((sgn c).cps.toList.all fun c => decide (c < 16 ^ 8)) = true
  rw [sgn_cps]
  simp; omega
theorem wt_iL {rs : List Int} : wtRL (iL rs) ≤ rs.length * 41 := wtRL_map fun r m => Nat.le_refl _
theorem repr_tab (ok : TOk n tb) : reprD [.tup (tupL tb)] = some (.str (shw (.tup (tupL tb)))) := by
  have h10 : ∀ p ∈ tb, p.2.length ≤ 10 := fun p m => by have := (ok.rm p m).1; have := ok.n2; omega
  refine repr_ok ?_ ?_ ?_
  · refine okRL_map fun p m => ?_
    show (okR (.str (sgn p.1)) && (okRL (iL p.2) && true)) = true
    rw [okR_sgn (ok.lt p m).2, okR_iL fun r mr => by have := (ok.rm p m).2 r mr; have := ok.n2; omega]; rfl
  · have : depL (tupL tb) ≤ 2 := depL_map fun p m => by
      show max 0 (max (depL (iL p.2) + 1) 0) + 1 ≤ 2
      rw [dep_iL]; decide
    show depL (tupL tb) + 1 < 64
    omega
  · have : wtRL (tupL tb) ≤ tb.length * (500 + 1) := wtRL_map fun p m => by
      show wtR (.str (sgn p.1)) + 1 + (wtRL (iL p.2) + 1 + 0) ≤ 500
      have h1 := wt_iL (rs := p.2)
      have h2 := h10 p m
      have h3 : wtR (.str (sgn p.1)) = 1 := rfl
      omega
    show wtRL (tupL tb) ≤ 2 ^ 20
    have := ok.l2
    have : (2 : Nat) ^ 20 = 1048576 := by decide
    omega
theorem repr_tbl (ok : TOk n tb) : reprD [.lst (tbL tb)] = some (.str (shw (.lst (tbL tb)))) := by
  have h10 : ∀ p ∈ tb, p.2.length ≤ 10 := fun p m => by have := (ok.rm p m).1; have := ok.n2; omega
  refine repr_ok ?_ ?_ ?_
  · refine okRL_map fun p m => ?_
    show (okR (.str (sgn p.1)) && (okRL (iL p.2) && true)) = true
    rw [okR_sgn (ok.lt p m).2, okR_iL fun r mr => by have := (ok.rm p m).2 r mr; have := ok.n2; omega]; rfl
  · have : depL (tbL tb) ≤ 2 := depL_map fun p m => by
      show max 0 (max (depL (iL p.2) + 1) 0) + 1 ≤ 2
      rw [dep_iL]; decide
    show depL (tbL tb) + 1 < 64
    omega
  · have : wtRL (tbL tb) ≤ tb.length * (500 + 1) := wtRL_map fun p m => by
      show wtR (.str (sgn p.1)) + 1 + (wtRL (iL p.2) + 1 + 0) ≤ 500
      have h1 := wt_iL (rs := p.2)
      have h2 := h10 p m
      have h3 : wtR (.str (sgn p.1)) = 1 := rfl
      omega
    show wtRL (tbL tb) ≤ 2 ^ 20
    have := ok.l2
    have : (2 : Nat) ^ 20 = 1048576 := by decide
    omega
end

section
variable {n : Int} {tb : Tb} {ns : List Int}
theorem m_made (ok : TOk n tb) : M__law_made [.lst (tbL tb)] = .ok (.dat (hsD n tb)) := by
  have n1 := ok.n1; have l1 := ok.l1
  obtain ⟨hc, hlen, ix⟩ := tb_at ok (i := 0) (by omega) (by omega)
  have ix1 : idxD (rowD (rowAt tb 0)) (.int 1) = some (.lst (iL (rowAt tb 0).2)) := rfl
  have il : (iL (rowAt tb 0).2).length = (rowAt tb 0).2.length := iL_len
  have e := lcF_map (vs := [1, 2]) (l := srcE (varE 0)) (b := bT (bsCons (bN 1) (bsCons (bN 2) bsNil))) (tt := yesT) (f := tupE (consL (varE 1) (consL (fzE (cao (consL (varE 2) nilL) listO)) nilL)))
    (ρ := [.dat (.lst (tbL tb)), .no, .no]) (ds := tbL tb) (fun d => d) (by simp [srcD]) rfl (by unfold tbL cap; rw [List.length_map]; have := ok.l2; omega) fun d m => by
      obtain ⟨p, _, rfl⟩ := List.mem_map.mp m
      simp [lcSt, bT, bsCons, bsNil, bN, wipeS, rowD, two_cap, listO_lst]
  rw [List.map_id'] at e
  have e2 := e_mk (l := consL (ca (consL (bin (bin (varE 0) (cE (.int 0)) idxD) (cE (.int 1)) idxD) nilL) lenD) (consL (fzE (lcF [1, 2] (srcE (varE 0)) (bT (bsCons (bN 1) (bsCons (bN 2) bsNil))) yesT (tupE (consL (varE 1) (consL (fzE (cao (consL (varE 2) nilL) listO)) nilL))))) nilL)) (ρ := [.dat (.lst (tbL tb)), .no, .no]) ok (by
    simp [ix, ix1, il, hlen, e])
  simp [M__law_made, F__law_made, bodyM, -mkE, e2]
end

end PL

namespace PL
open PySem PySem.Spec L2
/-! ### while loops of mirrors -/
theorem whN_det {c : EF Bool} {F : SF} : ∀ {n m : Nat} {ρ : List Sl} {o : Fl}, whN n c F ρ = some o → n ≤ m → whN m c F ρ = some o
  | 0, _, _, _, h, _ => by cases h
  | n + 1, 0, _, _, _, h => by omega
  | n + 1, m + 1, ρ, o, h, hm => by
    unfold whN at h ⊢
    cases hc : c ρ with
    | bad => rw [hc] at h; cases h
    | ex k ps => rw [hc] at h; exact h
    | ok b =>
      rw [hc, lf_ok] at h
      rw [lf_ok]
      cases b with
      | false => exact h
      | true =>
        simp only [if_true] at h ⊢
        cases hF : F ρ with
        | none => rw [hF] at h; cases h
        | some x =>
          rw [hF] at h
          cases x with
          | nx ρ' => exact whN_det h (by omega)
          | cnt ρ' => exact whN_det h (by omega)
          | brk ρ' => exact h
          | ret s => exact h
          | rs r c ps => exact h
theorem whF_eq {c : EF Bool} {F : SF} {n : Nat} {ρ : List Sl} {o : Fl} (h : whN n c F ρ = some o) : whF c F ρ = some o := by
  have hx : ∃ n, (whN n c F ρ).isSome := ⟨n, by rw [h]; rfl⟩
  unfold whF
  rw [dif_pos hx]
  obtain ⟨o2, h2⟩ := Option.isSome_iff_exists.mp hx.choose_spec
  rw [h2]
  have h3 := whN_det h2 (Nat.le_max_left hx.choose n)
  have h4 := whN_det h (Nat.le_max_right hx.choose n)
  rw [h3] at h4; exact h4
/-- a while loop: states, what they look like, a measure -/
theorem whF_run {α : Type} {c : EF Bool} {F : SF} (enc : α → List Sl → Prop) (go : α → Bool) (μ : α → Nat)
    (hc : ∀ a ρ, enc a ρ → c ρ = .ok (go a)) (hs : ∀ a ρ, enc a ρ → go a = true → ∃ a' ρ', F ρ = some (.nx ρ') ∧ enc a' ρ' ∧ μ a' < μ a) :
    ∀ (a : α) (ρ : List Sl), enc a ρ → ∃ a' ρ', whF c F ρ = some (.nx ρ') ∧ enc a' ρ' ∧ go a' = false := by
  suffices main : ∀ (k : Nat) (a : α) (ρ : List Sl), μ a < k → enc a ρ → ∃ a' ρ', whN k c F ρ = some (.nx ρ') ∧ enc a' ρ' ∧ go a' = false from fun a ρ h => by
    obtain ⟨a', ρ', e, h1, h2⟩ := main (μ a + 1) a ρ (Nat.lt_succ_self _) h
    exact ⟨a', ρ', whF_eq e, h1, h2⟩
  intro k
  induction k with
  | zero => intro a ρ h; omega
  | succ k ih =>
    intro a ρ hk h
    unfold whN
    rw [hc a ρ h, lf_ok]
    cases hg : go a with
    | false => exact ⟨a, ρ, rfl, h, hg⟩
    | true =>
      obtain ⟨a2, ρ2, e2, h2, hm⟩ := hs a ρ h hg
      obtain ⟨a', ρ', e, h3, h4⟩ := ih a2 ρ2 (by omega) h2
      refine ⟨a', ρ', ?_, h3, h4⟩
      simp only [if_true, e2]
      exact e
/-! ### going in breadth -/
section
variable {α : Type} [DecidableEq α]
def keysB (f : List (α × Nat)) : List α := f.map (·.1)
/-- what asks for the place at the front is put behind -/
def inn (lev : Nat) : List α → List (α × Nat) → List (α × Nat)
  | [], f => f
  | q :: L, f => if q ∈ keysB f then inn lev L f else inn lev L (f ++ [(q, lev + 1)])
theorem keysB_app {f g : List (α × Nat)} : keysB (f ++ g) = keysB f ++ keysB g := by unfold keysB; rw [List.map_append]
/-- p is led in m steps to W0 -/
def Rch (W0 : α → Prop) (asks : α → List α) : Nat → α → Prop
  | 0, p => W0 p
  | m + 1, p => ∃ q, Rch W0 asks m q ∧ p ∈ asks q
structure BI (W0 : α → Prop) (asks : α → List α) (k0 at_ : Nat) (f : List (α × Nat)) : Prop where
  nd : (keysB f).Nodup
  mono : f.Pairwise fun a b => a.2 ≤ b.2
  top : ∀ i w, i = at_ → f[i]? = some w → ∀ e ∈ f, e.2 ≤ w.2 + 1
  path : ∀ e ∈ f, k0 ≤ e.2 ∧ Rch W0 asks (e.2 - k0) e.1
  start : ∀ p, W0 p → (p, k0) ∈ f
  done : ∀ i, i < at_ → ∀ w, f[i]? = some w → ∀ q ∈ asks w.1, ∃ k, (q, k) ∈ f ∧ k ≤ w.2 + 1
  le : at_ ≤ f.length
theorem inn_spec (lev : Nat) : ∀ (L : List α) (f : List (α × Nat)), (keysB f).Nodup → f.Pairwise (fun a b => a.2 ≤ b.2) → (∀ e ∈ f, e.2 ≤ lev + 1) →
    ∃ g, inn lev L f = f ++ g ∧ (keysB (f ++ g)).Nodup ∧ (f ++ g).Pairwise (fun a b => a.2 ≤ b.2) ∧ (∀ e ∈ f ++ g, e.2 ≤ lev + 1) ∧ (∀ e ∈ g, e.2 = lev + 1 ∧ e.1 ∈ L) ∧ ∀ q ∈ L, q ∈ keysB (f ++ g)
  | [], f, nd, mo, tp => ⟨[], by simp [inn], by simpa using nd, by simpa using mo, by simpa using tp, fun _ m => (nomatch m), fun _ m => nomatch m⟩
  | q :: L, f, nd, mo, tp => by
    unfold inn
    by_cases hq : q ∈ keysB f
    · rw [if_pos hq]
      obtain ⟨g, h1, h2, h3, h4, h5, h6⟩ := inn_spec lev L f nd mo tp
      refine ⟨g, h1, h2, h3, h4, fun e m => ⟨(h5 e m).1, List.mem_cons_of_mem _ (h5 e m).2⟩, fun x m => ?_⟩
      rcases List.mem_cons.mp m with rfl | m
      · rw [keysB_app]; exact List.mem_append_left _ hq
      · exact h6 x m
    · rw [if_neg hq]
      have nd2 : (keysB (f ++ [(q, lev + 1)])).Nodup := by
        rw [keysB_app, List.nodup_append]
        exact ⟨nd, by simp [keysB], fun x hx y hy z => by simp [keysB] at hy; rw [z, hy] at hx; exact hq hx⟩
      have mo2 : (f ++ [(q, lev + 1)]).Pairwise fun a b => a.2 ≤ b.2 := by
        rw [List.pairwise_append]
        exact ⟨mo, by simp, fun a ha b hb => by rw [List.mem_singleton] at hb; rw [hb]; exact tp a ha⟩
      have tp2 : ∀ e ∈ f ++ [(q, lev + 1)], e.2 ≤ lev + 1 := fun e m => by
        rcases List.mem_append.mp m with m | m
        · exact tp e m
        · rw [List.mem_singleton] at m; rw [m]; exact Nat.le_refl _
      obtain ⟨g, h1, h2, h3, h4, h5, h6⟩ := inn_spec lev L _ nd2 mo2 tp2
      refine ⟨(q, lev + 1) :: g, by rw [h1]; simp, by simpa using h2, by simpa using h3, by simpa using h4, fun e m => ?_, fun x m => ?_⟩
      · rcases List.mem_cons.mp m with rfl | m
        · exact ⟨rfl, List.mem_cons_self ..⟩
        · exact ⟨(h5 e m).1, List.mem_cons_of_mem _ (h5 e m).2⟩
      · rcases List.mem_cons.mp m with rfl | m
        · simp [keysB]
        · have := h6 x m
          simpa using this
variable {W0 : α → Prop} {asks : α → List α} {k0 : Nat}
theorem keysB_mem {f : List (α × Nat)} {p : α} (h : p ∈ keysB f) : ∃ k, (p, k) ∈ f := by
  obtain ⟨e, m, rfl⟩ := List.mem_map.mp h
  exact ⟨e.2, m⟩
/-- one turn of the loop -/
theorem BI.step {at_ : Nat} {f : List (α × Nat)} {w : α × Nat} (h : BI W0 asks k0 at_ f) (hw : f[at_]? = some w) : BI W0 asks k0 (at_ + 1) (inn w.2 (asks w.1) f) ∧ ∃ g, inn w.2 (asks w.1) f = f ++ g := by
  obtain ⟨g, e, nd, mo, tp, hg, hq⟩ := inn_spec w.2 (asks w.1) f h.nd h.mono (h.top at_ w rfl hw)
  have hlt : at_ < f.length := (List.getElem?_eq_some_iff.mp hw).1
  refine ⟨?_, g, e⟩
  rw [e]
  have keep : ∀ {i : Nat} {x : α × Nat}, i < f.length → (f ++ g)[i]? = some x → f[i]? = some x := fun {i x} hi hx => by rwa [List.getElem?_append_left hi] at hx
  have mem_w : w ∈ f := List.mem_of_getElem? hw
  refine ⟨nd, mo, fun i x hi hx e2 m => ?_, fun e2 m => ?_, fun p hp => List.mem_append_left _ (h.start p hp), fun i hi x hx q mq => ?_, by rw [List.length_append]; omega⟩
  · -- the next one is no lower
    subst hi
    have hx2 : w.2 ≤ x.2 := by
      have hw2 : (f ++ g)[at_]? = some w := by rw [List.getElem?_append_left hlt]; exact hw
      obtain ⟨l1, e1⟩ := List.getElem?_eq_some_iff.mp hw2
      obtain ⟨l2, e3⟩ := List.getElem?_eq_some_iff.mp hx
      have := List.pairwise_iff_getElem.mp mo at_ (at_ + 1) l1 l2 (Nat.lt_succ_self _)
      rw [e1, e3] at this; exact this
    exact Nat.le_trans (tp e2 m) (by omega)
  · rcases List.mem_append.mp m with m | m
    · exact h.path e2 m
    · obtain ⟨h1, h2⟩ := hg e2 m
      obtain ⟨hw1, hw2⟩ := h.path w mem_w
      refine ⟨by omega, ?_⟩
      rw [h1, show w.2 + 1 - k0 = (w.2 - k0) + 1 by omega]
      exact ⟨w.1, hw2, h2⟩
  · by_cases hi2 : i < at_
    · obtain ⟨k, mk, lk⟩ := h.done i hi2 x (keep (by omega) hx) q mq
      exact ⟨k, List.mem_append_left _ mk, lk⟩
    · have : i = at_ := by omega
      subst this
      have hx2 := keep hlt hx
      rw [hw] at hx2; cases hx2
      obtain ⟨k, mk⟩ := keysB_mem (hq q mq)
      exact ⟨k, mk, tp _ mk⟩
/-- the beginning -/
theorem BI.init {f : List (α × Nat)} (nd : (keysB f).Nodup) (h : ∀ e ∈ f, e.2 = k0 ∧ W0 e.1) (hs : ∀ p, W0 p → (p, k0) ∈ f) : BI W0 asks k0 0 f where
  nd := nd
  mono := by
    rw [List.pairwise_iff_forall_sublist]
    intro a b hab
    have ha := h a (hab.subset (by simp))
    have hb := h b (hab.subset (by simp))
    omega
  top := fun i w hi hw e m => by
    have h1 := h e m
    have h2 := h w (List.mem_of_getElem? hw)
    omega
  path := fun e m => by
    obtain ⟨h1, h2⟩ := h e m
    refine ⟨by omega, ?_⟩
    rw [h1, Nat.sub_self]; exact h2
  start := hs
  done := fun i hi => by omega
  le := Nat.zero_le _
/-- how far -/
def Dst (W0 : α → Prop) (asks : α → List α) (k0 : Nat) (p : α) (k : Nat) : Prop := k0 ≤ k ∧ Rch W0 asks (k - k0) p ∧ ∀ m, m < k - k0 → ¬ Rch W0 asks m p
theorem Dst.uniq {p : α} {j k : Nat} (h : Dst W0 asks k0 p j) (h2 : Dst W0 asks k0 p k) : j = k := by
  rcases Nat.lt_trichotomy j k with hlt | e | hlt
  · exact absurd h.2.1 (h2.2.2 _ (by have := h.1; have := h2.1; omega))
  · exact e
  · exact absurd h2.2.1 (h.2.2 _ (by have := h.1; have := h2.1; omega))
theorem Dst.ex {p : α} : ∀ {m : Nat}, Rch W0 asks m p → ∃ k, Dst W0 asks k0 p k ∧ k ≤ k0 + m := by
  intro m
  induction m using Nat.strongRecOn with
  | ind m ih =>
    intro h
    by_cases hm : ∃ j, j < m ∧ Rch W0 asks j p
    · obtain ⟨j, hj, hr⟩ := hm
      obtain ⟨k, hk, le⟩ := ih j hj hr
      exact ⟨k, hk, by omega⟩
    · refine ⟨k0 + m, ⟨Nat.le_add_right _ _, by rw [Nat.add_sub_cancel_left]; exact h, fun j hj hr => hm ⟨j, by omega, hr⟩⟩, Nat.le_refl _⟩
/-- at the end all is told, and rightly -/
theorem BI.end {f : List (α × Nat)} (h : BI W0 asks k0 f.length f) {p : α} {k : Nat} : (p, k) ∈ f ↔ Dst W0 asks k0 p k := by
  have full : ∀ m p, Rch W0 asks m p → ∃ k, (p, k) ∈ f ∧ k ≤ k0 + m := by
    intro m
    induction m with
    | zero => intro p hp; exact ⟨k0, h.start p hp, Nat.le_refl _⟩
    | succ m ih =>
      rintro p ⟨q, hq, mp⟩
      obtain ⟨j, mj, lj⟩ := ih q hq
      obtain ⟨i, hi, ei⟩ := List.mem_iff_getElem.mp mj
      obtain ⟨k, mk, lk⟩ := h.done i hi (q, j) (by rw [List.getElem?_eq_getElem hi, ei]) p mp
      exact ⟨k, mk, by simp at lk; omega⟩
  have fn : ∀ {p j k}, (p, j) ∈ f → (p, k) ∈ f → j = k := fun {p j k} h1 h2 => by
    obtain ⟨i1, l1, e1⟩ := List.mem_iff_getElem.mp h1
    obtain ⟨i2, l2, e2⟩ := List.mem_iff_getElem.mp h2
    have nd := List.pairwise_iff_getElem.mp (show (keysB f).Pairwise (· ≠ ·) from h.nd)
    have ke : ∀ i (hi : i < f.length), (keysB f)[i]'(by unfold keysB; rw [List.length_map]; exact hi) = (f[i]).1 := fun i hi => by unfold keysB; rw [List.getElem_map]
    have this : i1 = i2 := by
      have kl : (keysB f).length = f.length := by unfold keysB; rw [List.length_map]
      rcases Nat.lt_trichotomy i1 i2 with hlt | e | hlt
      · exact absurd (by rw [ke i1 l1, ke i2 l2, e1, e2]) (nd i1 i2 (by omega) (by omega) hlt)
      · exact e
      · exact absurd (by rw [ke i1 l1, ke i2 l2, e1, e2]) (nd i2 i1 (by omega) (by omega) hlt)
    subst this
    rw [e1] at e2; cases e2; rfl
  constructor
  · intro m
    obtain ⟨h1, h2⟩ := h.path _ m
    refine ⟨h1, h2, fun j hj hr => ?_⟩
    obtain ⟨k2, m2, l2⟩ := full j p hr
    have := fn m m2
    have hj' : j < k - k0 := hj
    omega
  · rintro ⟨h1, h2, h3⟩
    obtain ⟨k2, m2, l2⟩ := full _ p h2
    obtain ⟨g1, g2⟩ := h.path _ m2
    have : ¬ k2 - k0 < k - k0 := fun z => h3 _ z g2
    have e : k2 = k := by
      have g1' : k0 ≤ k2 := g1
      omega
    rw [← e]; exact m2
end

/-! ### pairs -/
theorem rg_of {l : EF (List D)} {op : List D → Option (List D)} {ρ : List Sl} {ds L : List D} (h : l ρ = .ok ds) (r : op ds = some L) : rgE l op ρ = .ok L := by
  unfold rgE
  rw [h, rb_ok, r]; rfl
abbrev Pr := Int × Int
def rowP (n i : Int) : List Pr := (List.range (n - (i + 1)).toNat).map fun j : Nat => (i, i + 1 + (j : Int))
def prsK (n : Int) (k : Nat) : List Pr := (List.range k).flatMap fun i : Nat => rowP n i
def prs (n : Int) : List Pr := prsK n n.toNat
def prL (ps : List Pr) : List D := ps.map pairT
def InP (n : Int) (p : Pr) : Prop := 0 ≤ p.1 ∧ p.1 < p.2 ∧ p.2 < n
theorem prsK_succ {n : Int} {k : Nat} : prsK n (k + 1) = prsK n k ++ rowP n k := by
  unfold prsK
  rw [List.range_succ, List.flatMap_append]
  simp
theorem mem_prs {n : Int} {p : Pr} : p ∈ prs n ↔ InP n p := by
  unfold prs prsK rowP InP
  rw [List.mem_flatMap]
  constructor
  · rintro ⟨i, hi, m⟩
    obtain ⟨j, hj, rfl⟩ := List.mem_map.mp m
    have h1 := List.mem_range.mp hi
    have h2 := List.mem_range.mp hj
    refine ⟨?_, ?_, ?_⟩ <;> simp only <;> omega
  · rintro ⟨h1, h2, h3⟩
    refine ⟨p.1.toNat, List.mem_range.mpr (by omega), List.mem_map.mpr ⟨(p.2 - p.1 - 1).toNat, List.mem_range.mpr (by omega), ?_⟩⟩
    ext
    · simp only; omega
    · simp only; omega
theorem rowP_len {n i : Int} : (rowP n i).length = (n - (i + 1)).toNat := by unfold rowP; simp
theorem prs_nd {n : Int} : (prs n).Nodup := by
  unfold prs
  have : ∀ k, (prsK n k).Nodup ∧ ∀ p ∈ prsK n k, p.1 < k := by
    intro k
    induction k with
    | zero => exact ⟨List.nodup_nil, fun p m => nomatch m⟩
    | succ k ih =>
      rw [prsK_succ]
      refine ⟨List.nodup_append.mpr ⟨ih.1, ?_, fun a ha b hb e => ?_⟩, fun p m => ?_⟩
      · unfold rowP
        exact List.Pairwise.map _ (fun a b h z => h (by injection z with _ z; omega)) List.nodup_range
      · have h1 := ih.2 a ha
        obtain ⟨j, _, rfl⟩ := List.mem_map.mp hb
        rw [e] at h1; simp only at h1; omega
      · rcases List.mem_append.mp m with m | m
        · have := ih.2 p m; omega
        · obtain ⟨j, _, rfl⟩ := List.mem_map.mp m
          simp only; omega
  exact (this n.toNat).1
theorem prsK_len {n : Int} (h : n ≤ 10) : ∀ k, (prsK n k).length ≤ k * 10
  | 0 => Nat.le_refl _
  | k + 1 => by
    rw [prsK_succ, List.length_append, rowP_len]
    have := prsK_len h k
    omega
theorem prs_len {n : Int} (h : n ≤ 10) : (prs n).length ≤ 100 := by
  have := prsK_len h n.toNat
  unfold prs; omega
theorem prL_len {ps : List Pr} : (prL ps).length = ps.length := by unfold prL; simp
theorem prL_app {a b : List Pr} : prL (a ++ b) = prL a ++ prL b := by unfold prL; rw [List.map_append]
theorem rng_row {n i : Int} : (rngL (i + 1) n).map (fun d => D.tup [.int i, d]) = prL (rowP n i) := by
  unfold rngL prL rowP
  rw [List.map_map, List.map_map]; rfl
section
variable {n : Int} {tb : Tb}
/-! ### led -/
def stp2 (tb : Tb) (p : Pr) (c : Nat) : Option Pr := if stp tb p.1 c = stp tb p.2 c then none else some (if stp tb p.2 c < stp tb p.1 c then stp tb p.2 c else stp tb p.1 c, if stp tb p.2 c > stp tb p.1 c then stp tb p.2 c else stp tb p.1 c)
def optD : Option Pr → D
  | none => .non
  | some p => pairT p
theorem stp2_in (ok : TOk n tb) {p q : Pr} {c : Nat} (h : InP n p) (hc : c ∈ lets tb) (e : stp2 tb p c = some q) : InP n q := by
  obtain ⟨_, a1, a2⟩ := stp_in ok (q := p.1) (c := c) h.1 (by have := h.2.1; have := h.2.2; omega) hc
  obtain ⟨_, b1, b2⟩ := stp_in ok (q := p.2) (c := c) (by have := h.1; have := h.2.1; omega) h.2.2 hc
  unfold stp2 at e
  split at e
  · cases e
  · cases e
    unfold InP
    simp only
    refine ⟨?_, ?_, ?_⟩ <;> split <;> (try split) <;> omega
theorem pr_ix0 {p : Pr} : idxD (pairT p) (.int 0) = some (.int p.1) := rfl
theorem pr_ix1 {p : Pr} : idxD (pairT p) (.int 1) = some (.int p.2) := rfl
end

/-! ### dicts of pairs -/
def pkey (p : Pr) : List Key := [.inl p.1, .inl p.2]
theorem pkey_inj {p q : Pr} (h : pkey p = pkey q) : p = q := by
  unfold pkey at h
  injection h with h1 h2
  injection h2 with h2 _
  injection h1 with h1
  injection h2 with h2
  exact Prod.ext h1 h2
def fdT (f : List (Pr × Nat)) : List (List Key × D) := f.map fun e => (pkey e.1, .int e.2)
theorem fdT_len {f : List (Pr × Nat)} : (fdT f).length = f.length := by unfold fdT; simp
theorem tkey_pr {p : Pr} : tkey [.int p.1, .int p.2] = some (pkey p) := rfl
theorem lk_fdT_no {p : Pr} : ∀ {f : List (Pr × Nat)}, p ∉ keysB f → lk (fdT f) (pkey p) = none
  | [], _ => rfl
  | e :: f, h => by
    unfold keysB at h
    rw [List.map_cons, List.mem_cons, not_or] at h
    unfold fdT
    rw [List.map_cons, lk_cons, if_neg fun z => h.1 (pkey_inj z).symm]
    exact lk_fdT_no h.2
theorem lk_fdT {p : Pr} {k : Nat} : ∀ {f : List (Pr × Nat)}, (keysB f).Nodup → (p, k) ∈ f → lk (fdT f) (pkey p) = some (.int k)
  | [], _, m => (nomatch m)
  | e :: f, nd, m => by
    have nd2 := List.nodup_cons.mp (show (e.1 :: keysB f).Nodup from nd)
    unfold fdT
    rw [List.map_cons, lk_cons]
    rcases List.mem_cons.mp m with rfl | m
    · rw [if_pos rfl]
    · rw [if_neg fun z => nd2.1 (List.mem_map.mpr ⟨(p, k), m, (pkey_inj z).symm⟩)]
      exact lk_fdT nd2.2 m
theorem nin_fdT {f : List (Pr × Nat)} {p : Pr} : ninV (pairT p) (.dT (fdT f)) = some (.bl (decide (p ∉ keysB f))) := by
  have e : (lk (fdT f) (pkey p)).isSome = decide (p ∈ keysB f) := by
    by_cases h : p ∈ keysB f
    · rw [decide_eq_true h]
      have : ∀ {f : List (Pr × Nat)}, p ∈ keysB f → (lk (fdT f) (pkey p)).isSome = true := by
        intro f
        induction f with
        | nil => intro h; exact nomatch h
        | cons e f ih =>
          intro h
          unfold fdT
          rw [List.map_cons, lk_cons]
          split
          · rfl
          · rename_i hn
            refine ih ?_
            unfold keysB at h
            rw [List.map_cons] at h
            rcases List.mem_cons.mp h with h | h
            · exact absurd (by rw [h]) hn
            · exact h
      exact this h
    · rw [decide_eq_false h, lk_fdT_no h]; rfl
  show ((some (lk (fdT f) (pkey p))).map Option.isSome).map (fun b => D.bl (!b)) = _
  rw [Option.map_some, e]
  show some (D.bl (!decide (p ∈ keysB f))) = _
  congr 2
  by_cases h : p ∈ keysB f <;> simp [h]
theorem put_fdT {f : List (Pr × Nat)} {p : Pr} {k : Nat} (h : p ∉ keysB f) : pk (fdT f) (pkey p) (.int k) = fdT (f ++ [(p, k)]) := by
  rw [pk_new (fun m => h ?_)]
  · unfold fdT; rw [List.map_append]; rfl
  · unfold fdT at m
    rw [List.map_map] at m
    obtain ⟨e, me, z⟩ := List.mem_map.mp m
    exact List.mem_map.mpr ⟨e, me, pkey_inj z⟩
theorem idx_fdT {f : List (Pr × Nat)} {p : Pr} {k : Nat} (nd : (keysB f).Nodup) (m : (p, k) ∈ f) : idxD (.dT (fdT f)) (pairT p) = some (.int k) := by
  show (some (lk (fdT f) (pkey p))).bind id = _
  rw [lk_fdT nd m]; rfl
theorem get_fdT {f : List (Pr × Nat)} {p : Pr} {x : D} : getD3 (.dT (fdT f)) (pairT p) x = some ((lk (fdT f) (pkey p)).getD x) := rfl
/-! ### who asks -/
def akO : Option Pr → AK
  | none => .non
  | some p => .tup [p.1, p.2]
theorem akO_inj {a b : Option Pr} (h : akO a = akO b) : a = b := by
  cases a <;> cases b
  · rfl
  · cases h
  · cases h
  · injection h with h
    injection h with h1 h2
    injection h2 with h2 _
    exact congrArg some (Prod.ext h1 h2)
theorem akD_opt {o : Option Pr} : akD (optD o) = some (akO o) := by cases o <;> rfl
theorem lk_ask {es : List (AK × List D)} {k k' : AK} {x : D} : lk (askP (ask0 es k) k x) k' = if k' = k then some (((lk es k).getD []) ++ [x]) else lk es k' := by
  have mp : ∀ (l : List (AK × List D)), lk (askP l k x) k' = if k' = k then (lk l k).map (· ++ [x]) else lk l k' := by
    intro l
    induction l with
    | nil => unfold askP; split <;> rfl
    | cons p l ih =>
      unfold askP at ih ⊢
      rw [List.map_cons]
      by_cases hp : p.1 = k
      · rw [if_pos hp, lk_cons, lk_cons, lk_cons, if_pos hp]
        by_cases hk : k' = k
        · rw [if_pos hk, if_pos (by show p.1 = k'; rw [hk, hp])]; rfl
        · rw [if_neg hk, if_neg (by show ¬ p.1 = k'; rw [hp]; exact fun z => hk z.symm), if_neg (by rw [hp]; exact fun z => hk z.symm), ih, if_neg hk]
      · rw [if_neg hp, lk_cons, lk_cons, lk_cons, if_neg hp]
        by_cases hk : k' = k
        · rw [if_pos hk, if_neg (by rw [hk]; exact hp), ih, if_pos hk]
        · rw [if_neg hk]
          by_cases hp2 : p.1 = k'
          · rw [if_pos hp2, if_pos hp2]
          · rw [if_neg hp2, if_neg hp2, ih, if_neg hk]
  have ap : ∀ (l : List (AK × List D)) (z : AK), lk (l ++ [(k, ([] : List D))]) z = match lk l z with | some v => some v | none => if k = z then some [] else none := by
    intro l z
    induction l with
    | nil => rw [List.nil_append, lk_cons]; rfl
    | cons p l ih =>
      rw [List.cons_append, lk_cons, lk_cons]
      split
      · rfl
      · exact ih
  have mem : ∀ (l : List (AK × List D)), k ∈ l.map (·.1) ↔ (lk l k).isSome := by
    intro l
    induction l with
    | nil => simp [lk]
    | cons p l ih =>
      rw [List.map_cons, List.mem_cons, lk_cons]
      by_cases hp : p.1 = k
      · rw [if_pos hp]; simp [hp]
      · rw [if_neg hp, ← ih]
        exact ⟨fun h => h.resolve_left fun z => hp z.symm, .inr⟩
  rw [mp]
  by_cases hm : k ∈ es.map (·.1)
  · have e0 : ask0 es k = es := if_pos hm
    rw [e0]
    obtain ⟨v, hv⟩ := Option.isSome_iff_exists.mp ((mem es).mp hm)
    split
    · rw [hv]; rfl
    · rfl
  · have e0 : ask0 es k = es ++ [(k, [])] := if_neg hm
    have hv : lk es k = none := by
      cases h : lk es k with
      | none => rfl
      | some v => exact absurd ((mem es).mpr (by rw [h]; rfl)) hm
    rw [e0, ap, ap, hv]
    by_cases hk : k' = k
    · rw [if_pos hk, if_pos hk]; simp
    · rw [if_neg hk, if_neg hk]
      cases lk es k' with
      | none => simp only; rw [if_neg fun z => hk z.symm]
      | some v => rfl
def asked (tb : Tb) (done : List (Pr × Nat)) (b : Option Pr) : List Pr := (done.filter fun e => decide (stp2 tb e.1 e.2 = b)).map (·.1)
def AskI (tb : Tb) (done : List (Pr × Nat)) (es : List (AK × List D)) : Prop := (∀ b : Option Pr, (lk es (akO b)).getD [] = prL (asked tb done b)) ∧ es.length ≤ done.length ∧ ∀ p ∈ es, p.2.length ≤ done.length
theorem AskI.step {tb : Tb} {done : List (Pr × Nat)} {es : List (AK × List D)} (h : AskI tb done es) (p : Pr) (c : Nat) :
    AskI tb (done ++ [(p, c)]) (askP (ask0 es (akO (stp2 tb p c))) (akO (stp2 tb p c)) (pairT p)) := by
  obtain ⟨h1, h2, h3⟩ := h
  have l0 : (ask0 es (akO (stp2 tb p c))).length ≤ es.length + 1 := by
    unfold ask0; split
    · omega
    · simp
  refine ⟨fun b => ?_, ?_, fun q m => ?_⟩
  · rw [lk_ask]
    unfold asked
    rw [List.filter_append, List.map_append]
    by_cases hb : stp2 tb p c = b
    · rw [if_pos (by rw [hb])]
      have e1 : [(p, c)].filter (fun e => decide (stp2 tb e.1 e.2 = b)) = [(p, c)] := by simp [hb]
      rw [e1, hb, prL_app]
      have := h1 b
      unfold asked at this
      rw [← this]
      rfl
    · rw [if_neg fun z => hb (akO_inj z).symm]
      have e1 : [(p, c)].filter (fun e => decide (stp2 tb e.1 e.2 = b)) = [] := by simp [hb]
      rw [e1, List.map_nil, List.append_nil]
      exact h1 b
  · unfold askP
    rw [List.length_map, List.length_append, List.length_singleton]; omega
  · unfold askP at m
    obtain ⟨q0, m0, rfl⟩ := List.mem_map.mp m
    have hq : q0.2.length ≤ done.length := by
      unfold ask0 at m0
      split at m0
      · exact h3 q0 m0
      · rcases List.mem_append.mp m0 with m0 | m0
        · exact h3 q0 m0
        · rw [List.mem_singleton] at m0; rw [m0]; simp
    rw [List.length_append, List.length_singleton]
    split
    · rw [List.length_append, List.length_singleton]; omega
    · omega
theorem AskI.init {tb : Tb} : AskI tb [] [] := ⟨fun b => rfl, Nat.le_refl _, fun p m => nomatch m⟩
theorem mem_asked {tb : Tb} {done : List (Pr × Nat)} {b : Option Pr} {p : Pr} : p ∈ asked tb done b ↔ ∃ c, (p, c) ∈ done ∧ stp2 tb p c = b := by
  unfold asked
  rw [List.mem_map]
  constructor
  · rintro ⟨e, m, rfl⟩
    obtain ⟨m1, m2⟩ := List.mem_filter.mp m
    exact ⟨e.2, m1, of_decide_eq_true m2⟩
  · rintro ⟨c, m, h⟩
    exact ⟨(p, c), List.mem_filter.mpr ⟨m, decide_eq_true h⟩, rfl⟩

/-! ### pair_levels -/
/-- the pairs that one letter brings together -/
def W0p (n : Int) (tb : Tb) (p : Pr) : Prop := InP n p ∧ ∃ c ∈ lets tb, stp2 tb p c = none
def askS (n : Int) (tb : Tb) (q : Pr) : List Pr := (prs n).filter fun p => (lets tb).any fun c => decide (stp2 tb p c = some q)
theorem mem_askS {n : Int} {tb : Tb} {p q : Pr} : p ∈ askS n tb q ↔ InP n p ∧ ∃ c ∈ lets tb, stp2 tb p c = some q := by
  unfold askS
  rw [List.mem_filter, mem_prs]
  simp
theorem Rch_congr {α : Type} {W0 W0' : α → Prop} {asks asks' : α → List α} (h0 : ∀ p, W0 p ↔ W0' p) (h : ∀ q p, p ∈ asks q ↔ p ∈ asks' q) : ∀ {m : Nat} {p : α}, Rch W0 asks m p ↔ Rch W0' asks' m p
  | 0, p => h0 p
  | m + 1, p => ⟨fun ⟨q, hq, mp⟩ => ⟨q, (Rch_congr h0 h).mp hq, (h q p).mp mp⟩, fun ⟨q, hq, mp⟩ => ⟨q, (Rch_congr h0 h).mpr hq, (h q p).mpr mp⟩⟩
theorem Dst_congr {α : Type} {W0 W0' : α → Prop} {asks asks' : α → List α} {k0 : Nat} (h0 : ∀ p, W0 p ↔ W0' p) (h : ∀ q p, p ∈ asks q ↔ p ∈ asks' q) {p : α} {k : Nat} : Dst W0 asks k0 p k ↔ Dst W0' asks' k0 p k :=
  and_congr Iff.rfl (and_congr (Rch_congr h0 h) (forall_congr' fun m => forall_congr' fun _ => not_congr (Rch_congr h0 h)))
/-- the level of a pair -/
def Lev (n : Int) (tb : Tb) (p : Pr) (k : Nat) : Prop := Dst (W0p n tb) (askS n tb) 1 p k
section
variable {n : Int} {tb : Tb}
theorem dp_pr {i : Nat} {fk fv : EF D} {ρ : List Sl} {f : List (Pr × Nat)} {p : Pr} {k : Nat} (h : ρ[i]? = some (.oT (fdT f))) (hk : fk ρ = .ok (pairT p)) (hv : fv ρ = .ok (.int k)) (hl : f.length < cap) (hn : p ∉ keysB f) : dpF i fk fv ρ = some (.nx (ρ.set i (.oT (fdT (f ++ [(p, k)]))))) := by
  unfold dpF
  rw [hv, lf_ok, h]
  dsimp only
  rw [hk, lf_ok]
  show (match tkey [.int p.1, .int p.2] with | some q => if (fdT f).length < cap then some (Fl.nx (ρ.set i (.oT (pk (fdT f) q (.int k))))) else none | none => none) = _
  rw [tkey_pr]
  dsimp only
  rw [if_pos (by rw [fdT_len]; exact hl), put_fdT hn]
/-- what was built -/
structure BuI (n : Int) (tb : Tb) (done : List (Pr × Nat)) (f : List (Pr × Nat)) (es : List (AK × List D)) : Prop where
  ask : AskI tb done es
  nd : (keysB f).Nodup
  one : ∀ e ∈ f, e.2 = 1
  key : ∀ p, p ∈ keysB f ↔ ∃ c, (p, c) ∈ done ∧ stp2 tb p c = none
def blD (n : Int) (tb : Tb) (f : List (Pr × Nat)) (es : List (AK × List D)) (x4 x5 x6 : Sl) : List Sl := [.dat (hsD n tb), .oT (fdT f), .oA es, .ol (prL (keysB f)), x4, x5, x6, .no]
end

theorem ltr_row {tb : Tb} : ltr tb = rowS (lets tb) := join_sgn _
section
variable {n : Int} {tb : Tb}
def allPC (tb : Tb) (ps : List Pr) : List (Pr × Nat) := ps.flatMap fun p => (lets tb).map fun c => (p, c)
theorem allPC_len (ok : TOk n tb) : ∀ (ps : List Pr), (allPC tb ps).length ≤ ps.length * 5
  | [] => Nat.zero_le _
  | p :: ps => by
    have := allPC_len ok ps
    have l5 : (lets tb).length ≤ 5 := by unfold lets; rw [List.length_map]; exact ok.l2
    unfold allPC at this ⊢
    rw [List.flatMap_cons, List.length_append, List.length_map, List.length_cons]; omega
theorem mem_allPC {ps : List Pr} {p : Pr} {c : Nat} : (p, c) ∈ allPC tb ps ↔ p ∈ ps ∧ c ∈ lets tb := by
  unfold allPC
  rw [List.mem_flatMap]
  constructor
  · rintro ⟨q, mq, m⟩
    obtain ⟨c', mc, e⟩ := List.mem_map.mp m
    injection e with e1 e2
    subst e1; subst e2
    exact ⟨mq, mc⟩
  · rintro ⟨h1, h2⟩
    exact ⟨p, h1, List.mem_map.mpr ⟨c, h2, rfl⟩⟩
/-! ### the loop -/
theorem lk_mapV {κ α β : Type} [DecidableEq κ] {g : α → β} : ∀ {es : List (κ × α)} {k : κ}, lk (es.map fun p => (p.1, g p.2)) k = (lk es k).map g
  | [], k => rfl
  | p :: es, k => by
    rw [List.map_cons, lk_cons, lk_cons]
    split
    · rfl
    · exact lk_mapV
def lpD (n : Int) (tb : Tb) (es : List (AK × List D)) (f : List (Pr × Nat)) (x4 x5 x6 : Sl) (a : Nat) : List Sl :=
  [.dat (hsD n tb), .oT (fdT f), .dat (.dN (es.map fun p => (p.1, .lst p.2))), .ol (prL (keysB f)), x4, x5, x6, .dat (.int a)]
theorem get_ask {done : List (Pr × Nat)} {es : List (AK × List D)} (A : AskI tb done es) (w : Pr) : getD3 (.dN (es.map fun p => (p.1, .lst p.2))) (pairT w) (.lst []) = some (.lst (prL (asked tb done (some w)))) := by
  show (some (akO (some w))).map (fun k => (lk (es.map fun p => (p.1, D.lst p.2)) k).getD (.lst [])) = _
  rw [Option.map_some, lk_mapV (g := D.lst)]
  have := A.1 (some w)
  rw [← this]
  cases lk es (akO (some w)) <;> rfl
end

section
variable {n : Int} {tb : Tb}
theorem at_keys {f : List (Pr × Nat)} {w : Pr × Nat} {a : Nat} (hw : f[a]? = some w) : atI (prL (keysB f)) (a : Int) = some (pairT w.1) := by
  have hal : a < f.length := (List.getElem?_eq_some_iff.mp hw).1
  have h1 : atI (prL (keysB f)) (a : Int) = some ((prL (keysB f))[(a : Int).toNat]'(by rw [prL_len]; unfold keysB; rw [List.length_map]; omega)) := atI_ok (by omega) (by rw [prL_len]; unfold keysB; rw [List.length_map]; omega)
  rw [h1]
  unfold prL keysB
  rw [List.getElem_map, List.getElem_map]
  have := (List.getElem?_eq_some_iff.mp hw).2
  simp only [Int.toNat_natCast, this]
theorem keys_len {f : List (Pr × Nat)} (nd : (keysB f).Nodup) (h : ∀ p ∈ keysB f, InP n p) (n2 : n ≤ 10) : f.length ≤ 100 := by
  have : (keysB f).length ≤ (prs n).length := nd.length_le_of_subset fun p m => mem_prs.mpr (h p m)
  have h2 := prs_len n2
  unfold keysB at this
  rw [List.length_map] at this; omega
theorem asked_in {ps : List Pr} (hp : ∀ p ∈ ps, InP n p) {b : Option Pr} : ∀ q ∈ asked tb (allPC tb ps) b, InP n q := fun q m => by
  obtain ⟨c, m2, _⟩ := mem_asked.mp m
  exact hp q (mem_allPC.mp m2).1
theorem asked_len (ok : TOk n tb) {ps : List Pr} {b : Option Pr} : (asked tb (allPC tb ps) b).length ≤ ps.length * 5 := by
  unfold asked
  rw [List.length_map]
  exact Nat.le_trans (List.length_filter_le _ _) (allPC_len ok ps)
end

end PL

namespace PL
open PySem PySem.Spec L2
/-! ### the law's rounds -/
section
variable {n : Int} {tb : Tb}
theorem lookT_row (ok : TOk n tb) {c : Nat} {rs : List Int} (m : (c, rs) ∈ tb) : lookT tb c = rs := by
  have hc : c ∈ lets tb := List.mem_map.mpr ⟨(c, rs), m, rfl⟩
  have h1 := lk_mvL ok.nd (look_mem hc)
  have h2 := lk_mvL ok.nd m
  rw [h1] at h2
  injection h2 with h2
  injection h2 with h2
  have e : ∀ l : List Int, (iL l).map intOf = l := fun l => by
    unfold iL; rw [List.map_map]; exact (List.map_congr_left fun a _ => rfl).trans (List.map_id _)
  have := congrArg (List.map intOf) h2
  rwa [e, e] at this
def mqP (tb : Tb) (p : Pr) (c : Nat) : Pr := (if stp tb p.2 c < stp tb p.1 c then stp tb p.2 c else stp tb p.1 c, if stp tb p.2 c > stp tb p.1 c then stp tb p.2 c else stp tb p.1 c)
theorem stp2_mq {p : Pr} {c : Nat} : stp2 tb p c = if stp tb p.1 c = stp tb p.2 c then none else some (mqP tb p c) := rfl
def nearN (f : List (Pr × Nat)) (q : Pr) (t : Nat) : Int := match lk (fdT f) (pkey q) with
  | some (.int k) => k
  | _ => t
def lvD (tb : Tb) (f : List (Pr × Nat)) (left : List Pr) (s3 : Sl) (t : Nat) (x5 x6 x7 x8 x9 x10 : Sl) : List Sl :=
  [.dat (.lst (tbL tb)), .oT (fdT f), .dat (.lst (prL left)), s3, .dat (.int (t : Nat)), x5, x6, x7, x8, x9, x10]
/-- the row c says that p is led to what was told the turn before -/
def Cnd (tb : Tb) (f : List (Pr × Nat)) (t : Nat) (p : Pr) (c : Nat) : Prop := (stp tb p.1 c = stp tb p.2 c ∧ t = 1) ∨ (stp tb p.1 c ≠ stp tb p.2 c ∧ nearN f (mqP tb p c) t = (t : Int) - 1)
instance {tb f t p c} : Decidable (Cnd tb f t p c) := by unfold Cnd; infer_instance
theorem lk_fdT_int {q : Pr} : ∀ {f : List (Pr × Nat)}, lk (fdT f) (pkey q) = none ∨ ∃ k : Nat, lk (fdT f) (pkey q) = some (.int k)
  | [] => .inl rfl
  | e :: f => by
    unfold fdT
    rw [List.map_cons, lk_cons]
    split
    · exact .inr ⟨e.2, rfl⟩
    · exact lk_fdT_int
def okSl : Sl → Bool
  | .no => true
  | .dat _ => true
  | _ => false
/-- the pairs that are told this turn -/
def CndP (tb : Tb) (f : List (Pr × Nat)) (t : Nat) (p : Pr) : Bool := decide (∃ r ∈ tb, Cnd tb f t p r.1)
end

section
variable {n : Int} {tb : Tb}
structure RI (n : Int) (tb : Tb) (f : List (Pr × Nat)) (left fr : List Pr) (t : Nat) : Prop where
  nd : (keysB f).Nodup
  mem : ∀ p k, (p, k) ∈ f ↔ Lev n tb p k ∧ k ≤ t
  left : left = (prs n).filter fun p => decide (p ∉ keysB f)
  fr : fr = [] → ∀ p k, Lev n tb p k → k ≤ t
theorem Lev_in {p : Pr} {k : Nat} (h : Lev n tb p k) : InP n p ∧ 1 ≤ k := by
  refine ⟨?_, h.1⟩
  have := h.2.1
  revert this
  cases k - 1 with
  | zero => exact fun h => h.1
  | succ m => exact fun ⟨q, _, mq⟩ => (mem_askS.mp mq).1
theorem near_eq {f : List (Pr × Nat)} (nd : (keysB f).Nodup) {q : Pr} {t : Nat} : ((∃ k, (q, k) ∈ f ∧ nearN f q t = k) ∨ (q ∉ keysB f ∧ nearN f q t = t)) := by
  by_cases h : q ∈ keysB f
  · obtain ⟨k, m⟩ := keysB_mem h
    refine .inl ⟨k, m, ?_⟩
    unfold nearN
    rw [lk_fdT nd m]
  · refine .inr ⟨h, ?_⟩
    unfold nearN
    rw [lk_fdT_no h]
/-- who is told this turn has just this level -/
theorem cnd_iff (ok : TOk n tb) {f : List (Pr × Nat)} {left fr : List Pr} {t : Nat} (R : RI n tb f left fr t) {p : Pr} (hp : InP n p) (hn : p ∉ keysB f) : CndP tb f (t + 1) p = true ↔ Lev n tb p (t + 1) := by
  have hL : ∀ k, k ≤ t → ¬ Lev n tb p k := fun k hk h => hn (List.mem_map.mpr ⟨(p, k), (R.mem p k).mpr ⟨h, hk⟩, rfl⟩)
  have low : ∀ m, m < t → ¬ Rch (W0p n tb) (askS n tb) m p := fun m hm hr => by
    obtain ⟨k, hk, le⟩ := Dst.ex (k0 := 1) hr
    exact hL k (by omega) hk
  unfold CndP
  rw [decide_eq_true_iff]
  constructor
  · rintro ⟨r, mr, hc⟩
    have hcl : r.1 ∈ lets tb := List.mem_map.mpr ⟨r, mr, rfl⟩
    rcases hc with ⟨h1, h2⟩ | ⟨h1, h2⟩
    · have t0 : t = 0 := by omega
      subst t0
      refine ⟨Nat.le_refl _, ⟨hp, r.1, hcl, ?_⟩, fun m hm => by omega⟩
      rw [stp2_mq, if_pos h1]
    · rcases near_eq R.nd (q := mqP tb p r.1) (t := t + 1) with ⟨k, mk, e⟩ | ⟨_, e⟩
      · rw [e] at h2
        have hk : k = t := by omega
        subst hk
        have lq := ((R.mem _ _).mp mk).1
        have k1 := (Lev_in lq).2
        refine ⟨by omega, ?_, fun m hm => low m (by omega)⟩
        rw [show k + 1 - 1 = (k - 1) + 1 by omega]
        exact ⟨mqP tb p r.1, lq.2.1, mem_askS.mpr ⟨hp, r.1, hcl, by rw [stp2_mq, if_neg h1]⟩⟩
      · rw [e] at h2; omega
  · rintro ⟨h1, h2, h3⟩
    rw [show t + 1 - 1 = t by omega] at h2
    cases t with
    | zero =>
      obtain ⟨_, c, hc, e⟩ := h2
      obtain ⟨r, mr, rfl⟩ := List.mem_map.mp hc
      refine ⟨r, mr, .inl ⟨?_, rfl⟩⟩
      rw [stp2_mq] at e
      split at e
      · assumption
      · cases e
    | succ t =>
      obtain ⟨q, hq, mq⟩ := h2
      obtain ⟨_, c, hc, e⟩ := mem_askS.mp mq
      obtain ⟨r, mr, rfl⟩ := List.mem_map.mp hc
      rw [stp2_mq] at e
      split at e
      · cases e
      · rename_i hne
        injection e with e
        refine ⟨r, mr, .inr ⟨hne, ?_⟩⟩
        rw [e]
        -- q's level
        obtain ⟨k, hk, le⟩ := Dst.ex (k0 := 1) hq
        have hk2 : k = t + 1 := by
          rcases Nat.lt_or_ge k (t + 1) with hlt | hge
          · exfalso
            refine low k (by omega) ?_
            have k1 := hk.1
            rw [show k = (k - 1) + 1 by omega]
            exact ⟨q, hk.2.1, mq⟩
          · omega
        subst hk2
        have mq2 : (q, t + 1) ∈ f := (R.mem _ _).mpr ⟨hk, Nat.le_refl _⟩
        rcases near_eq R.nd (q := q) (t := t + 1 + 1) with ⟨j, mj, ej⟩ | ⟨hno, _⟩
        · have := ((R.mem _ _).mp mj).1
          have : j = t + 1 := this.uniq hk
          rw [ej, this]; omega
        · exact absurd (List.mem_map.mpr ⟨(q, t + 1), mq2, rfl⟩) hno
theorem RI.step (ok : TOk n tb) {f : List (Pr × Nat)} {left fr : List Pr} {t : Nat} (R : RI n tb f left fr t) :
    RI n tb (f ++ (left.filter (CndP tb f (t + 1))).map fun p => (p, t + 1)) (left.filter fun p => decide (p ∉ keysB (f ++ (left.filter (CndP tb f (t + 1))).map fun p => (p, t + 1)))) (left.filter (CndP tb f (t + 1))) (t + 1) := by
  have lm : ∀ p, p ∈ left ↔ InP n p ∧ p ∉ keysB f := fun p => by rw [R.left, List.mem_filter, mem_prs]; simp
  have fm : ∀ p, p ∈ left.filter (CndP tb f (t + 1)) ↔ Lev n tb p (t + 1) := fun p => by
    rw [List.mem_filter, lm]
    constructor
    · rintro ⟨⟨h1, h2⟩, h3⟩; exact (cnd_iff ok R h1 h2).mp h3
    · intro h
      have hi := (Lev_in h).1
      have hn : p ∉ keysB f := fun m => by
        obtain ⟨k, mk⟩ := keysB_mem m
        obtain ⟨h1, h2⟩ := (R.mem _ _).mp mk
        have := h1.uniq h
        omega
      exact ⟨⟨hi, hn⟩, (cnd_iff ok R hi hn).mpr h⟩
  have km : keysB ((left.filter (CndP tb f (t + 1))).map fun p => (p, t + 1)) = left.filter (CndP tb f (t + 1)) := by
    unfold keysB; rw [List.map_map]; exact (List.map_congr_left fun a _ => rfl).trans (List.map_id _)
  have ndl : left.Nodup := by rw [R.left]; exact prs_nd.filter _
  refine ⟨?_, fun p k => ?_, ?_, fun hf p k h => ?_⟩
  · rw [keysB_app, km, List.nodup_append]
    exact ⟨R.nd, ndl.filter _, fun a ha b hb e => by rw [e] at ha; exact ((lm b).mp (List.mem_filter.mp hb).1).2 ha⟩
  · rw [List.mem_append, R.mem]
    constructor
    · rintro (⟨h1, h2⟩ | m)
      · exact ⟨h1, by omega⟩
      · obtain ⟨q, mq, e⟩ := List.mem_map.mp m
        injection e with e1 e2
        subst e1; subst e2
        exact ⟨(fm q).mp mq, Nat.le_refl _⟩
    · rintro ⟨h1, h2⟩
      by_cases hk : k = t + 1
      · subst hk
        exact .inr (List.mem_map.mpr ⟨p, (fm p).mpr h1, rfl⟩)
      · exact .inl ⟨h1, by omega⟩
  · rw [R.left, List.filter_filter]
    refine List.filter_congr fun p m => ?_
    rw [keysB_app]
    by_cases h : p ∈ keysB f <;> simp [h]
  · -- nothing was fresh: nothing is behind
    have no : ∀ p, ¬ Lev n tb p (t + 1) := fun p hp => by
      have := (fm p).mpr hp
      rw [hf] at this; exact nomatch this
    by_cases hk : k ≤ t + 1
    · exact hk
    · exfalso
      -- go down to t + 1
      have down : ∀ (d : Nat) (p : Pr) (k : Nat), k = t + 1 + d → Lev n tb p k → False := by
        intro d
        induction d with
        | zero => intro p k e h; rw [e] at h; exact no p h
        | succ d ih =>
          intro p k e h
          obtain ⟨h1, h2, h3⟩ := h
          rw [e, show t + 1 + (d + 1) - 1 = (t + d) + 1 by omega] at h2
          obtain ⟨q, hq, mq⟩ := h2
          refine ih q (t + 1 + d) rfl ⟨by omega, by rw [show t + 1 + d - 1 = t + d by omega]; exact hq, fun m hm hr => ?_⟩
          exact h3 (m + 1) (by omega) ⟨q, hr, mq⟩
      exact down (k - (t + 1)) p k (by omega) h
end

section
variable {n : Int} {tb : Tb}
theorem still_pr : ∀ {ps : List Pr}, stillL (prL ps) = true
  | [] => rfl
  | p :: ps => by
    show (still (pairT p) && stillL (prL ps)) = true
    rw [still_pr]; rfl
def prOf : D → Pr
  | .tup [.int i, .int j] => (i, j)
  | _ => (0, 0)
theorem prOf_T {p : Pr} : prOf (pairT p) = p := rfl
theorem prL_fm {l : List Pr} {P : Pr → Bool} : (prL l).filterMap (fun d => if P (prOf d) = true then some d else none) = prL (l.filter P) := by
  unfold prL
  rw [List.filterMap_map]
  induction l with
  | nil => rfl
  | cons p l ih =>
    rw [List.filterMap_cons, List.filter_cons]
    by_cases h : P p = true
    · have : ((fun d => if P (prOf d) = true then some d else none) ∘ pairT) p = some (pairT p) := by show (if P (prOf (pairT p)) = true then some (pairT p) else none) = _; rw [prOf_T, if_pos h]
      rw [this, if_pos h, List.map_cons]
      simp only [ih]
    · have : ((fun d => if P (prOf d) = true then some d else none) ∘ pairT) p = none := by show (if P (prOf (pairT p)) = true then some (pairT p) else none) = _; rw [prOf_T, if_neg h]
      rw [this, if_neg h]
      simp only [ih]
end

section
variable {n : Int} {tb : Tb}
theorem pl_pr : ∀ {ps : List Pr}, plL (prL ps) = true
  | [] => rfl
  | p :: ps => by
    show (plE (pairT p) && plL (prL ps)) = true
    rw [pl_pr]; rfl
theorem dep_pr : ∀ {ps : List Pr}, depL (prL ps) ≤ 1
  | [] => Nat.zero_le _
  | p :: ps => by
    have := dep_pr (ps := ps)
    show max (dep (pairT p)) (depL (prL ps)) ≤ 1
    have : dep (pairT p) = 1 := rfl
    omega
theorem deq_pairT {p q : Pr} : deq (pairT p) (pairT q) = (p == q) := by
  show (decide (p.1 = q.1) && (decide (p.2 = q.2) && true)) = _
  rw [Bool.eq_iff_iff]
  simp only [Bool.and_true, Bool.and_eq_true, decide_eq_true_eq, beq_iff_eq]
  exact ⟨fun ⟨h1, h2⟩ => Prod.ext h1 h2, fun h => by rw [h]; exact ⟨rfl, rfl⟩⟩
theorem deq_prL : ∀ {ps qs : List Pr}, deqL (prL ps) (prL qs) = (ps == qs)
  | [], [] => rfl
  | [], _ :: _ => rfl
  | _ :: _, [] => rfl
  | p :: ps, q :: qs => by
    show (deq (pairT p) (pairT q) && deqL (prL ps) (prL qs)) = _
    rw [deq_pairT, deq_prL]; rfl
theorem ne_prL {ps qs : List Pr} : neD (.lst (prL ps)) (.lst (prL qs)) = some (.bl (!(ps == qs))) := by
  have h1 := dep_pr (ps := ps)
  have h2 := dep_pr (ps := qs)
  have h : eqC (.lst (prL ps)) (.lst (prL qs)) = true := by
    show (scP (.lst (prL ps)) (.lst (prL qs)) || (plL (prL ps) && plL (prL qs) && decide (depL (prL ps) + 1 ≤ 64) && decide (depL (prL qs) + 1 ≤ 64))) = true
    rw [pl_pr, pl_pr, decide_eq_true (by omega), decide_eq_true (by omega)]; rfl
  unfold neD
  rw [if_pos h]
  show some (D.bl (!deqL _ _)) = _
  rw [deq_prL]
theorem nin_prL {p : Pr} {ps : List Pr} : ninV (pairT p) (.lst (prL ps)) = some (.bl (decide (p ∉ ps))) := by
  have h2 := dep_pr (ps := ps)
  have hc : ((scF (pairT p) && (prL ps).all fun y => scP y (pairT p)) || (plE (pairT p) && decide (dep (pairT p) ≤ 64) && plL (prL ps) && decide (depL (prL ps) < 64))) = true := by
    rw [pl_pr, decide_eq_true (show depL (prL ps) < 64 by omega)]
    have e1 : plE (pairT p) = true := rfl
    have e2 : dep (pairT p) = 1 := rfl
    rw [e1, e2]; simp
  have e : inD (pairT p) (.lst (prL ps)) = some ((prL ps).any fun y => deq y (pairT p)) := if_pos hc
  show (inD (pairT p) (.lst (prL ps))).map (fun b => D.bl (!b)) = _
  rw [e, Option.map_some]
  congr 2
  rw [Bool.eq_iff_iff]
  unfold prL
  rw [List.any_map]
  simp only [Bool.not_eq_true', List.any_eq_false, Function.comp_def, deq_pairT, decide_eq_true_eq, beq_iff_eq]
  exact ⟨fun h m => h p m rfl, fun h x m e => h (by rw [← e]; exact m)⟩
end

section
variable {n : Int} {tb : Tb}
/-- the letter c leads p on to what has the level k -/
def goodC (n : Int) (tb : Tb) (k : Nat) (p : Pr) (c : Nat) : Prop := (stp2 tb p c = none ∧ k = 0) ∨ ∃ q, stp2 tb p c = some q ∧ Lev n tb q k
open Classical in
noncomputable def fstC (n : Int) (tb : Tb) (k : Nat) (p : Pr) (cs : List Nat) : Option Nat := cs.find? fun c => decide (goodC n tb k p c)
open Classical in
noncomputable def wayN (n : Int) (tb : Tb) : Nat → Pr → List Nat
  | 0, _ => []
  | k + 1, p => match fstC n tb k p (lets tb) with
    | some c => c :: (match stp2 tb p c with
      | none => []
      | some q => wayN n tb k q)
    | none => []
theorem fst_ex {k : Nat} {p : Pr} (h : Lev n tb p (k + 1)) : ∃ c ∈ lets tb, goodC n tb k p c := by
  obtain ⟨h1, h2, h3⟩ := h
  rw [show k + 1 - 1 = k by omega] at h2 h3
  cases k with
  | zero => obtain ⟨_, c, hc, e⟩ := h2; exact ⟨c, hc, .inl ⟨e, rfl⟩⟩
  | succ k =>
    obtain ⟨q, hq, mq⟩ := h2
    obtain ⟨_, c, hc, e⟩ := mem_askS.mp mq
    refine ⟨c, hc, .inr ⟨q, e, by omega, by rw [show k + 1 - 1 = k by omega]; exact hq, fun m hm hr => ?_⟩⟩
    exact h3 (m + 1) (by omega) ⟨q, hr, mq⟩
theorem fst_some {k : Nat} {p : Pr} (h : Lev n tb p (k + 1)) : ∃ c, fstC n tb k p (lets tb) = some c ∧ c ∈ lets tb ∧ goodC n tb k p c := by
  obtain ⟨c0, m0, g0⟩ := fst_ex h
  cases e : fstC n tb k p (lets tb) with
  | none =>
    unfold fstC at e
    have := List.find?_eq_none.mp e c0 m0
    simp [g0] at this
  | some c =>
    unfold fstC at e
    exact ⟨c, rfl, List.mem_of_find?_eq_some e, by simpa using List.find?_some e⟩
theorem way_len : ∀ {k : Nat} {p : Pr}, Lev n tb p k → (wayN n tb k p).length = k ∧ letsIn tb (wayN n tb k p)
  | 0, p, h => by have := (Lev_in h).2; omega
  | k + 1, p, h => by
    obtain ⟨c, e, mc, g⟩ := fst_some h
    unfold wayN
    rw [e]
    dsimp only
    rcases g with ⟨g, k0⟩ | ⟨q, g, hq⟩
    · rw [g]
      subst k0
      exact ⟨rfl, fun z m => by rw [List.mem_singleton] at m; rw [m]; exact mc⟩
    · rw [g]
      obtain ⟨l1, l2⟩ := way_len hq
      exact ⟨by rw [List.length_cons, l1], fun z m => by
        rcases List.mem_cons.mp m with rfl | m
        · exact mc
        · exact l2 z m⟩
/-- the way leads both to one -/
theorem way_one : ∀ {k : Nat} {p : Pr}, Lev n tb p k → gon tb p.1 (wayN n tb k p) = gon tb p.2 (wayN n tb k p)
  | 0, p, h => by have := (Lev_in h).2; omega
  | k + 1, p, h => by
    obtain ⟨c, e, mc, g⟩ := fst_some h
    unfold wayN
    rw [e]
    dsimp only
    rcases g with ⟨g, k0⟩ | ⟨q, g, hq⟩
    · rw [g]
      rw [stp2_mq] at g
      split at g
      · assumption
      · cases g
    · rw [g]
      have ih := way_one hq
      rw [stp2_mq] at g
      split at g
      · cases g
      · injection g with g
        show gon tb (stp tb p.1 c) _ = gon tb (stp tb p.2 c) _
        have e1 : q.1 = if stp tb p.2 c < stp tb p.1 c then stp tb p.2 c else stp tb p.1 c := by rw [← g]; rfl
        have e2 : q.2 = if stp tb p.2 c > stp tb p.1 c then stp tb p.2 c else stp tb p.1 c := by rw [← g]; rfl
        rw [e1, e2] at ih
        by_cases hlt : stp tb p.2 c < stp tb p.1 c
        · rw [if_pos hlt, if_neg (by omega)] at ih; exact ih.symm
        · by_cases hgt : stp tb p.2 c > stp tb p.1 c
          · rw [if_neg hlt, if_pos hgt] at ih; exact ih
          · have : stp tb p.1 c = stp tb p.2 c := by omega
            rw [this]
/-- what is told of the levels -/
structure LvF (n : Int) (tb : Tb) (f : List (Pr × Nat)) : Prop where
  nd : (keysB f).Nodup
  mem : ∀ p k, (p, k) ∈ f ↔ Lev n tb p k
  inn : ∀ p ∈ keysB f, InP n p
theorem lk_lv {f : List (Pr × Nat)} (F : LvF n tb f) {q : Pr} : (∃ k, Lev n tb q k ∧ lk (fdT f) (pkey q) = some (.int k)) ∨ ((∀ k, ¬ Lev n tb q k) ∧ lk (fdT f) (pkey q) = none) := by
  by_cases h : q ∈ keysB f
  · obtain ⟨k, m⟩ := keysB_mem h
    exact .inl ⟨k, (F.mem _ _).mp m, lk_fdT F.nd m⟩
  · exact .inr ⟨fun k hk => h (List.mem_map.mpr ⟨(q, k), (F.mem _ _).mpr hk, rfl⟩), lk_fdT_no h⟩
/-! ### way_of -/
def wyD (n : Int) (tb : Tb) (f : List (Pr × Nat)) (o : Option Pr) (r : List Nat) (x4 x5 x6 : Sl) : List Sl := [.dat (hsD n tb), .dat (.dT (fdT f)), .dat (optD o), .dat (.str (rowS r)), x4, x5, x6]
open Classical in
end

section
variable {n : Int} {tb : Tb}
/-! ### the law's way -/
theorem wayN_none {k : Nat} {p : Pr} {c : Nat} (e : fstC n tb k p (lets tb) = some c) (g : stp2 tb p c = none) : wayN n tb (k + 1) p = [c] := by
  unfold wayN
  rw [e]
  dsimp only
  rw [g]
theorem wayN_some {k : Nat} {p q : Pr} {c : Nat} (e : fstC n tb k p (lets tb) = some c) (g : stp2 tb p c = some q) : wayN n tb (k + 1) p = c :: wayN n tb k q := by
  rw [wayN, e]
  dsimp only
  rw [g]
def lwD (tb : Tb) (f : List (Pr × Nat)) (p : Pr) (r : List Nat) (x4 x5 x6 x7 x8 : Sl) : List Sl := [.dat (.lst (tbL tb)), .dat (.dT (fdT f)), .dat (pairT p), .dat (.str (rowS r)), x4, x5, x6, x7, x8]
open Classical in
end

section
variable {n : Int} {tb : Tb}
open Classical in
noncomputable def levN (n : Int) (tb : Tb) (p : Pr) : Nat := if h : ∃ k, Lev n tb p k then h.choose else 0
theorem levN_eq {p : Pr} {k : Nat} (h : Lev n tb p k) : levN n tb p = k := by
  have hx : ∃ k, Lev n tb p k := ⟨k, h⟩
  unfold levN
  rw [dif_pos hx]
  exact hx.choose_spec.uniq h
theorem LvF.key {f : List (Pr × Nat)} (F : LvF n tb f) {p : Pr} : p ∈ keysB f ↔ ∃ k, Lev n tb p k := by
  constructor
  · intro h
    obtain ⟨k, m⟩ := keysB_mem h
    exact ⟨k, (F.mem _ _).mp m⟩
  · rintro ⟨k, h⟩
    exact List.mem_map.mpr ⟨(p, k), (F.mem _ _).mpr h, rfl⟩
theorem LvF.lev {f : List (Pr × Nat)} (F : LvF n tb f) {p : Pr} (h : p ∈ keysB f) : Lev n tb p (levN n tb p) := by
  obtain ⟨k, hk⟩ := F.key.mp h
  rw [levN_eq hk]; exact hk
theorem LvF.len {f : List (Pr × Nat)} (F : LvF n tb f) (n2 : n ≤ 10) : f.length ≤ 100 := keys_len F.nd F.inn n2
theorem lev_leF (ok : TOk n tb) {f : List (Pr × Nat)} (F : LvF n tb f) {p : Pr} {k : Nat} (h : Lev n tb p k) : k ≤ f.length := by
  -- each level below is that of some pair
  have fl := F.len ok.n2
  have all : ∀ (d : Nat) (p : Pr) (k : Nat), k = d + 1 → Lev n tb p k → ∀ j, 1 ≤ j → j ≤ k → ∃ q, (q, j) ∈ f := by
    intro d
    induction d with
    | zero =>
      intro p k e h j h1 h2
      have : j = k := by omega
      subst this
      exact ⟨p, (F.mem _ _).mpr h⟩
    | succ d ih =>
      intro p k e h j h1 h2
      by_cases hj : j = k
      · subst hj; exact ⟨p, (F.mem _ _).mpr h⟩
      · obtain ⟨g1, g2, g3⟩ := h
        rw [e, show d + 1 + 1 - 1 = d + 1 by omega] at g2
        obtain ⟨q, hq, mq⟩ := g2
        refine ih q (d + 1) rfl ⟨by omega, by rw [show d + 1 - 1 = d by omega]; exact hq, fun m hm hr => g3 (m + 1) (by omega) ⟨q, hr, mq⟩⟩ j h1 (by omega)
  have h1 := h.1
  have al := all (k - 1) p k (by omega) h
  have : ((List.range k).map fun j => j + 1).length ≤ (f.map (·.2)).length := by
    refine List.Nodup.length_le_of_subset (List.Pairwise.map _ (fun a b hab e => hab (by omega)) List.nodup_range) fun z m => ?_
    obtain ⟨j, mj, rfl⟩ := List.mem_map.mp m
    have hj := List.mem_range.mp mj
    obtain ⟨q, mq⟩ := al (j + 1) (by omega) (by omega)
    exact List.mem_map.mpr ⟨(q, j + 1), mq, rfl⟩
  rw [List.length_map, List.length_map, List.length_range] at this
  omega
theorem lev_le (ok : TOk n tb) {f : List (Pr × Nat)} (F : LvF n tb f) {p : Pr} {k : Nat} (h : Lev n tb p k) : k ≤ 100 := Nat.le_trans (lev_leF ok F h) (F.len ok.n2)
theorem keys_perm {f g : List (Pr × Nat)} (F : LvF n tb f) (G : LvF n tb g) : (keysB f).Perm (keysB g) :=
  (List.perm_ext_iff_of_nodup F.nd G.nd).mpr fun p => by rw [F.key, G.key]
theorem sort_eq {f g : List (Pr × Nat)} (F : LvF n tb f) (G : LvF n tb g) : sortP (keysB f) = sortP (keysB g) :=
  sortP_uniq (sortP_perm.trans (keys_perm F G)) sortP_pw
theorem keyPairs_fdT : ∀ {f : List (Pr × Nat)}, keyPairs (fdT f) = some (keysB f)
  | [] => rfl
  | e :: f => by
    show (keyPairs (fdT f)).map (fun r => (e.1.1, e.1.2) :: r) = _
    rw [keyPairs_fdT]; rfl
theorem sorted_fdT {f : List (Pr × Nat)} (h : f.length ≤ 1000) : sortedD [.dT (fdT f)] = some (.ol (prL (sortP (keysB f)))) := by
  show (keyPairs (fdT f)).bind (fun ps => if ps.length ≤ cap then some (Sl.ol ((sortP ps).map pairT)) else none) = _
  rw [keyPairs_fdT, Option.bind_some, if_pos (by unfold keysB; rw [List.length_map]; unfold cap; omega)]; rfl
/-! ### stuck -/
def stkL (n : Int) (f : List (Pr × Nat)) : List Pr := (prs n).filter fun p => decide (p ∉ keysB f)
theorem stk_eq {f g : List (Pr × Nat)} (F : LvF n tb f) (G : LvF n tb g) : stkL n f = stkL n g := by
  unfold stkL
  refine List.filter_congr fun p _ => ?_
  have : p ∈ keysB f ↔ p ∈ keysB g := by rw [F.key, G.key]
  by_cases h : p ∈ keysB f
  · have h2 := this.mp h
    simp [h, h2]
  · have h2 : p ∉ keysB g := fun z => h (this.mpr z)
    simp [h, h2]
theorem stk_len (n2 : n ≤ 10) {f : List (Pr × Nat)} : (stkL n f).length ≤ 100 := Nat.le_trans (List.length_filter_le _ _) (prs_len n2)
/-! ### ways -/
noncomputable def wayOf (n : Int) (tb : Tb) (p : Pr) : List Nat := wayN n tb (levN n tb p) p
noncomputable def wyT (n : Int) (tb : Tb) (ps : List Pr) : List (List Key × D) := ps.map fun p => (pkey p, .str (rowS (wayOf n tb p)))
theorem pairsDT_wy : ∀ {ps : List Pr}, pairsDT (ps.map fun p => .tup [pairT p, .str (rowS (wayOf n tb p))]) = some (wyT n tb ps)
  | [] => rfl
  | p :: ps => by
    rw [List.map_cons]
    unfold pairsDT
    rw [pairsDT_wy]
    rfl
theorem mkT_nd {kvs : List (List Key × D)} (nd : (kvs.map (·.1)).Nodup) : mkT kvs = kvs := by
  unfold mkT
  rw [fold_new (by simpa using nd), List.nil_append]
theorem wyT_nd {ps : List Pr} (nd : ps.Nodup) : ((wyT n tb ps).map (·.1)).Nodup := by
  unfold wyT
  rw [List.map_map]
  exact List.Pairwise.map _ (fun a b h z => h (pkey_inj z)) nd
theorem sort_nd {f : List (Pr × Nat)} (nd : (keysB f).Nodup) : (sortP (keysB f)).Nodup := (sortP_perm.nodup_iff).mpr nd
theorem sort_mem {f : List (Pr × Nat)} {p : Pr} : p ∈ sortP (keysB f) ↔ p ∈ keysB f := sortP_perm.mem_iff
theorem sort_len {f : List (Pr × Nat)} : (sortP (keysB f)).length = f.length := by rw [sortP_perm.length_eq]; unfold keysB; rw [List.length_map]
theorem idx_wyT {p : Pr} : ∀ {ps : List Pr}, ps.Nodup → p ∈ ps → idxD (.dT (wyT n tb ps)) (pairT p) = some (.str (rowS (wayOf n tb p)))
  | ps, nd, m => by
    have : ∀ {ps : List Pr}, p ∈ ps → lk (wyT n tb ps) (pkey p) = some (.str (rowS (wayOf n tb p))) := by
      intro ps
      induction ps with
      | nil => intro m; exact nomatch m
      | cons q ps ih =>
        intro m
        unfold wyT
        rw [List.map_cons, lk_cons]
        by_cases h : q = p
        · subst h; rw [if_pos rfl]
        · rw [if_neg fun z => h (pkey_inj z)]
          exact ih ((List.mem_cons.mp m).resolve_left fun z => h z.symm)
    show (some (lk (wyT n tb ps) (pkey p))).bind id = _
    rw [this m]; rfl
theorem keyPairs_wyT : ∀ {ps : List Pr}, keyPairs (wyT n tb ps) = some ps
  | [] => rfl
  | p :: ps => by
    show (keyPairs (wyT n tb ps)).map (fun r => (p.1, p.2) :: r) = _
    rw [keyPairs_wyT]; rfl
theorem sortP_idem {f : List (Pr × Nat)} : sortP (sortP (keysB f)) = sortP (keysB f) := (sortP_uniq (List.Perm.refl _) sortP_pw).symm
theorem sorted_wyT {f : List (Pr × Nat)} (h : f.length ≤ 1000) : sortedD [.dT (wyT n tb (sortP (keysB f)))] = some (.ol (prL (sortP (keysB f)))) := by
  show (keyPairs _).bind (fun ps => if ps.length ≤ cap then some (Sl.ol ((sortP ps).map pairT)) else none) = _
  rw [keyPairs_wyT, Option.bind_some, if_pos (by rw [sort_len]; unfold cap; omega), sortP_idem]; rfl
/-! ### the law's image of a pair -/
theorem sdd_two {x : Int} : (sdd [x, x]).length = 1 := by
  have h1 : (sdd [x, x]).length ≤ [x].length := (nodup_pw sdd_pw).length_le_of_subset fun z h => by
    have := mem_sdd.mp h
    simpa using this
  have h2 : 0 < (sdd [x, x]).length := List.length_pos_iff.mpr fun h => by
    have : x ∈ sdd [x, x] := mem_sdd.mpr (by simp)
    rw [h] at this; exact nomatch this
  simp at h1
  omega
end

end PL

namespace PL
open PySem PySem.Spec L2
/-! ### images of all sets -/
theorem rg_ofS {l : EF (List D)} {op : List D → Option (List D)} {ρ : List Sl} {ds L : List D} (h : l ρ = .ok ds) (r : op ds = some L) : rgE l op ρ = .ok L := by
  unfold rgE
  rw [h, rb_ok, r]; rfl
def natL (l : List Nat) : List D := l.map fun b : Nat => .int b
theorem natL_len {l : List Nat} : (natL l).length = l.length := by unfold natL; simp
def imL (rs : List Int) (k : Nat) : List D := natL ((List.range k).map (imB rs))
theorem imL_len {rs : List Int} {k : Nat} : (imL rs k).length = k := by unfold imL; rw [natL_len]; simp
theorem imL_at {rs : List Int} {k b : Nat} (h : b < k) : atI (imL rs k) (b : Int) = some (.int (imB rs b)) := by
  have h1 : atI (imL rs k) (b : Int) = some ((imL rs k)[(b : Int).toNat]'(by rw [imL_len]; omega)) := atI_ok (by omega) (by rw [imL_len]; omega)
  rw [h1]
  simp [imL, natL]
theorem imL_succ {rs : List Int} {k : Nat} : imL rs (k + 1) = imL rs k ++ [.int (imB rs k)] := by
  unfold imL natL
  rw [List.range_succ, List.map_append, List.map_append]; rfl
theorem cpow1 {j : Int} (h : 0 ≤ j) (h2 : j ≤ 1000) : CPow 1 j := ⟨h, by omega, by decide⟩
theorem two_pow_int {j : Nat} : (2 : Int) ^ ((j : Int)).toNat = ((2 ^ j : Nat) : Int) := by rw [Int.toNat_natCast]; simp
theorem pow10 {n : Nat} (h : n ≤ 10) : 2 ^ n ≤ 1024 := Nat.le_trans (Nat.pow_le_pow_right (by decide) h) (by decide)
theorem rng_from1 {m : Nat} : rngL 1 (m : Int) = (List.range (m - 1)).map fun k : Nat => D.int ((k + 1 : Nat) : Int) := by
  unfold rngL
  rw [show ((m : Int) - 1).toNat = m - 1 by omega]
  exact List.map_congr_left fun k _ => by congr 1; omega
theorem img_turn {rs : List Int} (hr : ∀ r ∈ rs, 0 ≤ r ∧ r < 10) (hl : rs.length ≤ 10) {b : Nat} (h0 : b ≠ 0) (hb : b < 2 ^ rs.length) (x3 : Sl) : ∃ y3, B_images_by_0 [.dat (.tup (iL rs)), .ol (imL rs b), .dat (.int (b : Int)), x3] = some (.nx [.dat (.tup (iL rs)), .ol (imL rs (b + 1)), .dat (.int (b : Int)), y3]) := by
  obtain ⟨t1, t2, t3⟩ := top_bit h0
  have hlog := log2_lt_of h0 hb
  have p10 := pow10 hl
  have ib : Builtin.Int.intBits (b : Int) = b.log2 + 1 := by
    unfold Builtin.Int.intBits
    rw [if_neg (by simp; omega)]
    simp
  have bi : bitsD (.int (b : Int)) = some (.int ((b.log2 : Int) + 1)) := by
    show some (D.int (Builtin.Int.intBits (b : Int) : Nat)) = _
    rw [ib]; rfl
  have hm : rs.getD b.log2 0 ∈ rs := by
    rw [List.getD_eq_getElem?_getD, List.getElem?_eq_getElem hlog]
    exact List.getElem_mem _
  have hq := hr _ hm
  have ir : idxD (.tup (iL rs)) (.int (b.log2 : Int)) = some (.int (rs.getD b.log2 0)) := by
    show atI (iL rs) _ = _
    refine atI_iL ?_
    rw [atI_ok (by omega) (by omega), List.getD_eq_getElem?_getD, List.getElem?_eq_getElem hlog]; rfl
  have c1 : CPow 1 (b.log2 : Int) := cpow1 (by omega) (by omega)
  have c2 : CPow 1 (rs.getD b.log2 0) := cpow1 (by omega) (by omega)
  have e1 : (2 : Int) ^ ((b.log2 : Int)).toNat = ((2 ^ b.log2 : Nat) : Int) := two_pow_int
  have ex : Builtin.bitXor (b : Int) ((2 ^ b.log2 : Nat) : Int) = ((b - 2 ^ b.log2 : Nat) : Int) := bxor_top t1
  have pos : 0 < 2 ^ b.log2 := Nat.two_pow_pos _
  have ia := imL_at (rs := rs) (k := b) (b := b - 2 ^ b.log2) (by omega)
  have e2 : (2 : Int) ^ (rs.getD b.log2 0).toNat = ((2 ^ (rs.getD b.log2 0).toNat : Nat) : Int) := by simp
  have eo : Builtin.bitOr ((imB rs (b - 2 ^ b.log2) : Nat) : Int) ((2 ^ (rs.getD b.log2 0).toNat : Nat) : Int) = ((imB rs b : Nat) : Int) := by
    rw [bor_nat, ← imB_step h0 hlog]
  have al : (imL rs b).length < cap := by rw [imL_len]; unfold cap; omega
  refine ⟨.dat (.int (b.log2 : Int)), ?_⟩
  rw [imL_succ]
  have sh1 : shlD (.int 1) (.int (b.log2 : Int)) = some (.int ((2 ^ b.log2 : Nat) : Int)) := by
    show (if CPow 1 (b.log2 : Int) then some (D.int (1 * 2 ^ (b.log2 : Int).toNat)) else none) = _
    rw [if_pos c1, e1, Int.one_mul]
  have sh2 : shlD (.int 1) (.int (rs.getD b.log2 0)) = some (.int ((2 ^ (rs.getD b.log2 0).toNat : Nat) : Int)) := by
    show (if CPow 1 (rs.getD b.log2 0) then some (D.int (1 * 2 ^ (rs.getD b.log2 0).toNat)) else none) = _
    rw [if_pos c2, e2, Int.one_mul]
  generalize ((2 ^ b.log2 : Nat) : Int) = u at sh1 ex ia
  generalize ((2 ^ (rs.getD b.log2 0).toNat : Nat) : Int) = v at sh2 eo
  generalize rs.getD b.log2 0 = q at ir sh2
  simp [B_images_by_0, bi, -d_opIC, sh1, sh2, ixoE, intD, ex, ia, ir, eo, appO, al]
theorem m_images_by {rs : List Int} (hr : ∀ r ∈ rs, 0 ≤ r ∧ r < 10) (hl : rs.length ≤ 10) : M_images_by [.tup (iL rs)] = .ok (.ol (imL rs (2 ^ rs.length))) := by
  have p10 := pow10 hl
  have pos : 0 < 2 ^ rs.length := Nat.two_pow_pos _
  have c1 : CPow 1 (rs.length : Int) := cpow1 (by omega) (by omega)
  have e1 : (2 : Int) ^ ((rs.length : Int)).toNat = ((2 ^ rs.length : Nat) : Int) := two_pow_int
  have sh1 : shlD (.int 1) (.int (rs.length : Int)) = some (.int ((2 ^ rs.length : Nat) : Int)) := by
    show (if CPow 1 (rs.length : Int) then some (D.int (1 * 2 ^ (rs.length : Int).toNat)) else none) = _
    rw [if_pos c1, e1, Int.one_mul]
  have r2 : rng2D [.int 1, .int ((2 ^ rs.length : Nat) : Int)] = some (rngL 1 ((2 ^ rs.length : Nat) : Int)) := rng2_ok (by omega) (by omega) (by omega) (by omega)
  generalize hN : 2 ^ rs.length = N at *
  have im0 : imL rs 1 = [.int 0] := by
    show [D.int ((imB rs 0 : Nat) : Int)] = _
    rw [imB_zero]; rfl
  obtain ⟨ρ', ef, x2, x3, rfl⟩ := forF_run (l := rgE (consL (cE (.int 1)) (consL (bin (cE (.int 1)) (ca (consL (varE 0) nilL) lenD) shlD) nilL)) rng2D) (b := bN 2) (F := B_images_by_0) (ρ := [.dat (.tup (iL rs)), .ol [.int 0], .no, .no]) (ds := rngL 1 (N : Int))
    (fun pre ρ => ∃ x2 x3, ρ = [.dat (.tup (iL rs)), .ol (imL rs (pre.length + 1)), x2, x3]) (rg_ofS (ds := [.int 1, .int (N : Int)]) (by simp [iL_len, -d_opIC, sh1]) r2) ⟨.no, .no, by rw [← im0]; rfl⟩ fun pre d post ρ e hp => by
      obtain ⟨x2, x3, rfl⟩ := hp
      have hi : pre.length < N - 1 := by
        have := congrArg List.length e
        rw [rng_len, List.length_append, List.length_cons] at this; omega
      have hd : d = .int ((pre.length + 1 : Nat) : Int) := by
        have h1 : (rngL 1 (N : Int))[pre.length]? = some d := by rw [e]; simp
        rw [rng_from1, List.getElem?_map, List.getElem?_range hi, Option.map_some] at h1
        exact (Option.some.inj h1).symm
      subst hd
      obtain ⟨y3, et⟩ := img_turn hr hl (b := pre.length + 1) (by omega) (by rw [hN]; omega) x3
      exact ⟨_, _, rfl, et, _, y3, by rw [List.length_append]; rfl⟩
  have hlen : (rngL 1 (N : Int)).length + 1 = N := by rw [rng_len]; omega
  rw [hlen] at ef
  simp [M_images_by, F_images_by, bodyM, one_cap, ef, rtvF]

/-! ### dicts of numbers -/
section
variable {n : Int} {tb : Tb}
def imD (n : Int) : D → D
  | .tup [_, .tup xs] => .lst (imL (xs.map intOf) (2 ^ n.toNat))
  | d => d
def imsL (n : Int) (tb : Tb) : List D := tb.map fun p => .lst (imL p.2 (2 ^ n.toNat))
theorem int_iL {rs : List Int} : (iL rs).map intOf = rs := by
  unfold iL; rw [List.map_map]; exact (List.map_congr_left fun a _ => rfl).trans (List.map_id _)
theorem m_images_row (ok : TOk n tb) {p : Nat × List Int} (m : p ∈ tb) : M_images_by [.tup (iL p.2)] = .ok (.ol (imL p.2 (2 ^ n.toNat))) := by
  obtain ⟨h1, h2⟩ := ok.rm p m
  have n2 := ok.n2
  have e : n.toNat = p.2.length := by omega
  rw [e]
  exact m_images_by (fun r mr => ⟨(h2 r mr).1, by have := (h2 r mr).2; omega⟩) (by omega)
theorem m_set_images (ok : TOk n tb) : M_set_images [hsD n tb] = .ok (.ol (imsL n tb)) := by
  have e0 : obE "table" (varE 0) nilL [.dat (hsD n tb), .no, .no] = .ok [hsD n tb] := f_ob rfl rfl (by decide +kernel) (by decide +kernel)
  have mt := m_table_ ok
  have e : lcF [1, 2] (srcE (fzE (mcO M_House_table (obE "table" (varE 0) nilL)))) (bT (bsCons (bN 1) (bsCons (bN 2) bsNil))) yesT (fzE (mcO M_images_by (consL (varE 2) nilL))) [.dat (hsD n tb), .no, .no] = .ok (.ol ((tupL tb).map (imD n))) := by
    refine lcF_map _ (by simp [-obE, e0, mt, srcD]) rfl (by unfold tupL cap; rw [List.length_map]; have := ok.l2; omega) fun d m => ?_
    obtain ⟨p, mp, rfl⟩ := List.mem_map.mp m
    have mi := m_images_row ok mp
    simp [lcSt, bT, bsCons, bsNil, bN, wipeS, mi, imD, int_iL]
  have e2 : (tupL tb).map (imD n) = imsL n tb := by
    unfold tupL imsL
    rw [List.map_map]
    refine List.map_congr_left fun p _ => ?_
    show D.lst (imL ((iL p.2).map intOf) _) = _
    rw [int_iL]
  rw [e2] at e
  simp [M_set_images, F_set_images, bodyM, -obE, e]
def fdK (f : List (Nat × Nat)) : List (Key × D) := f.map fun e => (.inl (e.1 : Int), .int e.2)
theorem fdK_len {f : List (Nat × Nat)} : (fdK f).length = f.length := by unfold fdK; simp
theorem kN_inj {a b : Nat} (h : (Sum.inl (a : Int) : Key) = .inl (b : Int)) : a = b := by injection h with h; omega
theorem lk_fdK_no {p : Nat} : ∀ {f : List (Nat × Nat)}, p ∉ keysB f → lk (fdK f) (.inl (p : Int)) = none
  | [], _ => rfl
  | e :: f, h => by
    unfold keysB at h
    rw [List.map_cons, List.mem_cons, not_or] at h
    unfold fdK
    rw [List.map_cons, lk_cons, if_neg fun z => h.1 (kN_inj z).symm]
    exact lk_fdK_no h.2
theorem lk_fdK {p : Nat} {k : Nat} : ∀ {f : List (Nat × Nat)}, (keysB f).Nodup → (p, k) ∈ f → lk (fdK f) (.inl (p : Int)) = some (.int k)
  | [], _, m => (nomatch m)
  | e :: f, nd, m => by
    have nd2 := List.nodup_cons.mp (show (e.1 :: keysB f).Nodup from nd)
    unfold fdK
    rw [List.map_cons, lk_cons]
    rcases List.mem_cons.mp m with rfl | m
    · rw [if_pos rfl]
    · rw [if_neg fun z => nd2.1 (List.mem_map.mpr ⟨(p, k), m, (kN_inj z).symm⟩)]
      exact lk_fdK nd2.2 m
theorem lk_fdK_some {p : Nat} : ∀ {f : List (Nat × Nat)}, p ∈ keysB f → (lk (fdK f) (.inl (p : Int))).isSome = true
  | [], h => nomatch h
  | e :: f, h => by
    unfold fdK
    rw [List.map_cons, lk_cons]
    split
    · rfl
    · rename_i hn
      refine lk_fdK_some ?_
      unfold keysB at h
      rw [List.map_cons] at h
      rcases List.mem_cons.mp h with h | h
      · exact absurd (by rw [h]) hn
      · exact h
theorem nin_fdK {f : List (Nat × Nat)} {p : Nat} : ninV (.int (p : Int)) (.dK (fdK f)) = some (.bl (decide (p ∉ keysB f))) := by
  have e : (lk (fdK f) (.inl (p : Int))).isSome = decide (p ∈ keysB f) := by
    by_cases h : p ∈ keysB f
    · rw [decide_eq_true h]; exact lk_fdK_some h
    · rw [decide_eq_false h, lk_fdK_no h]; rfl
  show ((some (lk (fdK f) (.inl (p : Int)))).map Option.isSome).map (fun b => D.bl (!b)) = _
  rw [Option.map_some, e]
  show some (D.bl (!decide (p ∈ keysB f))) = _
  congr 2
  by_cases h : p ∈ keysB f <;> simp [h]
theorem put_fdK {f : List (Nat × Nat)} {p : Nat} {k : Nat} (h : p ∉ keysB f) : pk (fdK f) (.inl (p : Int)) (.int k) = fdK (f ++ [(p, k)]) := by
  rw [pk_new (fun m => h ?_)]
  · unfold fdK; rw [List.map_append]; rfl
  · unfold fdK at m
    rw [List.map_map] at m
    obtain ⟨e, me, z⟩ := List.mem_map.mp m
    exact List.mem_map.mpr ⟨e, me, kN_inj z⟩
theorem idx_fdK {f : List (Nat × Nat)} {p : Nat} {k : Nat} (nd : (keysB f).Nodup) (m : (p, k) ∈ f) : idxD (.dK (fdK f)) (.int (p : Int)) = some (.int k) := by
  show (some (lk (fdK f) (.inl (p : Int)))).bind id = _
  rw [lk_fdK nd m]; rfl
theorem get_fdK {f : List (Nat × Nat)} {p : Nat} {x : D} : getD3 (.dK (fdK f)) (.int (p : Int)) x = some ((lk (fdK f) (.inl (p : Int))).getD x) := rfl
/-! ### who asks -/
def askN (done : List (Nat × Nat)) (b : Nat) : List Nat := (done.filter fun e => decide (e.2 = b)).map (·.1)
def AskN (done : List (Nat × Nat)) (es : List (AK × List D)) : Prop := (∀ b : Nat, (lk es (.int (b : Int))).getD [] = natL (askN done b)) ∧ es.length ≤ done.length ∧ ∀ p ∈ es, p.2.length ≤ done.length
theorem natL_app {a b : List Nat} : natL (a ++ b) = natL a ++ natL b := by unfold natL; rw [List.map_append]
theorem akN_inj {a b : Nat} (h : (AK.int (a : Int)) = .int (b : Int)) : a = b := by injection h with h; omega
theorem AskN.step {done : List (Nat × Nat)} {es : List (AK × List D)} (h : AskN done es) (p c : Nat) :
    AskN (done ++ [(p, c)]) (askP (ask0 es (.int (c : Int))) (.int (c : Int)) (.int (p : Int))) := by
  obtain ⟨h1, h2, h3⟩ := h
  have l0 : (ask0 es (.int (c : Int))).length ≤ es.length + 1 := by
    unfold ask0; split
    · omega
    · simp
  refine ⟨fun b => ?_, ?_, fun q m => ?_⟩
  · rw [lk_ask]
    unfold askN
    rw [List.filter_append, List.map_append]
    by_cases hb : c = b
    · rw [if_pos (by rw [hb])]
      have e1 : [(p, c)].filter (fun e => decide (e.2 = b)) = [(p, c)] := by simp [hb]
      rw [e1, hb, natL_app]
      have := h1 b
      unfold askN at this
      rw [← this]
      rfl
    · rw [if_neg fun z => hb (akN_inj z).symm]
      have e1 : [(p, c)].filter (fun e => decide (e.2 = b)) = [] := by simp [hb]
      rw [e1, List.map_nil, List.append_nil]
      exact h1 b
  · unfold askP
    rw [List.length_map, List.length_append, List.length_singleton]; omega
  · unfold askP at m
    obtain ⟨q0, m0, rfl⟩ := List.mem_map.mp m
    have hq : q0.2.length ≤ done.length := by
      unfold ask0 at m0
      split at m0
      · exact h3 q0 m0
      · rcases List.mem_append.mp m0 with m0 | m0
        · exact h3 q0 m0
        · rw [List.mem_singleton] at m0; rw [m0]; simp
    rw [List.length_append, List.length_singleton]
    split
    · rw [List.length_append, List.length_singleton]; omega
    · omega
theorem AskN.init : AskN [] [] := ⟨fun b => rfl, Nat.le_refl _, fun p m => nomatch m⟩
theorem mem_askN {done : List (Nat × Nat)} {b p : Nat} : p ∈ askN done b ↔ (p, b) ∈ done := by
  unfold askN
  rw [List.mem_map]
  constructor
  · rintro ⟨e, m, rfl⟩
    obtain ⟨m1, m2⟩ := List.mem_filter.mp m
    have := of_decide_eq_true m2
    rw [← this]; exact m1
  · intro m
    exact ⟨(p, b), List.mem_filter.mpr ⟨m, decide_eq_true rfl⟩, rfl⟩
def abD (n : Int) (tb : Tb) (es : List (AK × List D)) (x2 x3 : Sl) : List Sl := [.dat (hsD n tb), .oA es, x2, x3, .no, .no, .no, .no]
theorem ask_turn {done : List (Nat × Nat)} {es : List (AK × List D)} (A : AskN done es) (hl : done.length ≤ 100000) {im : List D} {b c : Nat} (hi : idxD (.lst im) (.int (b : Int)) = some (.int (c : Int))) :
    B_set_levels_0 (abD n tb es (.dat (.lst im)) (.dat (.int (b : Int)))) = some (.nx (abD n tb (askP (ask0 es (.int (c : Int))) (.int (c : Int)) (.int (b : Int))) (.dat (.lst im)) (.dat (.int (b : Int))))) := by
  obtain ⟨a1, a2, a3⟩ := A
  have lc : es.length < cap := by unfold cap; omega
  have la : ((ask0 es (.int (c : Int))).all fun p => decide (p.2.length < cap)) = true := by
    rw [List.all_eq_true]
    intro q m
    refine decide_eq_true ?_
    unfold ask0 at m
    split at m
    · have := a3 q m; unfold cap; omega
    · rcases List.mem_append.mp m with m | m
      · have := a3 q m; unfold cap; omega
      · rw [List.mem_singleton] at m; rw [m]; unfold cap; simp
  have ed : akD (.int (c : Int)) = some (.int (c : Int)) := rfl
  unfold abD
  simp [B_set_levels_0, askF, hi, ed, lc, la]
def bsI (rs : List Int) (N : Nat) : List (Nat × Nat) := (List.range (N - 1)).map fun k => (k + 1, imB rs (k + 1))
theorem bsI_len {rs : List Int} {N : Nat} : (bsI rs N).length = N - 1 := by unfold bsI; simp
def dn : Sl → Bool
  | .no => true
  | .dat _ => true
  | _ => false
theorem ask_row {done : List (Nat × Nat)} {es : List (AK × List D)} (A : AskN done es) (hl : done.length ≤ 90000) {rs : List Int} {N : Nat} (hN : N ≤ 1024) (h0 : 0 < N) (x3 : Sl) (h3 : dn x3 = true) :
    ∃ es' y3, B_set_levels_1 (abD n tb es (.dat (.lst (imL rs N))) x3) = some (.nx (abD n tb es' (.dat (.lst (imL rs N))) y3)) ∧ dn y3 = true ∧ AskN (done ++ bsI rs N) es' := by
  have r2 : rng2D [.int 1, .int ((N : Nat) : Int)] = some (rngL 1 ((N : Nat) : Int)) := rng2_ok (by omega) (by omega) (by omega) (by omega)
  obtain ⟨ρ', ef, es', y3, rfl, h3, hA⟩ := forF_run (l := rgE (consL (cE (.int 1)) (consL (ca (consL (varE 2) nilL) lenD) nilL)) rng2D) (b := bN 3) (F := B_set_levels_0) (ρ := abD n tb es (.dat (.lst (imL rs N))) x3) (ds := rngL 1 (N : Int))
    (fun pre ρ => ∃ es' y3, ρ = abD n tb es' (.dat (.lst (imL rs N))) y3 ∧ dn y3 = true ∧ AskN (done ++ (bsI rs N).take pre.length) es') (rg_ofS (ds := [.int 1, .int (N : Int)]) (by unfold abD; simp [imL_len]) r2) ⟨es, x3, rfl, h3, by simpa using A⟩ fun pre d post ρ e hp2 => by
      obtain ⟨es', y3, rfl, h3, hA⟩ := hp2
      have hi : pre.length < N - 1 := by
        have := congrArg List.length e
        rw [rng_len, List.length_append, List.length_cons] at this; omega
      have hd : d = .int ((pre.length + 1 : Nat) : Int) := by
        have h1 : (rngL 1 (N : Int))[pre.length]? = some d := by rw [e]; simp
        rw [rng_from1, List.getElem?_map, List.getElem?_range hi, Option.map_some] at h1
        exact (Option.some.inj h1).symm
      subst hd
      have ia : idxD (.lst (imL rs N)) (.int ((pre.length + 1 : Nat) : Int)) = some (.int ((imB rs (pre.length + 1) : Nat) : Int)) := imL_at (by omega)
      have et := ask_turn (n := n) (tb := tb) hA (by rw [List.length_append, List.length_take, bsI_len]; omega) ia
      refine ⟨_, _, rfl, et, _, _, rfl, rfl, ?_⟩
      rw [List.length_append, List.length_singleton, List.take_succ, List.getElem?_eq_getElem (by rw [bsI_len]; exact hi), ← List.append_assoc]
      have eb : (bsI rs N)[pre.length]'(by rw [bsI_len]; exact hi) = (pre.length + 1, imB rs (pre.length + 1)) := by unfold bsI; simp
      rw [eb]
      exact hA.step (pre.length + 1) (imB rs (pre.length + 1))
  have hlen : (rngL 1 (N : Int)).length = (bsI rs N).length := by rw [rng_len, bsI_len]; omega
  rw [hlen, List.take_length] at hA
  exact ⟨es', y3, ef, h3, hA⟩
def allB (n : Int) (tb : Tb) : List (Nat × Nat) := tb.flatMap fun p => bsI p.2 (2 ^ n.toNat)
theorem allB_len (n2 : n ≤ 10) : ∀ {tb : Tb}, (allB n tb).length ≤ tb.length * 1024
  | [] => Nat.zero_le _
  | p :: tb => by
    have := allB_len n2 (tb := tb)
    have p10 := pow10 (n := n.toNat) (by omega)
    unfold allB at this ⊢
    rw [List.flatMap_cons, List.length_append, bsI_len, List.length_cons]; omega
theorem mem_allB {p c : Nat} : (p, c) ∈ allB n tb ↔ 0 < p ∧ p < 2 ^ n.toNat ∧ ∃ r ∈ tb, imB r.2 p = c := by
  unfold allB
  rw [List.mem_flatMap]
  constructor
  · rintro ⟨r, mr, m⟩
    unfold bsI at m
    obtain ⟨k, mk, e⟩ := List.mem_map.mp m
    have := List.mem_range.mp mk
    injection e with e1 e2
    subst e1
    exact ⟨by omega, by omega, r, mr, e2⟩
  · rintro ⟨h1, h2, r, mr, e⟩
    refine ⟨r, mr, List.mem_map.mpr ⟨p - 1, List.mem_range.mpr (by omega), ?_⟩⟩
    rw [show p - 1 + 1 = p by omega, e]
theorem ask_all (ok : TOk n tb) : ∃ es y2 y3, forF (srcE (fzE (mcO M_set_images (consL (varE 0) nilL)))) (bN 2) B_set_levels_1 (abD n tb [] .no .no) = some (.nx (abD n tb es y2 y3)) ∧ dn y3 = true ∧ AskN (allB n tb) es := by
  have ms := m_set_images ok
  have n2 := ok.n2; have l2 := ok.l2
  have p10 := pow10 (n := n.toNat) (by omega)
  have pos : 0 < 2 ^ n.toNat := Nat.two_pow_pos _
  have il : (imsL n tb).length = tb.length := by unfold imsL; simp
  obtain ⟨ρ', ef, es', y2, y3, rfl, h3, hA⟩ := forF_run (l := srcE (fzE (mcO M_set_images (consL (varE 0) nilL)))) (b := bN 2) (F := B_set_levels_1) (ρ := abD n tb [] .no .no) (ds := imsL n tb)
    (fun pre ρ => ∃ es' y2 y3, ρ = abD n tb es' y2 y3 ∧ dn y3 = true ∧ AskN (allB n (tb.take pre.length)) es') (by unfold abD; simp [ms, srcD]) ⟨[], .no, .no, rfl, rfl, AskN.init⟩ fun pre d post ρ e hp2 => by
      obtain ⟨es', y2, y3, rfl, h3, hA⟩ := hp2
      have hi : pre.length < tb.length := by
        have := congrArg List.length e
        rw [il, List.length_append, List.length_cons] at this; omega
      have hd : d = .lst (imL (tb[pre.length]).2 (2 ^ n.toNat)) := by
        have h1 : (imsL n tb)[pre.length]? = some d := by rw [e]; simp
        unfold imsL at h1
        rw [List.getElem?_map, List.getElem?_eq_getElem hi, Option.map_some] at h1
        exact (Option.some.inj h1).symm
      subst hd
      have hlen := allB_len n2 (tb := tb.take pre.length)
      rw [List.length_take] at hlen
      obtain ⟨es2, z3, e2, h4, hA2⟩ := ask_row (n := n) (tb := tb) hA (by omega) (rs := (tb[pre.length]).2) p10 pos y3 h3
      refine ⟨abD n tb es' (.dat (.lst (imL (tb[pre.length]).2 (2 ^ n.toNat)))) y3, _, rfl, e2, es2, _, z3, rfl, h4, ?_⟩
      have : allB n (tb.take (pre ++ [D.lst (imL (tb[pre.length]).2 (2 ^ n.toNat))]).length) = allB n (tb.take pre.length) ++ bsI (tb[pre.length]).2 (2 ^ n.toNat) := by
        rw [List.length_append, List.length_singleton, List.take_succ, List.getElem?_eq_getElem hi]
        unfold allB
        rw [List.flatMap_append]
        simp
      rw [this]
      exact hA2
  rw [il, List.take_length] at hA
  exact ⟨es', y2, y3, ef, h3, hA⟩
end

/-! ### the loop of set_levels -/
section
variable {n : Int} {tb : Tb}
def InB (n : Int) (b : Nat) : Prop := 0 < b ∧ b < 2 ^ n.toNat
def W0b (n : Int) (b : Nat) : Prop := ∃ r, r < n.toNat ∧ b = 2 ^ r
def askB (n : Int) (tb : Tb) (c : Nat) : List Nat := askN (allB n tb) c
theorem mem_askB {p c : Nat} : p ∈ askB n tb c ↔ InB n p ∧ ∃ r ∈ tb, imB r.2 p = c := by
  unfold askB
  rw [mem_askN, mem_allB]
  exact ⟨fun ⟨a, b, c⟩ => ⟨⟨a, b⟩, c⟩, fun ⟨⟨a, b⟩, c⟩ => ⟨a, b, c⟩⟩
theorem W0b_in {b : Nat} (h : W0b n b) : InB n b := by
  obtain ⟨r, hr, rfl⟩ := h
  exact ⟨Nat.two_pow_pos _, Nat.pow_lt_pow_right (by decide) hr⟩
def lsD (n : Int) (tb : Tb) (es : List (AK × List D)) (x2 x3 : Sl) (f : List (Nat × Nat)) (a : Nat) (x7 : Sl) : List Sl :=
  [.dat (hsD n tb), .dat (.dN (es.map fun p => (p.1, .lst p.2))), x2, x3, .ol (natL (keysB f)), .oK (fdK f), .dat (.int a), x7]
theorem get_askN {done : List (Nat × Nat)} {es : List (AK × List D)} (A : AskN done es) (w : Nat) : getD3 (.dN (es.map fun p => (p.1, .lst p.2))) (.int (w : Int)) (.lst []) = some (.lst (natL (askN done w))) := by
  show (some (AK.int (w : Int))).map (fun k => (lk (es.map fun p => (p.1, D.lst p.2)) k).getD (.lst [])) = _
  rw [Option.map_some, lk_mapV (g := D.lst)]
  have := A.1 w
  rw [← this]
  cases lk es (.int (w : Int)) <;> rfl
theorem dp_nK {i : Nat} {fk fv : EF D} {ρ : List Sl} {f : List (Nat × Nat)} {p : Nat} {k : Nat} (h : ρ[i]? = some (.oK (fdK f))) (hk : fk ρ = .ok (.int (p : Int))) (hv : fv ρ = .ok (.int k)) (hl : f.length < cap) (hn : p ∉ keysB f) : dpF i fk fv ρ = some (.nx (ρ.set i (.oK (fdK (f ++ [(p, k)]))))) := by
  unfold dpF
  rw [hv, lf_ok, h]
  dsimp only
  rw [hk, lf_ok]
  show (if (fdK f).length < cap then some (Fl.nx (ρ.set i (.oK (pk (fdK f) (.inl (p : Int)) (.int k))))) else none) = _
  rw [if_pos (by rw [fdK_len]; exact hl), put_fdK hn]
theorem at_natK {f : List (Nat × Nat)} {w : Nat × Nat} {a : Nat} (hw : f[a]? = some w) : atI (natL (keysB f)) (a : Int) = some (.int (w.1 : Int)) := by
  have hal : a < f.length := (List.getElem?_eq_some_iff.mp hw).1
  have h1 : atI (natL (keysB f)) (a : Int) = some ((natL (keysB f))[(a : Int).toNat]'(by rw [natL_len]; unfold keysB; rw [List.length_map]; omega)) := atI_ok (by omega) (by rw [natL_len]; unfold keysB; rw [List.length_map]; omega)
  rw [h1]
  unfold natL keysB
  rw [List.getElem_map, List.getElem_map]
  have := (List.getElem?_eq_some_iff.mp hw).2
  simp only [Int.toNat_natCast, this]
theorem set_inner (es : List (AK × List D)) {w : Nat × Nat} {a : Nat} : ∀ (L : List Nat) (f : List (Nat × Nat)) (x2 x3 x7 : Sl), (keysB f).Nodup → f[a]? = some w → f.length + L.length ≤ 100000 → ∃ y3,
    forGo (bN 3) B_set_levels_2 (natL L) (lsD n tb es x2 x3 f a x7) = some (.nx (lsD n tb es x2 y3 (inn w.2 L f) a x7))
  | [], f, x2, x3, x7, _, _, _ => ⟨x3, rfl⟩
  | p :: L, f, x2, x3, x7, nd, hw, hl => by
    have hal : a < f.length := (List.getElem?_eq_some_iff.mp hw).1
    show ∃ y3, forGo (bN 3) B_set_levels_2 (.int (p : Int) :: natL L) _ = _
    unfold forGo
    rw [show bN 3 (.int (p : Int)) (lsD n tb es x2 x3 f a x7) = some (lsD n tb es x2 (.dat (.int (p : Int))) f a x7) from rfl]
    have nn := nin_fdK (f := f) (p := p)
    have hl2 : f.length + L.length + 1 ≤ 100000 := by simp at hl; omega
    unfold inn
    by_cases hk : p ∈ keysB f
    · have e : B_set_levels_2 (lsD n tb es x2 (.dat (.int (p : Int))) f a x7) = some (.nx (lsD n tb es x2 (.dat (.int (p : Int))) f a x7)) := by
        unfold lsD
        simp [B_set_levels_2, PL.view, nn, hk]
      simp only [e, if_pos hk]
      exact set_inner es L f _ _ x7 nd hw (by omega)
    · have nd2 : (keysB (f ++ [(p, w.2 + 1)])).Nodup := by
        rw [keysB_app, List.nodup_append]
        exact ⟨nd, by simp [keysB], fun x hx y hy z => by simp [keysB] at hy; rw [z, hy] at hx; exact hk hx⟩
      have wm : w ∈ f := List.mem_of_getElem? hw
      have iw : idxD (.lst (natL (keysB f))) (.int a) = some (.int (w.1 : Int)) := at_natK hw
      have il := idx_fdK nd (p := w.1) (k := w.2) wm
      have ev : viewE (bin (bin (varE 5) (bin (varE 4) (varE 6) idxD) idxD) (cE (.int 1)) addD) (lsD n tb es x2 (.dat (.int (p : Int))) f a x7) = .ok (.int ((w.2 + 1 : Nat) : Int)) := by
        unfold lsD
        simp [PL.view, iw, il]
      have edp := dp_nK (i := 5) (fk := varE 3) (fv := viewE (bin (bin (varE 5) (bin (varE 4) (varE 6) idxD) idxD) (cE (.int 1)) addD)) (ρ := lsD n tb es x2 (.dat (.int (p : Int))) f a x7) (k := w.2 + 1) rfl rfl ev (by unfold cap; omega) hk
      have wc : (natL (keysB f)).length < cap := by rw [natL_len]; unfold keysB; rw [List.length_map]; unfold cap; omega
      have ea : natL (keysB (f ++ [(p, w.2 + 1)])) = natL (keysB f) ++ [.int (p : Int)] := by rw [keysB_app, natL_app]; rfl
      have e : B_set_levels_2 (lsD n tb es x2 (.dat (.int (p : Int))) f a x7) = some (.nx (lsD n tb es x2 (.dat (.int (p : Int))) (f ++ [(p, w.2 + 1)]) a x7)) := by
        unfold lsD at edp ⊢
        rw [ea]
        simp [B_set_levels_2, PL.view, nn, hk, -viewE, edp, appO, wc]
      simp only [e, if_neg hk]
      exact set_inner es L _ _ _ x7 nd2 (by rw [List.getElem?_append_left hal]; exact hw) (by rw [List.length_append, List.length_singleton]; omega)
theorem keysN_len {f : List (Nat × Nat)} (nd : (keysB f).Nodup) (h : ∀ p ∈ keysB f, InB n p) (n2 : n ≤ 10) : f.length ≤ 1024 := by
  have : (keysB f).length ≤ (List.range (2 ^ n.toNat)).length := nd.length_le_of_subset fun p m => List.mem_range.mpr (h p m).2
  have p10 := pow10 (n := n.toNat) (by omega)
  unfold keysB at this
  rw [List.length_map, List.length_range] at this; omega
theorem askB_len (ok : TOk n tb) {c : Nat} : (askB n tb c).length ≤ 5 * 1024 := by
  unfold askB askN
  rw [List.length_map]
  have h1 := allB_len ok.n2 (tb := tb)
  have h2 := ok.l2
  refine Nat.le_trans (List.length_filter_le _ _) (by omega)
theorem turn_set (ok : TOk n tb) {es : List (AK × List D)} (A : AskN (allB n tb) es) {f : List (Nat × Nat)} {a : Nat} (B : BI (W0b n) (askB n tb) 0 a f) (hk : ∀ p ∈ keysB f, InB n p) (ha : a < f.length) (x2 x3 x7 : Sl) :
    ∃ f' y3, B_set_levels_3 (lsD n tb es x2 x3 f a x7) = some (.nx (lsD n tb es x2 y3 f' (a + 1) x7)) ∧ BI (W0b n) (askB n tb) 0 (a + 1) f' ∧ ∀ p ∈ keysB f', InB n p := by
  have hw : f[a]? = some f[a] := List.getElem?_eq_getElem ha
  obtain ⟨B2, g, eg⟩ := B.step hw
  have hl := askB_len ok (c := f[a].1)
  have fl := keysN_len B.nd hk ok.n2
  obtain ⟨y3, ei⟩ := set_inner (n := n) (tb := tb) es (askB n tb f[a].1) f x2 x3 x7 B.nd hw (by omega)
  have ea := at_natK hw
  have eq := get_askN A f[a].1
  have es' : srcE (get3 (varE 1) (ixoE 4 (varE 6)) (fzE (lstO nilL))) (lsD n tb es x2 x3 f a x7) = .ok (natL (askB n tb f[a].1)) := by
    unfold lsD
    simp [okDc, ixoE, intD, ea, eq, srcD, askB]
  have ef : forF (srcE (get3 (varE 1) (ixoE 4 (varE 6)) (fzE (lstO nilL)))) (bN 3) B_set_levels_2 (lsD n tb es x2 x3 f a x7) = some (.nx (lsD n tb es x2 y3 (inn f[a].2 (askB n tb f[a].1) f) a x7)) := (for_nx es').trans ei
  refine ⟨_, y3, ?_, B2, fun p m => ?_⟩
  · unfold B_set_levels_3
    rw [seq_nx ef]
    unfold lsD
    simp [auF]
  · obtain ⟨k, mk⟩ := keysB_mem m
    have h := B2.path _ mk
    have : ∀ m q, Rch (W0b n) (askB n tb) m q → InB n q := fun m q h => by
      cases m with
      | zero => exact W0b_in h
      | succ m => obtain ⟨z, _, mz⟩ := h; exact (mem_askB.mp mz).1
    exact this _ _ h.2
/-- the depth of a set -/
def Dep (n : Int) (tb : Tb) (b : Nat) (k : Nat) : Prop := Dst (W0b n) (askB n tb) 0 b k
def sg0 (n : Int) : List (Nat × Nat) := (List.range n.toNat).map fun r => (2 ^ r, 0)
theorem sg0_keys : keysB (sg0 n) = (List.range n.toNat).map fun r => 2 ^ r := by unfold keysB sg0; rw [List.map_map]; rfl
theorem sg0_nd : (keysB (sg0 n)).Nodup := by
  rw [sg0_keys, List.nodup_iff_pairwise_ne, List.pairwise_map]
  refine List.nodup_range.imp fun {a b} h z => h ?_
  rcases Nat.lt_trichotomy a b with hlt | e | hlt
  · have := Nat.pow_lt_pow_right (show 1 < 2 by decide) hlt; omega
  · exact e
  · have := Nat.pow_lt_pow_right (show 1 < 2 by decide) hlt; omega
theorem sg0_len : (sg0 n).length = n.toNat := by unfold sg0; simp
theorem still_nat : ∀ {l : List D}, (∀ d ∈ l, still d = true) → stillL l = true
  | [], _ => rfl
  | d :: l, h => by
    show (still d && stillL l) = true
    rw [h d (List.mem_cons_self ..), still_nat fun e m => h e (List.mem_cons_of_mem _ m)]; rfl
def zD (d : D) : D := .tup [d, .int 0]
theorem pairs_zero : ∀ {l : List Nat}, pairsD ((natL l).map zD) = some (fdK (l.map fun b => (b, 0)))
  | [] => rfl
  | b :: l => by
    show (some _).bind (fun p => (pairsD ((natL l).map zD)).map (p :: ·)) = _
    rw [Option.bind_some, pairs_zero]; rfl
theorem fdK_nd {f : List (Nat × Nat)} (nd : (keysB f).Nodup) : ((fdK f).map (·.1)).Nodup := by
  have : (fdK f).map (·.1) = (keysB f).map fun b : Nat => (Sum.inl (b : Int) : Key) := by unfold fdK keysB; rw [List.map_map, List.map_map]; rfl
  rw [this, List.nodup_iff_pairwise_ne, List.pairwise_map]
  exact nd.imp fun {a b} h z => h (kN_inj z)
theorem m_set_levels (ok : TOk n tb) : ∃ f, M_set_levels [hsD n tb] = .ok (.oK (fdK f)) ∧ (keysB f).Nodup ∧ (∀ p k, (p, k) ∈ f ↔ Dep n tb p k) ∧ ∀ p ∈ keysB f, InB n p := by
  obtain ⟨es, y2, y3, ea, h3, A⟩ := ask_all ok
  have n1 := ok.n1; have n2 := ok.n2
  have BI0 : BI (W0b n) (askB n tb) 0 0 (sg0 n) := BI.init sg0_nd (fun e m => by
    obtain ⟨r, mr, rfl⟩ := List.mem_map.mp m
    exact ⟨rfl, r, List.mem_range.mp mr, rfl⟩) fun p ⟨r, hr, e⟩ => List.mem_map.mpr ⟨r, List.mem_range.mpr hr, by rw [e]⟩
  have hk0 : ∀ p ∈ keysB (sg0 n), InB n p := fun p m => by
    rw [sg0_keys] at m
    obtain ⟨r, mr, rfl⟩ := List.mem_map.mp m
    exact W0b_in ⟨r, List.mem_range.mp mr, rfl⟩
  obtain ⟨⟨f', a'⟩, ρ', ew, ⟨z3, z7, rfl, B', hk'⟩, hg⟩ := whF_run (c := viewT (tru (bin (varE 6) (ca (consL (varE 4) nilL) lenD) ltD))) (F := B_set_levels_3)
    (fun (s : List (Nat × Nat) × Nat) ρ => ∃ x3 x7, ρ = lsD n tb es y2 x3 s.1 s.2 x7 ∧ BI (W0b n) (askB n tb) 0 s.2 s.1 ∧ ∀ p ∈ keysB s.1, InB n p)
    (fun s => decide (s.2 < s.1.length)) (fun s => 1025 - s.2)
    (fun s ρ ⟨x3, x7, e, _, _⟩ => by
      subst e
      unfold lsD
      have hl : (natL (keysB s.1)).length = s.1.length := by rw [natL_len]; unfold keysB; rw [List.length_map]
      simp [PL.view, hl])
    (fun s ρ ⟨x3, x7, e, hB, hk⟩ hgo => by
      subst e
      have ha := of_decide_eq_true hgo
      obtain ⟨f2, y3, e2, hB2, hk2⟩ := turn_set ok A hB hk ha y2 x3 x7
      have := keysN_len hB.nd hk ok.n2
      exact ⟨(f2, s.2 + 1), _, e2, ⟨_, _, rfl, hB2, hk2⟩, by simp only; omega⟩)
    (sg0 n, 0) (lsD n tb es y2 y3 (sg0 n) 0 .no) ⟨_, _, rfl, BI0, hk0⟩
  have hge : a' = f'.length := by
    have := of_decide_eq_false hg
    have := B'.le
    simp only at *
    omega
  have B2 : BI (W0b n) (askB n tb) 0 f'.length f' := by
    have h := B'
    simp only at h
    rw [hge] at h; exact h
  refine ⟨f', ?_, B2.nd, fun p k => B2.end, hk'⟩
  have efz : (fzF 1 (whF (viewT (tru (bin (varE 6) (ca (consL (varE 4) nilL) lenD) ltD))) B_set_levels_3)) [.dat (hsD n tb), .oA es, y2, y3, .ol (natL (keysB (sg0 n))), .oK (fdK (sg0 n)), .dat (.int 0), .no] = some (.nx (lsD n tb es y2 z3 f' a' z7)) := ew
  have e0 : forF (srcE (fzE (mcO M_set_images (consL (varE 0) nilL)))) (bN 2) B_set_levels_1 [.dat (hsD n tb), .oA [], .no, .no, .no, .no, .no, .no] = some (.nx [.dat (hsD n tb), .oA es, y2, y3, .no, .no, .no, .no]) := ea
  have rg := rng1_ok (n := n) (by omega) (by omega)
  have ec : lcF [7] (rgE (consL (fzE (mcO M_House_size (obE "size" (varE 0) nilL))) nilL) rng1D) (bN 7) yesT (bin (cE (.int 1)) (varE 7) shlD) [.dat (hsD n tb), .oA es, y2, y3, .no, .no, .no, .no] = .ok (.ol (natL (keysB (sg0 n)))) := by
    have es0 : obE "size" (varE 0) nilL [.dat (hsD n tb), .oA es, y2, y3, .no, .no, .no, .no] = .ok [hsD n tb] := f_ob rfl rfl (by decide +kernel) (by decide +kernel)
    have msz := m_size (n := n) (tb := tb)
    rw [lcF_map (ds := rngL 0 n) (fun d => .int ((2 ^ (intOf d).toNat : Nat) : Int)) (by simp [-obE, es0, msz, rg]) rfl (by rw [rng_len]; unfold cap; omega) fun d m => by
      obtain ⟨j, rfl, h1, h2⟩ := rng_mem m
      have sh : shlD (.int 1) (.int j) = some (.int ((2 ^ j.toNat : Nat) : Int)) := by
        show (if CPow 1 j then some (D.int (1 * 2 ^ j.toNat)) else none) = _
        rw [if_pos (cpow1 h1 (by omega)), Int.one_mul]; simp
      simp [lcSt, bN, wipeS, -d_opIC, sh, intOf]]
    rw [sg0_keys]
    congr 2
    unfold natL rngL
    rw [List.map_map, List.map_map, show (n - 0).toNat = n.toNat by omega]
    refine List.map_congr_left fun k _ => ?_
    show D.int ((2 ^ (0 + (k : Int)).toNat : Nat) : Int) = .int ((2 ^ k : Nat) : Int)
    rw [show (0 + (k : Int)).toNat = k by omega]
  have hl0 : (natL (keysB (sg0 n))).length ≤ cap := by rw [natL_len]; unfold keysB; rw [List.length_map, sg0_len]; unfold cap; omega
  have ez : ∀ (s1 s2 s4 : Sl), lcF [3] (srcE (varE 4)) (bN 3) yesT (tupE (consL (varE 3) (consL (cE (.int 0)) nilL))) [.dat (hsD n tb), s1, s2, y3, .dat (.lst (natL (keysB (sg0 n)))), s4, .no, .no] = .ok (.ol ((natL (keysB (sg0 n))).map zD)) := fun s1 s2 s4 => by
    refine lcF_map _ (by simp [srcD]) (by cases y3 <;> first | rfl | cases h3) hl0 fun d m => ?_
    simp [lcSt, bN, wipeS, zD, two_cap]
  have ek : dictO [.lst ((natL (keysB (sg0 n))).map zD)] = some (.oK (fdK (sg0 n))) := by
    have e1 : (keysB (sg0 n)).map (fun b => (b, 0)) = sg0 n := by rw [sg0_keys]; unfold sg0; rw [List.map_map]; rfl
    show (pairsD _).map _ = _
    rw [pairs_zero, e1, Option.map_some, mkD_eq (fdK_nd sg0_nd)]
  have hst : stillL ((natL (keysB (sg0 n))).map zD) = true := still_nat fun d m => by
    obtain ⟨e, me, rfl⟩ := List.mem_map.mp m
    unfold natL at me
    obtain ⟨b, _, rfl⟩ := List.mem_map.mp me
    rfl
  have hr : retable (.oK (fdK f')) = true := rfl
  have hy : y3 = .no ∨ ∃ d, y3 = .dat d := by cases y3 <;> first | exact .inl rfl | exact .inr ⟨_, rfl⟩ | cases h3
  rcases hy with rfl | ⟨d3, rfl⟩
  all_goals
    simp [M_set_levels, F_set_levels, bodyM, cO, e0, -obE, -fzF, ec, PL.view, ez, ek, hst, efz, rtvF, lsD, stillS]
end

end PL

namespace PL
open PySem PySem.Spec L2
/-! ### rooms of a set -/
def rmN (b : Nat) : List Nat := (List.range (b.log2 + 1)).filter fun r => b.testBit r
def rmI (b : Nat) : List Int := (rmN b).map fun r : Nat => (r : Int)
theorem bit_lt {b r K : Nat} (h : b < 2 ^ K) (hr : b.testBit r = true) : r < K := by
  rcases Nat.lt_or_ge r K with h2 | h2
  · exact h2
  · have := Nat.testBit_lt_two_pow (Nat.lt_of_lt_of_le h (Nat.pow_le_pow_right (by decide) h2))
    rw [this] at hr; cases hr
theorem mem_rmN {b r : Nat} : r ∈ rmN b ↔ b.testBit r = true := by
  unfold rmN
  rw [List.mem_filter, List.mem_range]
  exact ⟨fun h => h.2, fun h => ⟨bit_lt Nat.lt_log2_self h, h⟩⟩
theorem filt_ext {p : Nat → Bool} : ∀ {a b : Nat}, a ≤ b → (∀ r, a ≤ r → p r = false) → (List.range b).filter p = (List.range a).filter p := by
  intro a b h hp
  induction b with
  | zero => have : a = 0 := by omega
            rw [this]
  | succ b ih =>
    by_cases hb : a = b + 1
    · rw [hb]
    · rw [List.range_succ, List.filter_append, ih (by omega)]
      have : [b].filter p = [] := by rw [List.filter_cons, hp b (by omega)]; rfl
      rw [this, List.append_nil]
theorem rmN_eq {b K : Nat} (h : b < 2 ^ K) : rmN b = (List.range K).filter fun r => b.testBit r := by
  have h1 : ∀ K', b < 2 ^ K' → ∀ r, K' ≤ r → b.testBit r = false := fun K' hK r hr => Nat.testBit_lt_two_pow (Nat.lt_of_lt_of_le hK (Nat.pow_le_pow_right (by decide) hr))
  unfold rmN
  rcases Nat.le_total (b.log2 + 1) K with h2 | h2
  · exact (filt_ext h2 (h1 _ Nat.lt_log2_self)).symm
  · exact filt_ext h2 (h1 _ h)
theorem rmN_top {b k : Nat} (h : b < 2 ^ k) : rmN (2 ^ k + b) = rmN b ++ [k] := by
  rw [rmN_eq (K := k + 1) (by rw [Nat.pow_succ]; omega), rmN_eq h, List.range_succ, List.filter_append]
  have e1 : (2 ^ k + b).testBit k = true := by rw [Nat.testBit_two_pow_add_eq, Nat.testBit_lt_two_pow h]; rfl
  have e2 : [k].filter (fun r => (2 ^ k + b).testBit r) = [k] := by rw [List.filter_cons, if_pos e1]; rfl
  rw [e2]
  congr 1
  exact List.filter_congr fun r m => Nat.testBit_two_pow_add_gt (List.mem_range.mp m) b
theorem rmI_top {b k : Nat} (h : b < 2 ^ k) : rmI (2 ^ k + b) = rmI b ++ [(k : Int)] := by unfold rmI; rw [rmN_top h, List.map_append]; rfl
theorem rmN_inj {a b : Nat} (h : rmN a = rmN b) : a = b := bit_eq fun r => by rw [← mem_rmN, ← mem_rmN, h]
theorem rmI_inj {a b : Nat} (h : rmI a = rmI b) : a = b := by
  refine rmN_inj ?_
  have e : ∀ l : List Nat, (l.map fun r : Nat => (r : Int)).map Int.toNat = l := fun l => by
    rw [List.map_map]; exact (List.map_congr_left fun a _ => by simp).trans (List.map_id _)
  have := congrArg (List.map Int.toNat) h
  unfold rmI at this
  rwa [e, e] at this
theorem rmI_mem {b : Nat} {z : Int} : z ∈ rmI b ↔ ∃ r : Nat, z = r ∧ b.testBit r = true := by
  unfold rmI
  rw [List.mem_map]
  exact ⟨fun ⟨r, m, e⟩ => ⟨r, e.symm, mem_rmN.mp m⟩, fun ⟨r, e, h⟩ => ⟨r, mem_rmN.mpr h, e.symm⟩⟩
theorem rmI_len {b K : Nat} (h : b < 2 ^ K) : (rmI b).length ≤ K := by
  unfold rmI
  rw [List.length_map, rmN_eq h]
  exact Nat.le_trans (List.length_filter_le _ _) (by rw [List.length_range]; exact Nat.le_refl _)
theorem rmN_nd {b : Nat} : (rmN b).Nodup := (List.nodup_range).filter _
theorem rmI_pw {b : Nat} : (rmI b).Pairwise (· < ·) := by
  unfold rmI rmN
  rw [List.pairwise_map]
  exact (List.pairwise_lt_range.filter _).imp fun {a b} h => by omega
theorem rmI_in {b : Nat} {n : Int} (h : b < 2 ^ n.toNat) : ∀ z ∈ rmI b, 0 ≤ z ∧ z < n := fun z m => by
  obtain ⟨r, rfl, hr⟩ := rmI_mem.mp m
  have := bit_lt h hr
  omega
theorem bits_nat {b : Nat} (h0 : b ≠ 0) : bitsD (.int (b : Int)) = some (.int ((b.log2 : Int) + 1)) := by
  have ib : Builtin.Int.intBits (b : Int) = b.log2 + 1 := by
    unfold Builtin.Int.intBits
    rw [if_neg (by simp; omega)]
    simp
  show some (D.int (Builtin.Int.intBits (b : Int) : Nat)) = _
  rw [ib]; rfl
theorem fm_rooms {p : Nat → Bool} : ∀ (l : List Nat), (l.map fun k : Nat => D.int (0 + (k : Int))).filterMap (fun d => cond (p (intOf d).toNat) (some d) none) = iL ((l.filter p).map fun r : Nat => (r : Int))
  | [] => rfl
  | k :: l => by
    have e : (intOf (D.int (0 + (k : Int)))).toNat = k := by show (0 + (k : Int)).toNat = k; omega
    rw [List.map_cons, List.filterMap_cons, e, List.filter_cons]
    cases hk : p k with
    | false => simpa using fm_rooms l
    | true =>
      simp only [cond_true, if_true, List.map_cons]
      rw [fm_rooms l]
      show _ = D.int (k : Int) :: iL _
      rw [show (0 + (k : Int)) = (k : Int) by omega]
theorem rm_turn {b : Nat} {j : Int} (h1 : 0 ≤ j) : lcSt [1] (bN 1) (tru (bin (bin (bin (varE 0) (varE 1) shrD) (cE (.int 1)) andD) (cE (.int 1)) eqD)) (varE 1) [.dat (.int (b : Int)), .no] (.int j) = .ok (cond (b.testBit j.toNat) (some (.int j)) none) := by
  have sh : shrD (.int (b : Int)) (.int j) = some (.int ((b / 2 ^ j.toNat : Nat) : Int)) := by
    show (if 0 ≤ j then some (D.int ((b : Int) / 2 ^ j.toNat)) else none) = _
    rw [if_pos h1]; simp
  have an : Builtin.bitAnd ((b / 2 ^ j.toNat : Nat) : Int) 1 = ((b / 2 ^ j.toNat % 2 : Nat) : Int) := by
    have := band_nat (b / 2 ^ j.toNat) 1
    rw [Nat.and_one_is_mod] at this
    exact this
  have et : (((b / 2 ^ j.toNat % 2 : Nat) : Int) == 1) = b.testBit j.toNat := by
    rw [Nat.testBit_eq_decide_div_mod_eq, Bool.eq_iff_iff, beq_iff_eq, decide_eq_true_iff]
    omega
  rw [← et]
  generalize ((b / 2 ^ j.toNat % 2 : Nat) : Int) = v at an
  generalize ((b / 2 ^ j.toNat : Nat) : Int) = u at sh an
  have ea : andD (.int u) (.int 1) = some (.int v) := by show some (D.int (Builtin.bitAnd u 1)) = _; rw [an]
  clear an
  by_cases hv : v = 1
  · subst hv
    simp [lcSt, bN, wipeS, -d_opIC, -d_opI, sh, ea]
  · have hb : (v == 1) = false := by simpa using hv
    simp [lcSt, bN, wipeS, -d_opIC, -d_opI, sh, ea, hb, hv]
theorem rm_e2 {b : Nat} : ((rngL 0 ((b.log2 : Int) + 1)).filterMap fun d => cond (b.testBit (intOf d).toNat) (some d) none) = iL (rmI b) := by
  have := fm_rooms (p := fun r => b.testBit r) (List.range (b.log2 + 1))
  unfold rngL rmI rmN
  generalize b.log2 = L at *
  rw [show ((L : Int) + 1 - 0).toNat = L + 1 by omega]
  exact this
theorem rm_e {b L : Nat} (bi : bitsD (.int (b : Int)) = some (.int ((L : Int) + 1))) (hl : L < 10) : lcF [1] (rgE (consL (un (varE 0) bitsD) nilL) rng1D) (bN 1) (tru (bin (bin (bin (varE 0) (varE 1) shrD) (cE (.int 1)) andD) (cE (.int 1)) eqD)) (varE 1) [.dat (.int (b : Int)), .no] = .ok (.ol ((rngL 0 ((L : Int) + 1)).filterMap fun d => cond (b.testBit (intOf d).toNat) (some d) none)) := by
  have rg := rng1_ok (n := (L : Int) + 1) (by omega) (by omega)
  refine lcF_fm _ (rg_ofS (ds := [.int ((L : Int) + 1)]) (by simp [bi]) rg) rfl (by rw [rng_len]; unfold cap; omega) fun d m => ?_
  obtain ⟨j, rfl, h1, h2⟩ := rng_mem m
  exact rm_turn h1
theorem body_rto {g : EF Sl} {x : D} {xs : List D} (h : g [.dat x, .no] = .ok (.ol xs)) : bodyM 2 (rtoF g) [x] = .ok (.ol xs) := by simp [bodyM, h]
theorem m_rooms_of {b : Nat} (h0 : b ≠ 0) (hl : b.log2 < 10) : M_rooms_of [.int (b : Int)] = .ok (.ol (iL (rmI b))) :=
  body_rto ((rm_e (bits_nat h0) hl).trans (congrArg (fun z => R.ok (Sl.ol z)) rm_e2))

/-! ### depths -/
section
variable {n : Int} {tb : Tb}
open Classical in
noncomputable def depN (n : Int) (tb : Tb) (b : Nat) : Nat := if h : ∃ k, Dep n tb b k then h.choose else 0
theorem depN_eq {b k : Nat} (h : Dep n tb b k) : depN n tb b = k := by
  have hx : ∃ k, Dep n tb b k := ⟨k, h⟩
  unfold depN
  rw [dif_pos hx]
  exact hx.choose_spec.uniq h
open Classical in
noncomputable def bsA (n : Int) (tb : Tb) : List Nat := (List.range (2 ^ n.toNat)).filter fun b => decide (∃ k, Dep n tb b k)
theorem Rch_inB : ∀ {m : Nat} {b : Nat}, Rch (W0b n) (askB n tb) m b → InB n b
  | 0, b, h => W0b_in h
  | m + 1, b, ⟨q, _, mq⟩ => (mem_askB.mp mq).1
theorem Dep_in {b k : Nat} (h : Dep n tb b k) : InB n b := Rch_inB h.2.1
open Classical in
theorem mem_bsA {b : Nat} : b ∈ bsA n tb ↔ ∃ k, Dep n tb b k := by
  unfold bsA
  rw [List.mem_filter, List.mem_range]
  exact ⟨fun h => of_decide_eq_true h.2, fun h => ⟨(Dep_in h.choose_spec).2, decide_eq_true h⟩⟩
theorem bsA_pw : (bsA n tb).Pairwise (· < ·) := List.pairwise_lt_range.filter _
theorem bsA_nd : (bsA n tb).Nodup := bsA_pw.imp fun {a b} h => Nat.ne_of_lt h
theorem bsA_len (n2 : n ≤ 10) : (bsA n tb).length ≤ 1024 := by
  have p10 := pow10 (n := n.toNat) (by omega)
  unfold bsA
  refine Nat.le_trans (List.length_filter_le _ _) ?_
  rw [List.length_range]; exact p10
def kT (b : Nat) : List Key := (rmI b).map fun z => Sum.inl z
def kI : Key → Int
  | .inl z => z
  | .inr _ => 0
theorem kI_map : ∀ l : List Int, (l.map fun z => (Sum.inl z : Key)).map kI = l
  | [] => rfl
  | z :: l => by rw [List.map_cons, List.map_cons, kI_map l]; rfl
theorem kT_inj {a b : Nat} (h : kT a = kT b) : a = b := by
  refine rmI_inj ?_
  have := congrArg (List.map kI) h
  unfold kT at this
  rwa [kI_map, kI_map] at this
noncomputable def dpT (n : Int) (tb : Tb) : List (List Key × D) := (bsA n tb).map fun b => (kT b, .int (depN n tb b : Int))
theorem dpT_nd : ((dpT n tb).map (·.1)).Nodup := by
  unfold dpT
  rw [List.map_map, List.nodup_iff_pairwise_ne, List.pairwise_map]
  exact bsA_nd.imp fun {a b} h z => h (kT_inj z)
theorem keyInts_fdK : ∀ {f : List (Nat × Nat)}, keyInts (fdK f) = some ((keysB f).map fun b : Nat => (b : Int))
  | [] => rfl
  | e :: f => by
    show (keyInts (fdK f)).map ((e.1 : Int) :: ·) = _
    rw [keyInts_fdK]; rfl
theorem sort_keys {f : List (Nat × Nat)} (nd : (keysB f).Nodup) (hf : ∀ p k, (p, k) ∈ f ↔ Dep n tb p k) : sortI ((keysB f).map fun b : Nat => (b : Int)) = (bsA n tb).map fun b : Nat => (b : Int) := by
  refine (sortI_uniq ?_ ?_).symm
  · refine List.Perm.map _ ((List.perm_ext_iff_of_nodup bsA_nd nd).mpr fun b => ?_)
    rw [mem_bsA]
    constructor
    · rintro ⟨k, h⟩
      exact List.mem_map.mpr ⟨(b, k), (hf b k).mpr h, rfl⟩
    · intro m
      obtain ⟨k, mk⟩ := keysB_mem m
      exact ⟨k, (hf b k).mp mk⟩
  · rw [List.pairwise_map]
    exact bsA_pw.imp fun {a b} h => by omega
theorem tkey_iL : ∀ {l : List Int}, tkey (iL l) = some (l.map fun z => (Sum.inl z : Key))
  | [] => rfl
  | z :: l => by
    show (some (Sum.inl z : Key)).bind (fun k => (tkey (iL l)).map fun ks => k :: ks) = _
    rw [Option.bind_some, tkey_iL]; rfl
noncomputable def dpE (n : Int) (tb : Tb) (b : Nat) : D := .tup [.tup (iL (rmI b)), .int (depN n tb b : Int)]
theorem pairs_dp : ∀ {l : List Nat}, pairsDT (l.map (dpE n tb)) = some (l.map fun b => (kT b, .int (depN n tb b : Int)))
  | [] => rfl
  | b :: l => by
    show (pairDT (dpE n tb b)).bind (fun p => (pairsDT (l.map (dpE n tb))).map (p :: ·)) = _
    have e : pairDT (dpE n tb b) = some (kT b, .int (depN n tb b : Int)) := by
      show (tkey (iL (rmI b))).map (fun k => (k, D.int (depN n tb b : Int))) = _
      rw [tkey_iL]; rfl
    rw [e, Option.bind_some, pairs_dp]; rfl
theorem int_nat {b : Nat} : (intOf (.int (b : Int))).toNat = b := Int.toNat_natCast b
theorem dp_turn {M : Mi} {f : List (Nat × Nat)} {h : D} {b : Int} {k : Int} {L : List D} (er : M [.int b] = .ok (.ol L)) (ei : idxD (.dK (fdK f)) (.int b) = some (.int k)) :
    lcSt [2] (bN 2) yesT (tupE (consL (ca (consL (fzE (mcO M (consL (varE 2) nilL))) nilL) tupleD) (consL (bin (varE 1) (varE 2) idxD) nilL))) [.dat h, .dat (.dK (fdK f)), .no] (.int b) = .ok (some (.tup [.tup L, .int k])) := by
  simp [lcSt, bN, wipeS, er, ei, two_cap, tupleD]
theorem depths_sorted {f : List (Nat × Nat)} (n2 : n ≤ 10) (nd : (keysB f).Nodup) (hf : ∀ p k, (p, k) ∈ f ↔ Dep n tb p k) (hin : ∀ p ∈ keysB f, InB n p) : sortedD [.dK (fdK f)] = some (.ol (natL (bsA n tb))) := by
  have kl : (keysB f).length ≤ cap := by
    have := keysN_len nd hin n2
    unfold keysB cap; rw [List.length_map]; omega
  show (keyInts (fdK f)).bind (fun ns => if ns.length ≤ cap then some (Sl.ol ((sortI ns).map .int)) else none) = _
  rw [keyInts_fdK, Option.bind_some, if_pos (by rw [List.length_map]; exact kl), sort_keys nd hf]
  unfold natL
  rw [List.map_map]; rfl
theorem depths_lc (ok : TOk n tb) {f : List (Nat × Nat)} (nd : (keysB f).Nodup) (hf : ∀ p k, (p, k) ∈ f ↔ Dep n tb p k) (hin : ∀ p ∈ keysB f, InB n p) : lcF [2] (srcE (fzE (cao (consL (varE 1) nilL) sortedD))) (bN 2) yesT (tupE (consL (ca (consL (fzE (mcO M_rooms_of (consL (varE 2) nilL))) nilL) tupleD) (consL (bin (varE 1) (varE 2) idxD) nilL))) [.dat (hsD n tb), .dat (.dK (fdK f)), .no] =
      .ok (.ol ((bsA n tb).map (dpE n tb))) := by
  have n2 := ok.n2
  have es := depths_sorted n2 nd hf hin
  have bl : (natL (bsA n tb)).length ≤ cap := by rw [natL_len]; have := bsA_len n2 (tb := tb); unfold cap; omega
  have em : (natL (bsA n tb)).map (fun d => dpE n tb (intOf d).toNat) = (bsA n tb).map (dpE n tb) := by
    unfold natL
    rw [List.map_map]
    refine List.map_congr_left fun b _ => ?_
    show dpE n tb (intOf (.int (b : Int))).toNat = _
    rw [int_nat]
  rw [← em]
  refine lcF_map _ (by simp [es, srcD]) rfl bl fun d m => ?_
  obtain ⟨b, mb, rfl⟩ := List.mem_map.mp m
  obtain ⟨k, hk⟩ := mem_bsA.mp mb
  obtain ⟨h1, h2⟩ := Dep_in hk
  have h3 := log2_lt_of (b := b) (Nat.ne_of_gt h1) h2
  have h4 : n.toNat ≤ 10 := by omega
  rw [dp_turn (m_rooms_of (Nat.ne_of_gt h1) (Nat.lt_of_lt_of_le h3 h4)) (idx_fdK nd ((hf b k).mpr hk)), int_nat]
  unfold dpE
  rw [depN_eq hk]
theorem depths_dict : dictTO [.lst ((bsA n tb).map (dpE n tb))] = some (.oT (dpT n tb)) := by
  show (pairsDT _).map (fun kvs => Sl.oT (mkT kvs)) = _
  rw [pairs_dp, Option.map_some]
  show some (Sl.oT (mkT (dpT n tb))) = _
  unfold mkT
  rw [fold_new (by rw [List.nil_append]; exact dpT_nd), List.nil_append]
theorem m_depths (ok : TOk n tb) : M_depths [hsD n tb] = .ok (.oT (dpT n tb)) := by
  obtain ⟨f, ef, nd, hf, hin⟩ := m_set_levels ok
  have ec := depths_lc ok nd hf hin
  have ed := depths_dict (n := n) (tb := tb)
  generalize (bsA n tb).map (dpE n tb) = L at ec ed
  generalize dpT n tb = T at ed ⊢
  clear hf hin nd
  simp [M_depths, F_depths, bodyM, ef, ec, ed]
end

/-! ### sets under buttons -/
section
variable {n : Int} {tb : Tb}
theorem lt_uniq {xs ys : List Int} (h1 : xs.Pairwise (· < ·)) (h2 : ys.Pairwise (· < ·)) (h : ∀ z, z ∈ xs ↔ z ∈ ys) : xs = ys := by
  have n1 : xs.Nodup := h1.imp fun {a b} h => Int.ne_of_lt h
  have n2 : ys.Nodup := h2.imp fun {a b} h => Int.ne_of_lt h
  refine List.Perm.eq_of_pairwise (le := (· < ·)) (fun a b _ _ x y => absurd (Int.lt_trans x y) (Int.lt_irrefl _)) h1 h2 ((List.perm_ext_iff_of_nodup n1 n2).mpr fun z => h z)
theorem len1_iff {b : Nat} : (rmI b).length = 1 ↔ ∃ r, b = 2 ^ r := by
  constructor
  · intro h
    unfold rmI at h
    rw [List.length_map] at h
    obtain ⟨r, e⟩ := List.length_eq_one_iff.mp h
    refine ⟨r, bit_eq fun i => ?_⟩
    rw [← mem_rmN, e, Nat.testBit_two_pow, decide_eq_true_iff, List.mem_singleton]
    exact eq_comm
  · rintro ⟨r, rfl⟩
    have : rmI (2 ^ r) = [(r : Int)] := by
      refine lt_uniq rmI_pw (by simp) fun z => ?_
      rw [rmI_mem, List.mem_singleton]
      constructor
      · rintro ⟨q, rfl, hq⟩
        rw [Nat.testBit_two_pow, decide_eq_true_iff] at hq
        rw [hq]
      · rintro rfl
        exact ⟨r, rfl, by rw [Nat.testBit_two_pow, decide_eq_true_iff]⟩
    rw [this]; rfl
theorem W0b_iff {b : Nat} (h : InB n b) : W0b n b ↔ (rmI b).length = 1 := by
  rw [len1_iff]
  constructor
  · rintro ⟨r, _, e⟩; exact ⟨r, e⟩
  · rintro ⟨r, e⟩
    refine ⟨r, ?_, e⟩
    rcases Nat.lt_or_ge r n.toNat with h2 | h2
    · exact h2
    · have := Nat.pow_le_pow_right (show 0 < 2 by decide) h2
      have := h.2
      omega
theorem row_getD {rs : List Int} (hr : ∀ r ∈ rs, 0 ≤ r ∧ r < n) {q : Nat} (hq : q < rs.length) : 0 ≤ rs.getD q 0 ∧ rs.getD q 0 < n := by
  have : rs.getD q 0 ∈ rs := by
    rw [List.getD_eq_getElem?_getD, List.getElem?_eq_getElem hq]
    exact List.getElem_mem _
  exact hr _ this
theorem imB_in (ok : TOk n tb) {r : Nat × List Int} (hr : r ∈ tb) {b : Nat} (hb : InB n b) : InB n (imB r.2 b) := by
  obtain ⟨h1, h2⟩ := ok.rm r hr
  obtain ⟨t1, t2, t3⟩ := top_bit (Nat.ne_of_gt hb.1)
  have hl := log2_lt_of (Nat.ne_of_gt hb.1) hb.2
  have hlt : imB r.2 b < 2 ^ n.toNat := imB_lt fun x m => by have := h2 x m; omega
  refine ⟨?_, hlt⟩
  have hbit : (imB r.2 b).testBit (r.2.getD b.log2 0).toNat = true := imB_bit.mpr ⟨b.log2, by omega, t1, rfl⟩
  refine Nat.pos_of_ne_zero fun z => ?_
  rw [z] at hbit
  simp at hbit
theorem sdd_rm (ok : TOk n tb) {r : Nat × List Int} (hr : r ∈ tb) {b : Nat} (hb : InB n b) : sdd ((rmI b).map fun q => r.2.getD q.toNat 0) = rmI (imB r.2 b) := by
  obtain ⟨h1, h2⟩ := ok.rm r hr
  refine lt_uniq sdd_pw rmI_pw fun z => ?_
  rw [mem_sdd, List.mem_map, rmI_mem]
  constructor
  · rintro ⟨q, mq, rfl⟩
    obtain ⟨k, rfl, hk⟩ := rmI_mem.mp mq
    have hkn := bit_lt hb.2 hk
    have hg := row_getD h2 (q := k) (by omega)
    rw [Int.toNat_natCast]
    exact ⟨(r.2.getD k 0).toNat, by omega, imB_bit.mpr ⟨k, by omega, hk, rfl⟩⟩
  · rintro ⟨k, rfl, hk⟩
    obtain ⟨q, hq, hb2, e⟩ := imB_bit.mp hk
    have hg := row_getD h2 hq
    exact ⟨(q : Int), rmI_mem.mpr ⟨q, rfl, hb2⟩, by rw [Int.toNat_natCast]; omega⟩
/-- what a depth says -/
theorem Dep_zero {b : Nat} (h : W0b n b) : Dep n tb b 0 := ⟨Nat.le_refl _, h, fun m hm => absurd hm (Nat.not_lt_zero _)⟩
theorem Dep_zero' {b : Nat} (h : Dep n tb b 0) : W0b n b := h.2.1
theorem Dep_succ {b k : Nat} (h : Dep n tb b (k + 1)) : ¬ W0b n b ∧ ∃ r ∈ tb, Dep n tb (imB r.2 b) k := by
  obtain ⟨h1, h2, h3⟩ := h
  refine ⟨fun z => h3 0 (by omega) z, ?_⟩
  obtain ⟨q, hq, mq⟩ := h2
  obtain ⟨hb, r, mr, e⟩ := mem_askB.mp mq
  refine ⟨r, mr, ?_⟩
  rw [e]
  refine ⟨Nat.zero_le _, hq, fun m hm hR => ?_⟩
  exact h3 (m + 1) (by omega) ⟨q, hR, mq⟩
theorem Dep_step {b k : Nat} (hb : InB n b) {r : Nat × List Int} (mr : r ∈ tb) (h : Dep n tb (imB r.2 b) k) : ∃ j, Dep n tb b j ∧ j ≤ k + 1 := by
  obtain ⟨j, hj, le⟩ := Dst.ex (W0 := W0b n) (asks := askB n tb) (k0 := 0) (p := b) (m := k + 1) ⟨imB r.2 b, h.2.1, mem_askB.mpr ⟨hb, r, mr, rfl⟩⟩
  exact ⟨j, hj, by omega⟩
end

end PL

namespace PL
open PySem PySem.Spec L2
/-! ### the law's sets -/
section
variable {n : Int} {tb : Tb}
def sTup (b : Nat) : D := .tup (iL (rmI b))
def allS (k : Nat) : List D := (List.range (2 ^ k)).map sTup
theorem allS_len {k : Nat} : (allS k).length = 2 ^ k := by unfold allS; simp
def addR (k : Int) : D → D
  | .tup xs => .tup (xs ++ [.int k])
  | d => d
theorem allS_succ {k : Nat} : allS (k + 1) = allS k ++ (allS k).map (addR (k : Int)) := by
  unfold allS
  rw [Nat.pow_succ, Nat.mul_two, List.range_add, List.map_append, List.map_map, List.map_map]
  congr 1
  refine List.map_congr_left fun b m => ?_
  have hb := List.mem_range.mp m
  show D.tup (iL (rmI (2 ^ k + b))) = .tup (iL (rmI b) ++ [.int (k : Int)])
  rw [rmI_top hb]
  unfold iL
  rw [List.map_append]; rfl
theorem sets_turn {k : Nat} (hk : k < 10) : B__law_sets_0 [.dat (.int n), .dat (.lst (allS k)), .dat (.int (k : Int)), .no] = some (.nx [.dat (.int n), .dat (.lst (allS (k + 1))), .dat (.int (k : Int)), .no]) := by
  have pl : 2 ^ k ≤ 1024 := pow10 (by omega)
  have hl : (allS k).length ≤ cap := by rw [allS_len]; unfold cap; omega
  have e : lcF [3] (srcE (varE 1)) (bN 3) yesT (bin (varE 3) (tupE (consL (varE 2) nilL)) addD) [.dat (.int n), .dat (.lst (allS k)), .dat (.int (k : Int)), .no] = .ok (.ol ((allS k).map (addR (k : Int)))) := by
    refine lcF_map _ (by simp [srcD]) rfl hl fun d m => ?_
    obtain ⟨b, mb, rfl⟩ := List.mem_map.mp m
    have h2 := rmI_len (List.mem_range.mp mb)
    have ea : addD (.tup (iL (rmI b))) (.tup [.int (k : Int)]) = some (.tup (iL (rmI b) ++ [.int (k : Int)])) := by
      show (if (iL (rmI b)).length + 1 ≤ cap then _ else _) = _
      rw [if_pos (by rw [iL_len]; unfold cap; omega)]
    show lcSt _ _ _ _ _ (.tup (iL (rmI b))) = .ok (some (.tup (iL (rmI b) ++ [.int (k : Int)])))
    generalize iL (rmI b) = L at *
    simp [lcSt, bN, wipeS, ea, one_cap]
  have ea : addD (.lst (allS k)) (.lst ((allS k).map (addR (k : Int)))) = some (.lst (allS (k + 1))) := by
    show (if _ then _ else _) = _
    rw [if_pos (by rw [List.length_map, allS_len]; unfold cap; omega), allS_succ]
  generalize allS k = L at *
  generalize allS (k + 1) = L2 at *
  simp [B__law_sets_0, e, ea]
theorem m_lsets (h1 : 1 ≤ n) (h2 : n ≤ 10) : M__law_sets [.int n] = .ok (.ol ((allS n.toNat).drop 1)) := by
  have rg := rng1_ok (n := n) (by omega) (by omega)
  have a0 : allS 0 = [.tup []] := rfl
  obtain ⟨ρ', ef, rfl⟩ : ∃ ρ', forF (rgE (consL (varE 0) nilL) rng1D) (bN 2) B__law_sets_0 [.dat (.int n), .dat (.lst [.tup []]), .no, .no] = some (.nx ρ') ∧ ρ' = [.dat (.int n), .dat (.lst (allS n.toNat)), .dat (.int (n - 1)), .no] := by
    obtain ⟨ρ', ef, x2, rfl, hx⟩ := forF_run (l := rgE (consL (varE 0) nilL) rng1D) (b := bN 2) (F := B__law_sets_0) (ρ := [.dat (.int n), .dat (.lst [.tup []]), .no, .no]) (ds := rngL 0 n)
      (fun pre ρ => ∃ x2, ρ = [.dat (.int n), .dat (.lst (allS pre.length)), x2, .no] ∧ (pre.length = 0 ∨ x2 = .dat (.int ((pre.length : Int) - 1)))) (rg_ofS (ds := [.int n]) (by simp) rg) ⟨.no, by rw [List.length_nil, a0], .inl rfl⟩ fun pre d post ρ e hp => by
        obtain ⟨x2, rfl, _⟩ := hp
        have hi : pre.length < n.toNat := by
          have := congrArg List.length e
          rw [rng_len, List.length_append, List.length_cons] at this; omega
        have hd : d = .int (pre.length : Int) := by
          have h3 : (rngL 0 n)[pre.length]? = some d := by rw [e]; simp
          unfold rngL at h3
          rw [List.getElem?_map, List.getElem?_range (by omega), Option.map_some] at h3
          rw [← Option.some.inj h3]
          show D.int (0 + _) = _
          rw [Int.zero_add]
        subst hd
        refine ⟨_, _, rfl, sets_turn (n := n) (k := pre.length) (by omega), .dat (.int (pre.length : Int)), by rw [List.length_append]; rfl, .inr ?_⟩
        rw [List.length_append, List.length_singleton]
        congr 2; omega
    have hl : (rngL 0 n).length = n.toNat := by rw [rng_len]; omega
    rw [hl] at ef hx
    rcases hx with hx | rfl
    · omega
    · refine ⟨_, ef, ?_⟩
      rw [show ((n.toNat : Int) - 1) = n - 1 by omega]
  have es : slD (.lst (allS n.toNat)) (some 1) none = some (.ol ((allS n.toNat).drop 1)) := sl_from (by omega) (by rw [allS_len]; have := Nat.two_pow_pos n.toNat; omega)
  generalize allS n.toNat = L at *
  simp [M__law_sets, F__law_sets, bodyM, one_cap, ef, es, slE, pS, pN]
end

end PL

namespace PL
open PySem PySem.Spec L2
/-! ### k04: the told depths as a dict -/
section
variable {n : Int} {tb : Tb}
theorem dp_no {b : Nat} : ∀ {l : List Nat}, b ∉ l → lk (l.map fun b => (kT b, D.int (depN n tb b : Int))) (kT b) = none
  | [], _ => rfl
  | c :: l, h => by
    rw [List.mem_cons, not_or] at h
    rw [List.map_cons, lk_cons, if_neg fun z => h.1 (kT_inj z).symm]
    exact dp_no h.2
theorem dp_in {b : Nat} : ∀ {l : List Nat}, b ∈ l → lk (l.map fun b => (kT b, D.int (depN n tb b : Int))) (kT b) = some (.int (depN n tb b : Int))
  | [], h => (nomatch h)
  | c :: l, h => by
    rw [List.map_cons, lk_cons]
    by_cases e : c = b
    · rw [e, if_pos rfl]
    · rw [if_neg fun z => e (kT_inj z)]
      exact dp_in ((List.mem_cons.mp h).resolve_left fun z => e z.symm)
theorem dk_dp {b : Nat} : dk (.dT (dpT n tb)) (sTup b) = some (lk (dpT n tb) (kT b)) := by
  show (tkey (iL (rmI b))).map (lk (dpT n tb)) = _
  rw [tkey_iL]; rfl
open Classical in
theorem in_dp {b : Nat} : inV (sTup b) (.dT (dpT n tb)) = some (.bl (decide (∃ k, Dep n tb b k))) := by
  show ((dk (.dT (dpT n tb)) (sTup b)).map Option.isSome).map D.bl = _
  rw [dk_dp]
  unfold dpT
  by_cases h : ∃ k, Dep n tb b k
  · rw [dp_in (mem_bsA.mpr h), decide_eq_true h]; rfl
  · rw [dp_no fun m => h (mem_bsA.mp m), decide_eq_false h]; rfl
open Classical in
theorem nin_dp {b : Nat} : ninV (sTup b) (.dT (dpT n tb)) = some (.bl (decide (¬ ∃ k, Dep n tb b k))) := by
  show ((dk (.dT (dpT n tb)) (sTup b)).map Option.isSome).map (fun b => D.bl (!b)) = _
  rw [dk_dp]
  unfold dpT
  by_cases h : ∃ k, Dep n tb b k
  · rw [dp_in (mem_bsA.mpr h), decide_eq_false (fun z => z h)]; rfl
  · rw [dp_no fun m => h (mem_bsA.mp m), decide_eq_true h]; rfl
theorem idx_dp {b : Nat} (h : ∃ k, Dep n tb b k) : idxD (.dT (dpT n tb)) (sTup b) = some (.int (depN n tb b : Int)) := by
  show (dk (.dT (dpT n tb)) (sTup b)).bind id = _
  rw [dk_dp]
  unfold dpT
  rw [dp_in (mem_bsA.mpr h)]; rfl
open Classical in
/-- the depths of what one button makes of a set -/
noncomputable def nearB (n : Int) (tb : Tb) (b : Nat) (rows : Tb) : List Int := rows.filterMap fun r => if ∃ k, Dep n tb (imB r.2 b) k then some (depN n tb (imB r.2 b) : Int) else none
def nrD (n : Int) (tb : Tb) (b : Nat) (T : List (List Key × D)) (L S : List D) (kn : D) (nr : List Int) (x7 x8 x9 x10 : Sl) : List Sl := [.dat (.dT T), .dat (.lst L), .dat (.int n), .dat (.lst S), .dat kn, .dat (sTup b), .ol (iL nr), x7, x8, x9, x10, .no]
theorem row_ix4 {rs : List Int} {q : Int} (h1 : 0 ≤ q) (h2 : q < rs.length) : idxD (.lst (iL rs)) (.int q) = some (.int (rs.getD q.toNat 0)) := by
  show atI (iL rs) q = _
  rw [atI_ok h1 (by rw [iL_len]; exact h2)]
  unfold iL
  rw [List.getElem_map, List.getD_eq_getElem?_getD, List.getElem?_eq_getElem (by omega)]; rfl
theorem near_lc (ok : TOk n tb) {r : Nat × List Int} (hr : r ∈ tb) {b : Nat} (hb : InB n b) {T : List (List Key × D)} {L S : List D} {kn : D} {nr : List Int} {x7 x9 x10 : Sl} :
    lcF [11] (srcE (varE 5)) (bN 11) yesT (bin (varE 8) (varE 11) idxD) (nrD n tb b T L S kn nr x7 (.dat (.lst (iL r.2))) x9 x10) = .ok (.ol (iL ((rmI b).map fun q => r.2.getD q.toNat 0))) := by
  obtain ⟨h1, h2⟩ := ok.rm r hr
  rw [lcF_map (ds := iL (rmI b)) (fun d => .int (r.2.getD (intOf d).toNat 0)) (by
    unfold srcE
    rw [show varE 5 (nrD n tb b T L S kn nr x7 (.dat (.lst (iL r.2))) x9 x10) = .ok (sTup b) from rfl, bind_ok]; rfl) rfl (by
      rw [iL_len]
      have := rmI_len (b := b) (K := n.toNat) hb.2
      have := ok.n2
      unfold cap; omega) fun d m => by
    obtain ⟨q, rfl, mq⟩ := iL_mem m
    have hq := rmI_in hb.2 q mq
    have ix := row_ix4 (rs := r.2) (q := q) hq.1 (by rw [h1]; exact hq.2)
    have ei : intOf (.int q) = q := rfl
    rw [ei]
    simp [lcSt, bN, wipeS, nrD, ix]]
  congr 2
  unfold iL
  rw [List.map_map, List.map_map]; rfl
open Classical in
theorem near_step (ok : TOk n tb) {r : Nat × List Int} (hr : r ∈ tb) {b : Nat} (hb : InB n b) {L S : List D} {kn : D} {nr : List Int} (hz : nr.length < 100) {x9 x10 : Sl} :
    B__law_right_0 (nrD n tb b (dpT n tb) L S kn nr (.dat (.str (sgn r.1))) (.dat (.lst (iL r.2))) x9 x10) = some (.nx (nrD n tb b (dpT n tb) L S kn (nr ++ nearB n tb b [r]) (.dat (.str (sgn r.1))) (.dat (.lst (iL r.2))) (.dat (sTup (imB r.2 b))) x10)) := by
  have e1 := near_lc ok hr hb (T := dpT n tb) (L := L) (S := S) (kn := kn) (nr := nr) (x7 := .dat (.str (sgn r.1))) (x9 := x9) (x10 := x10)
  have e9 := sortedSet_iL (fzE_ok e1) (by rw [List.length_map]; have := rmI_len (b := b) (K := n.toNat) hb.2; have := ok.n2; omega)
  rw [sdd_rm ok hr hb] at e9
  have e8 : (ca (consL (fzE (sortedSetO (fzE (lcF [11] (srcE (varE 5)) (bN 11) yesT (bin (varE 8) (varE 11) idxD))))) nilL) tupleD) (nrD n tb b (dpT n tb) L S kn nr (.dat (.str (sgn r.1))) (.dat (.lst (iL r.2))) x9 x10) = .ok (sTup (imB r.2 b)) := by
    have tz : tupleD [.lst (iL (rmI (imB r.2 b)))] = some (sTup (imB r.2 b)) := rfl
    simp [e9, tz]
  have ii := in_dp (n := n) (tb := tb) (b := imB r.2 b)
  unfold B__law_right_0
  rw [seq_nx (ρ1 := nrD n tb b (dpT n tb) L S kn nr (.dat (.str (sgn r.1))) (.dat (.lst (iL r.2))) (.dat (sTup (imB r.2 b))) x10) (by
    unfold stF
    rw [e8, lf_ok, if_pos (by show 9 < 12; omega)]; rfl)]
  by_cases h : ∃ k, Dep n tb (imB r.2 b) k
  · rw [decide_eq_true h] at ii
    have id := idx_dp h
    have en : nearB n tb b [r] = [(depN n tb (imB r.2 b) : Int)] := by
      unfold nearB
      rw [List.filterMap_cons, if_pos h]; rfl
    rw [en]
    have ap : appO (iL nr) [.int (depN n tb (imB r.2 b) : Int)] = some (iL (nr ++ [(depN n tb (imB r.2 b) : Int)])) := by
      show (if _ then _ else _) = _
      rw [if_pos (by rw [iL_len]; unfold cap; omega)]
      unfold iL
      rw [List.map_append]; rfl
    generalize dpT n tb = T at *
    generalize sTup (imB r.2 b) = Q at *
    simp [nrD, ii, id, ap]
  · rw [decide_eq_false h] at ii
    have en : nearB n tb b [r] = [] := by
      unfold nearB
      rw [List.filterMap_cons, if_neg h]; rfl
    rw [en, List.append_nil]
    generalize dpT n tb = T at *
    generalize sTup (imB r.2 b) = Q at *
    simp [nrD, ii]
theorem near_cons {b : Nat} {r : Nat × List Int} {rows : Tb} : nearB n tb b (r :: rows) = nearB n tb b [r] ++ nearB n tb b rows := by
  unfold nearB
  rw [show r :: rows = [r] ++ rows from rfl, List.filterMap_append]
theorem near_len {b : Nat} : ∀ {rows : Tb}, (nearB n tb b rows).length ≤ rows.length := by
  intro rows
  unfold nearB
  exact List.length_filterMap_le _ _
theorem near_rows (ok : TOk n tb) {b : Nat} (hb : InB n b) {L S : List D} {kn : D} {x10 : Sl} : ∀ (post : Tb) (nr : List Int) (x7 x8 x9 : Sl), (∀ r ∈ post, r ∈ tb) → nr.length + post.length ≤ 50 → ∃ y7 y8 y9,
    forGo (bT (bsCons (bN 7) (bsCons (bN 8) bsNil))) B__law_right_0 (tbL post) (nrD n tb b (dpT n tb) L S kn nr x7 x8 x9 x10) = some (.nx (nrD n tb b (dpT n tb) L S kn (nr ++ nearB n tb b post) y7 y8 y9 x10))
  | [], nr, x7, x8, x9, _, _ => ⟨x7, x8, x9, by rw [show nearB n tb b [] = [] from rfl, List.append_nil]; rfl⟩
  | r :: post, nr, x7, x8, x9, hm, hz => by
    rw [List.length_cons] at hz
    have e := near_step ok (hm r (List.mem_cons_self ..)) hb (L := L) (S := S) (kn := kn) (nr := nr) (by omega) (x9 := x9) (x10 := x10)
    have nl := near_len (n := n) (tb := tb) (b := b) (rows := [r])
    obtain ⟨y7, y8, y9, e2⟩ := near_rows ok hb (L := L) (S := S) (kn := kn) (x10 := x10) post (nr ++ nearB n tb b [r]) (.dat (.str (sgn r.1))) (.dat (.lst (iL r.2))) (.dat (sTup (imB r.2 b))) (fun p m => hm p (List.mem_cons_of_mem _ m)) (by rw [List.length_append]; simp at nl; omega)
    refine ⟨y7, y8, y9, ?_⟩
    show forGo (bT (bsCons (bN 7) (bsCons (bN 8) bsNil))) B__law_right_0 (rowD r :: tbL post) _ = _
    unfold forGo
    rw [show bT (bsCons (bN 7) (bsCons (bN 8) bsNil)) (rowD r) (nrD n tb b (dpT n tb) L S kn nr x7 x8 x9 x10) = some (nrD n tb b (dpT n tb) L S kn nr (.dat (.str (sgn r.1))) (.dat (.lst (iL r.2))) x9 x10) from rfl]
    simp only [e]
    rw [e2, near_cons (rows := post), List.append_assoc]
/-! the law of depths -/
theorem near_mem {b : Nat} {rows : Tb} {z : Int} : z ∈ nearB n tb b rows ↔ ∃ r ∈ rows, ∃ k, Dep n tb (imB r.2 b) k ∧ z = (k : Int) := by
  unfold nearB
  rw [List.mem_filterMap]
  constructor
  · rintro ⟨r, mr, e⟩
    by_cases h : ∃ k, Dep n tb (imB r.2 b) k
    · rw [if_pos h] at e
      obtain ⟨k, hk⟩ := h
      exact ⟨r, mr, k, hk, by rw [← Option.some.inj e, depN_eq hk]⟩
    · rw [if_neg h] at e; cases e
  · rintro ⟨r, mr, k, hk, rfl⟩
    exact ⟨r, mr, by rw [if_pos ⟨k, hk⟩, depN_eq hk]⟩
theorem near_none (ok : TOk n tb) {b : Nat} (hb : InB n b) (h : ¬ ∃ k, Dep n tb b k) : nearB n tb b tb = [] := by
  apply List.eq_nil_iff_forall_not_mem.mpr
  intro z m
  obtain ⟨r, mr, k, hk, _⟩ := near_mem.mp m
  obtain ⟨j, hj, _⟩ := Dep_step hb mr hk
  exact h ⟨j, hj⟩
theorem near_min (ok : TOk n tb) {b j : Nat} (hb : InB n b) (h : Dep n tb b (j + 1)) : (j : Int) ∈ nearB n tb b tb ∧ ∀ z ∈ nearB n tb b tb, (j : Int) ≤ z := by
  obtain ⟨_, r, mr, hr⟩ := Dep_succ h
  refine ⟨near_mem.mpr ⟨r, mr, j, hr, rfl⟩, fun z m => ?_⟩
  obtain ⟨q, mq, k, hk, rfl⟩ := near_mem.mp m
  obtain ⟨i, hi, le⟩ := Dep_step hb mq hk
  have e1 := depN_eq hi
  have e2 := depN_eq h
  omega
end

end PL

namespace PL
open PySem PySem.Spec L2
/-! ### k04: one set looked at -/
section
variable {n : Int} {tb : Tb}
theorem fmin_spec : ∀ (ns : List Int) (m : Int), (ns.foldl min m = m ∨ ns.foldl min m ∈ ns) ∧ ns.foldl min m ≤ m ∧ ∀ z ∈ ns, ns.foldl min m ≤ z
  | [], m => ⟨.inl rfl, Int.le_refl _, fun z mz => nomatch mz⟩
  | a :: ns, m => by
    obtain ⟨h1, h2, h3⟩ := fmin_spec ns (min m a)
    show (ns.foldl min (min m a) = m ∨ ns.foldl min (min m a) ∈ a :: ns) ∧ ns.foldl min (min m a) ≤ m ∧ ∀ z ∈ a :: ns, ns.foldl min (min m a) ≤ z
    refine ⟨?_, by omega, fun z mz => ?_⟩
    · rcases h1 with h1 | h1
      · rw [h1]
        by_cases hm : m ≤ a
        · exact .inl (by omega)
        · exact .inr (by rw [show min m a = a by omega]; exact List.mem_cons_self ..)
      · exact .inr (List.mem_cons_of_mem _ h1)
    · rcases List.mem_cons.mp mz with rfl | mz
      · omega
      · exact h3 z mz
theorem min1_iL {l : List Int} {j : Int} (hm : j ∈ l) (hl : ∀ z ∈ l, j ≤ z) : min1D [.lst (iL l)] = some (.int j) := by
  cases l with
  | nil => cases hm
  | cons a l =>
    have e1 : intsD (iL (a :: l)) = some (a :: l) := intsD_iL
    show (match intsD (iL (a :: l)) with | some (n :: ns) => some (D.int (ns.foldl min n)) | _ => match triL (iL (a :: l)) with | some (t :: ts) => some (triD (min3 t ts)) | _ => none) = _
    rw [e1]
    show some (D.int (l.foldl min a)) = _
    obtain ⟨h1, h2, h3⟩ := fmin_spec l a
    have hle : l.foldl min a ≤ j := by
      rcases List.mem_cons.mp hm with rfl | m
      · exact h2
      · exact h3 j m
    have hge : j ≤ l.foldl min a := by
      rcases h1 with h1 | h1
      · rw [h1]; exact hl a (List.mem_cons_self ..)
      · exact hl _ (List.mem_cons_of_mem _ h1)
    congr 2
    omega
theorem due_core {ρ : List Sl} {b1 : Bool} {Q : D} {nr : List Int} {j : Int} {pw : D → D → Option D} (h5 : ρ[5]? = some (.dat Q)) (l5 : eqD ((lenD [Q]).getD .non) (.int 1) = some (.bl b1)) (ln : (lenD [Q]).isSome = true) (h6 : ρ[6]? = some (.ol (iL nr))) (hz : nr.length ≤ 100) (p : pw (.int 10) (.int 9) = some (.int 1000000000)) (hm : b1 = false → j ∈ nr ++ [1000000000] ∧ ∀ z ∈ nr ++ [1000000000], j ≤ z) :
    ifE (tru (bin (ca (consL (varE 5) nilL) lenD) (cE (.int 1)) eqD)) (cE (.int 0)) (bin (cE (.int 1)) (viewE (ca (consL (bin (varE 6) (fzE (lstO (consL (bin (cE (.int 10)) (cE (.int 9)) pw) nilL))) addD) nilL) min1D)) addD) ρ = .ok (if b1 = true then .int 0 else .int (1 + j)) := by
  obtain ⟨d, hd⟩ := Option.isSome_iff_exists.mp ln
  rw [hd] at l5
  have l5' : eqD d (.int 1) = some (.bl b1) := l5
  have v5 : varE 5 ρ = .ok Q := by unfold varE; rw [h5]
  have w6 : (PL.view ρ)[6]? = some (.dat (.lst (iL nr))) := by unfold PL.view; rw [List.getElem?_map, h6]; rfl
  have v6 : varE 6 (PL.view ρ) = .ok (.lst (iL nr)) := by unfold varE; rw [w6]
  cases b1 with
  | true => simp [-e_var, v5, hd, l5']
  | false =>
    obtain ⟨m1, m2⟩ := hm rfl
    have ad : addD (.lst (iL nr)) (.lst [.int 1000000000]) = some (.lst (iL (nr ++ [1000000000]))) := by
      show (if _ then _ else _) = _
      rw [if_pos (by rw [iL_len]; show nr.length + 1 ≤ cap; unfold cap; omega)]
      unfold iL
      rw [List.map_append]; rfl
    have mn := min1_iL m1 m2
    have sc : PL.scal (.int j) = true := rfl
    have ev : viewE (ca (consL (bin (varE 6) (fzE (lstO (consL (bin (cE (.int 10)) (cE (.int 9)) pw) nilL))) addD) nilL) min1D) ρ = .ok (.int j) := by
      unfold viewE
      generalize PL.view ρ = t at *
      simp [-e_var, v6, p, one_cap, ad, mn, sc]
    generalize viewE (ca (consL (bin (varE 6) (fzE (lstO (consL (bin (cE (.int 10)) (cE (.int 9)) pw) nilL))) addD) nilL) min1D) = G at *
    simp [-e_var, v5, hd, l5', ev]
end

end PL

namespace PL
open PySem PySem.Spec L2
/-! ### depths are small -/
section
variable {n : Int} {tb : Tb}
theorem Dep_le : ∀ {k b : Nat}, Dep n tb b k → ∀ m, m ≤ k → ∃ c, Dep n tb c m
  | 0, b, h, m, hm => ⟨b, by rw [show m = 0 by omega]; exact h⟩
  | k + 1, b, h, m, hm => by
    by_cases e : m = k + 1
    · exact ⟨b, by rw [e]; exact h⟩
    · obtain ⟨_, r, _, hd⟩ := Dep_succ h
      exact Dep_le hd m (by omega)
/-- a depth is less than there are sets -/
theorem Dep_lt (ok : TOk n tb) {k b : Nat} (h : Dep n tb b k) : k < 2 ^ n.toNat := by
  classical
  have hex : ∀ m, m ≤ k → ∃ c, Dep n tb c m := Dep_le h
  let g : Nat → Nat := fun m => if hm : ∃ c, Dep n tb c m then hm.choose else 0
  have hg : ∀ m, m ≤ k → Dep n tb (g m) m := fun m hm => by
    show Dep n tb (if hm : ∃ c, Dep n tb c m then hm.choose else 0) m
    rw [dif_pos (hex m hm)]; exact (hex m hm).choose_spec
  have nd : ((List.range (k + 1)).map g).Nodup := by
    rw [List.nodup_iff_pairwise_ne, List.pairwise_map]
    refine List.Pairwise.imp_of_mem ?_ List.nodup_range
    intro i j mi mj hij z
    have h1 := hg i (by have := List.mem_range.mp mi; omega)
    have h2 := hg j (by have := List.mem_range.mp mj; omega)
    rw [z] at h1
    exact hij (h1.uniq h2)
  have sub : ∀ c ∈ (List.range (k + 1)).map g, c ∈ List.range (2 ^ n.toNat) := fun c m => by
    obtain ⟨i, mi, rfl⟩ := List.mem_map.mp m
    exact List.mem_range.mpr (Dep_in (hg i (by have := List.mem_range.mp mi; omega))).2
  have := nd.length_le_of_subset sub
  simp at this
  omega
theorem Dep_ltB (ok : TOk n tb) {k b : Nat} (h : Dep n tb b k) : k ≤ 1024 := by
  have := Dep_lt ok h
  have n2 := ok.n2
  have h2 : 2 ^ n.toNat ≤ 2 ^ 10 := Nat.pow_le_pow_right (by decide) (by omega)
  have e10 : (2 : Nat) ^ 10 = 1024 := by decide
  omega
end

end PL

namespace PL
open PySem PySem.Spec L2
/-! ### k04: right -/
section
variable {n : Int} {tb : Tb}
def rD4 (n : Int) (Q : D) (T : List (List Key × D)) (L S : List D) (kn : D) (x6 x7 x8 x9 x10 : Sl) : List Sl := [.dat (.dT T), .dat (.lst L), .dat (.int n), .dat (.lst S), .dat kn, .dat Q, x6, x7, x8, x9, x10, .no]
theorem seq_o {F G : SF} {ρ : List Sl} {o : Fl} (h : F ρ = some o) (hn : ∀ r, o ≠ .nx r) : seqF F G ρ = some o := by
  unfold seqF
  rw [h]
  cases o with
  | nx r => exact absurd rfl (hn r)
  | _ => rfl
theorem if_y4 {p : EF Bool} {A B : SF} {ρ : List Sl} (h : p ρ = .ok true) : ifF p A B ρ = A ρ := by
  unfold ifF
  rw [h]; rfl
theorem if_n4 {p : EF Bool} {A : SF} {ρ : List Sl} (h : p ρ = .ok false) : ifF p A nxF ρ = some (.nx ρ) := by
  unfold ifF
  rw [h]; rfl
theorem pow9 : powD (.int 10) (.int 9) = some (.int 1000000000) := by kernel_rfl
theorem len_set {b : Nat} : lenD [sTup b] = some (.int ((rmI b).length : Nat)) := by
  show some (D.int ((iL (rmI b)).length : Nat)) = _
  rw [iL_len]
theorem no_turn {b : Nat} {T : List (List Key × D)} {L S : List D} {kn : D} {x7 x8 x9 x10 : Sl} (hn : ninV (sTup b) (.dT T) = some (.bl true)) (hl : (rmI b).length ≠ 1) :
    (ifF (tru (bin (varE 5) (varE 0) ninV))
  (seqF (ifF (orT (viewT (tru (bin (varE 6) (fzE (lstO nilL)) neD))) (tru (bin (ca (consL (varE 5) nilL) lenD) (cE (.int 1)) eqD)))
  (rtF (cE (.bl false)))
  nxF)
  ctF)
  nxF) (rD4 n (sTup b) T L S kn (.ol []) x7 x8 x9 x10) = some (.cnt (rD4 n (sTup b) T L S kn (.ol []) x7 x8 x9 x10)) := by
  have ln := len_set (b := b)
  have eq : eqD (.int ((rmI b).length : Nat)) (.int 1) = some (.bl false) := by
    rw [d_eqI]
    congr 2
    rw [beq_eq_false_iff_ne]; omega
  have ne : neD (.lst []) (.lst []) = some (.bl false) := by
    have := ne_prL (ps := []) (qs := [])
    exact this
  generalize sTup b = Q at *
  rw [if_y4 (by simp [rD4, hn])]
  rw [seq_nx (ρ1 := rD4 n Q T L S kn (.ol []) x7 x8 x9 x10) (if_n4 (by simp [rD4, PL.view, fz, ne, ln, eq, -d_eqI]))]
  rfl
open Classical in
theorem right_turn4 (ok : TOk n tb) {b : Nat} (hb : InB n b) {S : List D} {kn : D} (x6 x7 x8 x9 x10 : Sl) : ∃ y6 y7 y8 y9 y10,
    B__law_right_1 (rD4 n (sTup b) (dpT n tb) (tbL tb) S kn x6 x7 x8 x9 x10) = some (.nx (rD4 n (sTup b) (dpT n tb) (tbL tb) S kn y6 y7 y8 y9 y10)) ∨ B__law_right_1 (rD4 n (sTup b) (dpT n tb) (tbL tb) S kn x6 x7 x8 x9 x10) = some (.cnt (rD4 n (sTup b) (dpT n tb) (tbL tb) S kn y6 y7 y8 y9 y10)) := by
  have l2 := ok.l2
  obtain ⟨y7, y8, y9, en⟩ := near_rows ok hb (L := tbL tb) (S := S) (kn := kn) (x10 := x10) tb [] x7 x8 x9 (fun r m => m) (by simp; omega)
  rw [List.nil_append] at en
  have nn := nin_dp (n := n) (tb := tb) (b := b)
  have hW := W0b_iff hb
  have nlen := near_len (n := n) (tb := tb) (b := b) (rows := tb)
  have st1 : soF 6 (lstO nilL) (rD4 n (sTup b) (dpT n tb) (tbL tb) S kn x6 x7 x8 x9 x10) = some (.nx (rD4 n (sTup b) (dpT n tb) (tbL tb) S kn (.ol []) x7 x8 x9 x10)) := by
    generalize dpT n tb = T
    generalize tbL tb = L
    generalize sTup b = Q
    simp [rD4]
  have st2 : forF (srcE (varE 1)) (bT (bsCons (bN 7) (bsCons (bN 8) bsNil))) B__law_right_0 (rD4 n (sTup b) (dpT n tb) (tbL tb) S kn (.ol []) x7 x8 x9 x10) = some (.nx (rD4 n (sTup b) (dpT n tb) (tbL tb) S kn (.ol (iL (nearB n tb b tb))) y7 y8 y9 x10)) := by
    rw [for_nx (ds := tbL tb) (by
      unfold srcE
      rw [show varE 1 (rD4 n (sTup b) (dpT n tb) (tbL tb) S kn (.ol []) x7 x8 x9 x10) = .ok (.lst (tbL tb)) from rfl, bind_ok]; rfl)]
    exact en
  unfold B__law_right_1
  rw [seq_nx st1, seq_nx st2]
  by_cases hd : ∃ k, Dep n tb b k
  · rw [decide_eq_false (fun z => z hd)] at nn
    obtain ⟨k, hk⟩ := hd
    have ek := depN_eq hk
    have ix := idx_dp ⟨k, hk⟩
    rw [ek] at ix
    have ln := len_set (b := b)
    have l5 : eqD ((lenD [sTup b]).getD .non) (.int 1) = some (.bl (decide ((rmI b).length = 1))) := by
      rw [ln]
      show some (D.bl (((rmI b).length : Int) == 1)) = _
      congr 2
      rw [Bool.eq_iff_iff, beq_iff_eq, decide_eq_true_iff]; omega
    have kl : k ≤ 1024 := by
      have := Dep_ltB ok hk
      exact this
    obtain ⟨j, hj⟩ : ∃ j : Int, (if decide ((rmI b).length = 1) = true then D.int 0 else .int (1 + j)) = .int (k : Int) ∧ (decide ((rmI b).length = 1) = false → j ∈ nearB n tb b tb ++ [1000000000] ∧ ∀ z ∈ nearB n tb b tb ++ [1000000000], j ≤ z) := by
      cases k with
      | zero =>
        have := hW.mp (Dep_zero' hk)
        exact ⟨0, by rw [if_pos (decide_eq_true this)]; rfl, fun z => by rw [decide_eq_true this] at z; cases z⟩
      | succ i =>
        have hne : ¬ (rmI b).length = 1 := fun z => (Dep_succ hk).1 (hW.mpr z)
        obtain ⟨m1, m2⟩ := near_min ok hb hk
        refine ⟨i, by rw [if_neg (by rw [decide_eq_false hne]; exact Bool.false_ne_true)]; congr 1; omega, fun _ => ⟨List.mem_append_left _ m1, fun z mz => ?_⟩⟩
        rcases List.mem_append.mp mz with mz | mz
        · exact m2 z mz
        · rw [List.mem_singleton.mp mz]; omega
    have du := due_core (ρ := rD4 n (sTup b) (dpT n tb) (tbL tb) S kn (.ol (iL (nearB n tb b tb))) y7 y8 y9 x10) (pw := powD) rfl l5 (by rw [ln]; rfl) rfl (by omega) pow9 hj.2
    rw [hj.1] at du
    refine ⟨.ol (iL (nearB n tb b tb)), y7, y8, y9, .dat (.int (k : Int)), .inl ?_⟩
    have c1 : tru (bin (varE 5) (varE 0) ninV) (rD4 n (sTup b) (dpT n tb) (tbL tb) S kn (.ol (iL (nearB n tb b tb))) y7 y8 y9 x10) = .ok false := by
      generalize dpT n tb = T at *
      generalize sTup b = Q at *
      simp [rD4, nn]
    rw [seq_nx (if_n4 c1)]
    rw [seq_nx (ρ1 := rD4 n (sTup b) (dpT n tb) (tbL tb) S kn (.ol (iL (nearB n tb b tb))) y7 y8 y9 (.dat (.int (k : Int)))) (by
      unfold stF
      rw [du, lf_ok, if_pos (by show 10 < 12; omega)]; rfl)]
    refine if_n4 ?_
    have t1 : isT "bool" (.int (k : Int)) = some (.bl false) := by simp
    have t2 : isT "int" (.int (k : Int)) = some (.bl true) := by simp
    have n3 : neD (.int (k : Int)) (.int (k : Int)) = some (.bl false) := by simp
    generalize dpT n tb = T at *
    generalize sTup b = Q at *
    simp [rD4, ix, -isT, t1, t2, n3, -d_neI]
  · rw [decide_eq_true hd] at nn
    have hne : (rmI b).length ≠ 1 := fun z => hd ⟨0, Dep_zero (hW.mpr z)⟩
    rw [near_none ok hb hd]
    have e0 : iL [] = ([] : List D) := rfl
    rw [e0]
    exact ⟨_, _, _, _, _, .inr (seq_o (no_turn nn hne) (fun r z => nomatch z))⟩
end

end PL

namespace PL
open PySem PySem.Spec L2
/-! ### k04: right, whole -/
section
variable {n : Int} {tb : Tb}
def bsL (n : Int) : List Nat := (List.range (2 ^ n.toNat)).drop 1
theorem bs_mem {b : Nat} (h : b ∈ bsL n) : InB n b := by
  unfold bsL at h
  have hm := List.mem_range.mp (List.mem_of_mem_drop h)
  refine ⟨?_, hm⟩
  cases b with
  | succ b => omega
  | zero =>
    exfalso
    have hp : 0 < 2 ^ n.toNat := Nat.two_pow_pos _
    obtain ⟨k, hk⟩ : ∃ k, 2 ^ n.toNat = k + 1 := ⟨2 ^ n.toNat - 1, by omega⟩
    rw [hk, List.range_succ_eq_map, List.drop_one, List.tail_cons] at h
    obtain ⟨c, _, e⟩ := List.mem_map.mp h
    cases e
theorem mem_bs {b : Nat} (h : InB n b) : b ∈ bsL n := by
  unfold bsL
  have hp : 0 < 2 ^ n.toNat := Nat.two_pow_pos _
  obtain ⟨k, hk⟩ : ∃ k, 2 ^ n.toNat = k + 1 := ⟨2 ^ n.toNat - 1, by omega⟩
  have h1 := h.1
  have h2 := h.2
  rw [hk, List.range_succ_eq_map, List.drop_one, List.tail_cons]
  exact List.mem_map.mpr ⟨b - 1, List.mem_range.mpr (by omega), by show b - 1 + 1 = b; omega⟩
theorem bs_nd : (bsL n).Nodup := List.nodup_range.sublist (List.drop_sublist _ _)
theorem sets_bs : (allS n.toNat).drop 1 = (bsL n).map sTup := by unfold allS bsL; rw [List.map_drop]
def knT (n : Int) : List (List Key × D) := (bsL n).map fun b => (kT b, .bl true)
theorem pairs_kn : ∀ {l : List Nat}, pairsDT (l.map fun b => .tup [sTup b, .bl true]) = some (l.map fun b => (kT b, D.bl true))
  | [] => rfl
  | b :: l => by
    show (pairDT (.tup [sTup b, .bl true])).bind (fun p => (pairsDT (l.map fun b => .tup [sTup b, .bl true])).map (p :: ·)) = _
    have e : pairDT (.tup [sTup b, .bl true]) = some (kT b, .bl true) := by
      show (tkey (iL (rmI b))).map (fun k => (k, D.bl true)) = _
      rw [tkey_iL]; rfl
    rw [e, Option.bind_some, pairs_kn]; rfl
theorem kn_in {b : Nat} : ∀ {l : List Nat}, b ∈ l → lk (l.map fun b => (kT b, D.bl true)) (kT b) = some (.bl true)
  | [], h => (nomatch h)
  | c :: l, h => by
    rw [List.map_cons, lk_cons]
    by_cases e : c = b
    · rw [e, if_pos rfl]
    · rw [if_neg fun z => e (kT_inj z)]
      exact kn_in ((List.mem_cons.mp h).resolve_left fun z => e z.symm)
theorem nin_kn {b : Nat} (h : InB n b) : ninV (sTup b) (.dT (knT n)) = some (.bl false) := by
  show ((dk (.dT (knT n)) (sTup b)).map Option.isSome).map (fun b => D.bl (!b)) = _
  rw [show dk (.dT (knT n)) (sTup b) = some (lk (knT n) (kT b)) from by
    show (tkey (iL (rmI b))).map (lk (knT n)) = _
    rw [tkey_iL]; rfl]
  unfold knT
  rw [kn_in (mem_bs h)]; rfl
theorem sets_loop (ok : TOk n tb) {S : List D} {kn : D} : ∀ (bs : List Nat) (x5 x6 x7 x8 x9 x10 : Sl), (∀ b ∈ bs, InB n b) → ∃ y5 y6 y7 y8 y9 y10,
    forGo (bN 5) B__law_right_1 (bs.map sTup) [.dat (.dT (dpT n tb)), .dat (.lst (tbL tb)), .dat (.int n), .dat (.lst S), .dat kn, x5, x6, x7, x8, x9, x10, .no] = some (.nx [.dat (.dT (dpT n tb)), .dat (.lst (tbL tb)), .dat (.int n), .dat (.lst S), .dat kn, y5, y6, y7, y8, y9, y10, .no])
  | [], x5, x6, x7, x8, x9, x10, _ => ⟨x5, x6, x7, x8, x9, x10, rfl⟩
  | b :: bs, x5, x6, x7, x8, x9, x10, hm => by
    obtain ⟨y6, y7, y8, y9, y10, e⟩ := right_turn4 ok (hm b (List.mem_cons_self ..)) (S := S) (kn := kn) x6 x7 x8 x9 x10
    obtain ⟨z5, z6, z7, z8, z9, z10, e2⟩ := sets_loop ok (S := S) (kn := kn) bs (.dat (sTup b)) y6 y7 y8 y9 y10 (fun c m => hm c (List.mem_cons_of_mem _ m))
    refine ⟨z5, z6, z7, z8, z9, z10, ?_⟩
    show forGo (bN 5) B__law_right_1 (sTup b :: bs.map sTup) _ = _
    unfold forGo
    rw [show bN 5 (sTup b) [.dat (.dT (dpT n tb)), .dat (.lst (tbL tb)), .dat (.int n), .dat (.lst S), .dat kn, x5, x6, x7, x8, x9, x10, .no] = some (rD4 n (sTup b) (dpT n tb) (tbL tb) S kn x6 x7 x8 x9 x10) from rfl]
    rcases e with e | e
    · simp only [e]; exact e2
    · simp only [e]; exact e2
end

end PL

namespace PL
open PySem PySem.Spec L2
/-! ### k04: the law's right -/
section
variable {n : Int} {tb : Tb}
theorem keysTV_dp : keysTV (dpT n tb) = (bsA n tb).map sTup := by
  unfold keysTV dpT
  rw [List.map_map]
  refine List.map_congr_left fun b _ => ?_
  show D.tup ((kT b).map kD) = sTup b
  unfold kT sTup iL
  rw [List.map_map]; rfl
theorem bs_len (n2 : n ≤ 10) : (bsL n).length ≤ 1024 := by
  unfold bsL
  rw [List.length_drop, List.length_range]
  have h2 : 2 ^ n.toNat ≤ 2 ^ 10 := Nat.pow_le_pow_right (by decide) (by omega)
  have e10 : (2 : Nat) ^ 10 = 1024 := by decide
  omega
noncomputable def sl4 (n : Int) (tb : Tb) (a2 a3 a4 : Sl) : List Sl := [.dat (.dT (dpT n tb)), .dat (.lst (tbL tb)), a2, a3, a4, .no, .no, .no, .no, .no, .no, .no]
theorem kn_lc (n2 : n ≤ 10) {ρ : List Sl} (h3 : ρ[3]? = some (.dat (.lst ((bsL n).map sTup)))) (h5 : wipeS ρ [5] = ρ) (hl : 5 < ρ.length) (ow : okW ρ [5] = true) : lcF [5] (srcE (varE 3)) (bN 5) yesT (tupE (consL (varE 5) (consL (cE (.bl true)) nilL))) ρ = .ok (.ol ((bsL n).map fun b => .tup [sTup b, .bl true])) := by
  have bl := bs_len n2
  rw [lcF_map (ds := (bsL n).map sTup) (fun d => .tup [d, .bl true]) (by
    unfold srcE varE
    rw [h3]; rfl) ow (by rw [List.length_map]; unfold cap; omega) fun d m => by
    have eb : bN 5 d ρ = some (ρ.set 5 (.dat d)) := if_pos hl
    have g5 : (ρ.set 5 (.dat d))[5]? = some (.dat d) := List.getElem?_set_self hl
    unfold lcSt
    rw [h5, eb]
    generalize ρ.set 5 (.dat d) = t at *
    simp [g5, two_cap]]
  rw [List.map_map]; rfl
theorem m_right4 (ok : TOk n tb) : M__law_right [.dT (dpT n tb), .lst (tbL tb)] = .ok (.dat (.bl true)) := by
  have n1 := ok.n1; have n2 := ok.n2; have l1 := ok.l1
  obtain ⟨hc, hlen, ix⟩ := tb_at ok (i := 0) (by omega) (by omega)
  have il : (iL (rowAt tb 0).2).length = (rowAt tb 0).2.length := iL_len
  have lz : lenD [.lst (iL (rowAt tb 0).2)] = some (.int n) := by
    show some (D.int ((iL (rowAt tb 0).2).length : Nat)) = _
    rw [il, hlen]
  have ix1 : idxD (rowD (rowAt tb 0)) (.int 1) = some (.lst (iL (rowAt tb 0).2)) := rfl
  have ms := m_lsets n1 n2
  rw [sets_bs] at ms
  have bl := bs_len n2
  have al := bsA_len (n := n) (tb := tb) n2
  have dk : dictTO [.lst ((bsL n).map fun b => .tup [sTup b, .bl true])] = some (.oT (knT n)) := by
    show (pairsDT _).map (fun kvs => Sl.oT (mkT kvs)) = _
    rw [pairs_kn, Option.map_some, mkT_nd (by
      rw [List.map_map]
      exact List.Pairwise.map _ (fun a b h z => h (kT_inj z)) bs_nd)]; rfl
  have e4 : lcF [5] (keysTE (varE 0)) (bN 5) (tru (bin (varE 5) (varE 4) ninV)) (varE 5) (sl4 n tb (.dat (.int n)) (.dat (.lst ((bsL n).map sTup))) (.dat (.dT (knT n)))) = .ok (.ol []) := by
    rw [lcF_fm (ds := (bsA n tb).map sTup) (fun _ => none) (by
      unfold keysTE
      rw [show varE 0 (sl4 n tb (.dat (.int n)) (.dat (.lst ((bsL n).map sTup))) (.dat (.dT (knT n)))) = .ok (.dT (dpT n tb)) from rfl, bind_ok]
      unfold keyTL
      dsimp only
      rw [if_pos (List.all_eq_true.mpr fun kv m => by
        unfold dpT at m
        obtain ⟨b, mb, rfl⟩ := List.mem_map.mp m
        obtain ⟨k, hk⟩ := mem_bsA.mp mb
        have := rmI_len (b := b) (K := n.toNat) (Dep_in hk).2
        refine decide_eq_true ?_
        show (kT b).length ≤ cap
        unfold kT
        rw [List.length_map]; unfold cap; omega), keysTV_dp]; rfl) rfl (by rw [List.length_map]; unfold cap; omega) fun d m => by
      obtain ⟨b, mb, rfl⟩ := List.mem_map.mp m
      obtain ⟨k, hk⟩ := mem_bsA.mp mb
      have nn := nin_kn (Dep_in hk)
      unfold sl4
      generalize dpT n tb = T at *
      generalize knT n = KN at *
      generalize sTup b = Q at *
      simp [lcSt, bN, wipeS, nn]]
    congr 2
    simp
  obtain ⟨y5, y6, y7, y8, y9, y10, el⟩ := sets_loop ok (S := (bsL n).map sTup) (kn := .dT (knT n)) (bsL n) .no .no .no .no .no .no (fun b m => bs_mem m)
  unfold M__law_right bodyM F__law_right
  rw [show ([D.dT (dpT n tb), D.lst (tbL tb)].map Sl.dat ++ List.replicate (12 - [D.dT (dpT n tb), D.lst (tbL tb)].length) Sl.no) = sl4 n tb .no .no .no from rfl]
  have kl := kn_lc n2 (ρ := sl4 n tb (.dat (.int n)) (.dat (.lst ((bsL n).map sTup))) .no) rfl rfl (by show 5 < 12; omega) rfl
  have is1 : isTD "dict" (.dT (dpT n tb)) = some (.bl true) := rfl
  have ne : neD (.lst []) (.lst []) = some (.bl false) := by
    have := ne_prL (ps := []) (qs := [])
    exact this
  rw [seq_nx (ρ1 := sl4 n tb (.dat (.int n)) .no .no) (by
    unfold sl4
    generalize dpT n tb = T at *
    generalize tbL tb = L at *
    simp [ix, ix1, lz, -d_lenL])]
  rw [seq_nx (ρ1 := sl4 n tb (.dat (.int n)) (.dat (.lst ((bsL n).map sTup))) .no) (by
    unfold sl4
    generalize dpT n tb = T at *
    generalize tbL tb = L at *
    simp [ms])]
  rw [seq_nx (ρ1 := sl4 n tb (.dat (.int n)) (.dat (.lst ((bsL n).map sTup))) (.dat (.dT (knT n)))) (by
    have e : fzE (cao (consL (fzE (lcF [5] (srcE (varE 3)) (bN 5) yesT (tupE (consL (varE 5) (consL (cE (.bl true)) nilL))))) nilL) dictTO) (sl4 n tb (.dat (.int n)) (.dat (.lst ((bsL n).map sTup))) .no) = .ok (.dT (knT n)) := by
      generalize sl4 n tb (.dat (.int n)) (.dat (.lst ((bsL n).map sTup))) .no = ρ at *
      simp [kl, dk]
    unfold stF
    rw [e, lf_ok, if_pos (by show 4 < 12; omega)]; rfl)]
  rw [seq_nx (ρ1 := sl4 n tb (.dat (.int n)) (.dat (.lst ((bsL n).map sTup))) (.dat (.dT (knT n)))) (if_n4 (by
    have v0 : varE 0 (sl4 n tb (.dat (.int n)) (.dat (.lst ((bsL n).map sTup))) (.dat (.dT (knT n)))) = .ok (.dT (dpT n tb)) := rfl
    generalize sl4 n tb (.dat (.int n)) (.dat (.lst ((bsL n).map sTup))) (.dat (.dT (knT n))) = ρ at *
    simp [-e_var, v0, is1, e4, ne]))]
  rw [seq_nx (ρ1 := [.dat (.dT (dpT n tb)), .dat (.lst (tbL tb)), .dat (.int n), .dat (.lst ((bsL n).map sTup)), .dat (.dT (knT n)), y5, y6, y7, y8, y9, y10, .no]) (by
    rw [for_nx (ds := (bsL n).map sTup) (by
      unfold srcE
      rw [show varE 3 (sl4 n tb (.dat (.int n)) (.dat (.lst ((bsL n).map sTup))) (.dat (.dT (knT n)))) = .ok (.lst ((bsL n).map sTup)) from rfl, bind_ok]; rfl)]
    exact el)]
  rfl
end

end PL

namespace PL
open PySem PySem.Spec L2
/-! ### k04: the hashes of the sets are unlike -/
section
variable {n : Int} {tb : Tb}
/-- unlike numbers, by their bits -/
def unl : List Nat → Nat → Bool
  | [], _ => true
  | k :: r, acc => !acc.testBit k && (let a := acc ||| 2 ^ k; if a.beq 0 then false else unl r a)
theorem unl_nd : ∀ {l : List Nat} {acc : Nat}, unl l acc = true → l.Nodup ∧ ∀ k ∈ l, acc.testBit k = false
  | [], acc, _ => ⟨List.nodup_nil, fun _ m => nomatch m⟩
  | k :: r, acc, h => by
    have h2 : (!acc.testBit k && (if (acc ||| 2 ^ k).beq 0 then false else unl r (acc ||| 2 ^ k))) = true := h
    rw [Bool.and_eq_true] at h2
    obtain ⟨h3, h4⟩ := h2
    split at h4
    · cases h4
    · obtain ⟨nd, hm⟩ := unl_nd h4
      have hk : acc.testBit k = false := by simpa using h3
      refine ⟨List.nodup_cons.mpr ⟨fun m => ?_, nd⟩, fun j m => ?_⟩
      · have := hm k m
        rw [Nat.testBit_or, Nat.testBit_two_pow_self, Bool.or_true] at this
        cases this
      · rcases List.mem_cons.mp m with rfl | m
        · exact hk
        · have := hm j m
          rw [Nat.testBit_or, Bool.or_eq_false_iff] at this
          exact this.1
def hB (b : Nat) : Int := hashAK (.tup (rmI b))
theorem hB_unl : unl ((List.range 1024).map fun b => (hB b % 52539).toNat) 0 = true := by decide +kernel
theorem hB_nd : ((List.range 1024).map hB).Nodup := by
  have h := (unl_nd hB_unl).1
  have e : (List.range 1024).map (fun b => (hB b % 52539).toNat) = ((List.range 1024).map hB).map fun h => (h % 52539).toNat := by rw [List.map_map]; rfl
  rw [e] at h
  exact (List.pairwise_map.mp h).imp fun {a b} q z => q (by rw [z])
theorem hB_bs (n2 : n ≤ 10) : ((bsA n tb).map hB).Nodup := by
  have h2 : 2 ^ n.toNat ≤ 2 ^ 10 := Nat.pow_le_pow_right (by decide) (by omega)
  have s1 : (bsA n tb).Sublist (List.range (2 ^ n.toNat)) := by unfold bsA; exact List.filter_sublist
  have s2 : (List.range (2 ^ n.toNat)).Sublist (List.range 1024) := List.range_sublist.mpr h2
  exact hB_nd.sublist ((s1.trans s2).map hB)
theorem intsK_inl : ∀ l : List Int, intsK (l.map fun z => (Sum.inl z : Key)) = some l
  | [] => rfl
  | z :: l => by
    show (intsK (l.map fun z => (Sum.inl z : Key))).map (z :: ·) = _
    rw [intsK_inl l]; rfl
theorem hashT_kT {b : Nat} : hashT (kT b) = some (hB b) := by
  unfold hashT kT
  rw [intsK_inl]; rfl
theorem hashes_dp {g : Nat → D} : ∀ {l : List Nat}, hashesT (l.map fun b => (kT b, g b)) = some (l.map hB)
  | [] => rfl
  | b :: l => by
    show (hashT (kT b)).bind (fun h => (hashesT (l.map fun b => (kT b, g b))).map (h :: ·)) = _
    rw [hashT_kT, hashes_dp]; rfl
theorem copy_dp (n2 : n ≤ 10) : copyTO [.dT (dpT n tb)] = some (.oT (dpT n tb)) := by
  have e : hashesT (dpT n tb) = some ((bsA n tb).map hB) := hashes_dp
  show (hashesT (dpT n tb)).bind (fun hs => if hs.Nodup then some (Sl.oT (dpT n tb)) else none) = _
  rw [e, Option.bind_some, if_pos (hB_bs n2)]
theorem vInts_dp {g : Nat → Int} : ∀ {l : List Nat}, vInts (l.map fun b => (kT b, D.int (g b))) = some (l.map fun b => (kT b, g b))
  | [] => rfl
  | b :: l => by
    show (vInts (l.map fun b => (kT b, D.int (g b)))).map ((kT b, g b) :: ·) = _
    rw [vInts_dp]; rfl
theorem eqT_dp : eqT (.dT (dpT n tb)) (.dT (dpT n tb)) = some (.bl true) := by
  have e : vInts (dpT n tb) = some ((bsA n tb).map fun b => (kT b, (depN n tb b : Int))) := vInts_dp
  show (vInts (dpT n tb)).bind (fun u => (vInts (dpT n tb)).bind fun v => if u = v then some (D.bl true) else none) = _
  rw [e, Option.bind_some, Option.bind_some, if_pos rfl]
theorem vInts_some : (vInts (dpT n tb)).isSome = true := by
  have e : vInts (dpT n tb) = some ((bsA n tb).map fun b => (kT b, (depN n tb b : Int))) := vInts_dp
  rw [e]; rfl
end

end PL

namespace PL
open PySem PySem.Spec L2
/-! ### k04: the end -/
section
variable {ns : List Int}
theorem jdx2_0 {a b : D} : idxD (.lst [a, b]) (.int 0) = some a := rfl
theorem jdx2_1 {a b : D} : idxD (.lst [a, b]) (.int 1) = some b := rfl
def w4 (ns : List Int) (a1 a2 a3 a4 a5 : Sl) : List Sl := [.dat (.scr ns), a1, a2, a3, a4, a5, .no, .no]
theorem most_core {M : Mi} {x : Int} (h : M [.scr ns, .int 95] = .ok (.dat (.int x))) : ∃ m : Int, (m = 8 ∨ m = 10) ∧ stF 1 (bin (fzE (lstO (consL (cE (.int 8)) (consL (cE (.int 10)) nilL)))) (ca (consL (bin (bin (fzE (mcO M (consL (varE 0) (consL (cE (.int 95)) nilL)))) (cE (.int 16)) modD) (cE (.int 1)) eqD) nilL) int1D) idxD) (w4 ns .no .no .no .no .no) = some (.nx (w4 ns (.dat (.int m)) .no .no .no .no)) := by
  have hm : modD (.int x) (.int 16) = some (.int (x % 16)) := by
    unfold modD
    rw [d_opIC, if_pos (by decide)]
  by_cases z : x % 16 = 1
  · have e : eqD (.int (x % 16)) (.int 1) = some (.bl true) := by rw [d_eqI, z]; rfl
    exact ⟨10, .inr rfl, by simp [w4, h, hm, e, two_cap, int1D, jdx2_1, -d_eqI, -d_opIC]⟩
  · have e : eqD (.int (x % 16)) (.int 1) = some (.bl false) := by rw [d_eqI, beq_eq_false_iff_ne.mpr z]
    exact ⟨8, .inl rfl, by simp [w4, h, hm, e, two_cap, int1D, jdx2_0, -d_eqI, -d_opIC]⟩
theorem told_core {M : Mi} {h1 h2 : D} {T1 T2 : List (List Key × D)} {a1 a2 : Sl} (e1 : M [h1] = .ok (.oT T1)) (e2 : M [h2] = .ok (.oT T2)) : odF 4 [7] (srcE (varE 3)) (bN 7) (mcO M (consL (varE 7) nilL)) (w4 ns a1 a2 (.dat (.lst [h1, h2])) .no .no) = some (.nx (w4 ns a1 a2 (.dat (.lst [h1, h2])) (.oD [T1, T2]) .no)) := by
  have s1 : dSt [7] (bN 7) (mcO M (consL (varE 7) nilL)) (w4 ns a1 a2 (.dat (.lst [h1, h2])) .no .no) h1 = some T1 := by simp [dSt, bN, wipeS, w4, e1]
  have s2 : dSt [7] (bN 7) (mcO M (consL (varE 7) nilL)) (w4 ns a1 a2 (.dat (.lst [h1, h2])) .no .no) h2 = some T2 := by simp [dSt, bN, wipeS, w4, e2]
  have es : srcE (varE 3) (w4 ns a1 a2 (.dat (.lst [h1, h2])) .no .no) = .ok [h1, h2] := by simp [srcD, w4]
  unfold odF
  rw [es, lf_ok, if_pos ⟨rfl, by show 2 ≤ cap; exact two_cap, by show 4 < 8; omega⟩]
  unfold dGo dGo dGo
  rw [s1, s2]
  rfl
theorem kept_core {T1 T2 : List (List Key × D)} {a1 a2 a3 : Sl} {cp : List D → Option Sl} (ec : cp [.dT T1] = some (.oT T1)) (ev : (vInts T1).isSome = true) : svTF 5 (cao (consL (bin (varE 4) (cE (.int 0)) idxD) nilL) cp) (w4 ns a1 a2 a3 (.oD [T1, T2]) .no) = some (.nx (w4 ns a1 a2 a3 (.oD [T1, T2]) (.oT T1))) := by
  have e : cao (consL (bin (varE 4) (cE (.int 0)) idxD) nilL) cp (PL.view (w4 ns a1 a2 a3 (.oD [T1, T2]) .no)) = .ok (.oT T1) := by
    simp [PL.view, w4, jdx2_0, ec]
  unfold svTF
  rw [e, lf_ok]
  dsimp only
  rw [if_pos ⟨by show 5 < 8; omega, ev⟩]; rfl
theorem test_core {M : Mi} {T1 T2 : List (List Key × D)} {L1 L2 : D} {a1 a3 a5 : Sl} (e1 : M [.dT T1, L1] = .ok (.dat (.bl true))) (e2 : M [.dT T2, L2] = .ok (.dat (.bl true))) : (ifF (orT (viewT (notT (tru (fzE (mcO M (consL (bin (varE 4) (cE (.int 0)) idxD) (consL (bin (varE 2) (cE (.int 0)) idxD) nilL))))))) (viewT (notT (tru (fzE (mcO M (consL (bin (varE 4) (cE (.int 1)) idxD) (consL (bin (varE 2) (cE (.int 1)) idxD) nilL))))))))
  (rtF (cE (.bl false)))
  nxF) (w4 ns a1 (.dat (.lst [L1, L2])) a3 (.oD [T1, T2]) a5) = some (.nx (w4 ns a1 (.dat (.lst [L1, L2])) a3 (.oD [T1, T2]) a5)) := by
  refine if_n4 ?_
  simp [PL.view, w4, jdx2_0, jdx2_1, e1, e2]
theorem put_core {T1 T2 : List (List Key × D)} {a1 a2 a3 a5 : Sl} (hl : T2.length < cap) : odPutF 4 1 (tupE (consL (cE (.int 99)) nilL)) (cE (.int 0)) (w4 ns a1 a2 a3 (.oD [T1, T2]) a5) = some (.nx (w4 ns a1 a2 a3 (.oD [T1, pk T2 [.inl 99] (.int 0)]) a5)) := by
  have e : tupE (consL (cE (.int 99)) nilL) (w4 ns a1 a2 a3 (.oD [T1, T2]) a5) = .ok (.tup [.int 99]) := by simp [one_cap]
  unfold odPutF
  have g : (w4 ns a1 a2 a3 (.oD [T1, T2]) a5)[4]? = some (.oD [T1, T2]) := rfl
  have g1 : [T1, T2][1]? = some T2 := rfl
  have tk : tkey [.int 99] = some [.inl 99] := rfl
  rw [e_c, lf_ok, g]
  dsimp only
  rw [g1]
  dsimp only
  rw [e, lf_ok]
  dsimp only
  rw [tk]
  dsimp only
  rw [if_pos hl]; rfl
theorem end_core4 {M R : Mi} {h1 h2 L1 L2 : D} {T1 T2 : List (List Key × D)} {os : List (List (List Key × D))} {a1 : Sl} {eq : D → D → Option D} (e1 : M [h1] = .ok (.oT T1)) (e2 : M [h2] = .ok (.oT T2)) (er : R [.dT T2, L2] = .ok (.dat (.bl true))) (ee : eq (.dT T1) (.dT T1) = some (.bl true)) :
    (rtF (blE (andT (tru (viewE (bin (fzE (mcO M (consL (bin (varE 3) (cE (.int 0)) idxD) nilL))) (varE 5) eq))) (tru (fzE (mcO R (consL (fzE (mcO M (consL (bin (varE 3) (cE (.int 1)) idxD) nilL))) (consL (bin (varE 2) (cE (.int 1)) idxD) nilL)))))))) (w4 ns a1 (.dat (.lst [L1, L2])) (.dat (.lst [h1, h2])) (.oD os) (.oT T1)) = some (.ret (.dat (.bl true))) := by
  simp [PL.view, w4, jdx2_0, jdx2_1, e1, e2, er, ee]
theorem law_true (hl : ns.length ≤ 63) : M_law [.scr ns] = .ok (.dat (.bl true)) := by
  obtain ⟨m, hm, em⟩ := most_core (ns := ns) (m_number ns 95 (by omega) (by omega))
  obtain ⟨n1, t1, _, ed1, ok1⟩ := m_drawn (ns := ns) (at_ := 0) (most := m) (by omega) (by omega) (by omega) (by omega)
  obtain ⟨n2, t2, _, ed2, ok2⟩ := m_drawn (ns := ns) (at_ := 100) (most := 5) (by omega) (by omega) (by omega) (by omega)
  have em1 := m_made ok1
  have em2 := m_made ok2
  have s2 : (stF 2 (fzE (lstO (consL (fzE (mcO M__law_drawn (consL (varE 0) (consL (cE (.int 0)) (consL (varE 1) nilL))))) (consL (fzE (mcO M__law_drawn (consL (varE 0) (consL (cE (.int 100)) (consL (cE (.int 5)) nilL))))) nilL))))) (w4 ns (.dat (.int m)) .no .no .no .no) = some (.nx (w4 ns (.dat (.int m)) (.dat (.lst [.lst (tbL t1), .lst (tbL t2)])) .no .no .no)) := by
    simp [w4, ed1, ed2, two_cap]
  have eh : lcF [6] (srcE (varE 2)) (bN 6) yesT (fzE (mcO M__law_made (consL (varE 6) nilL))) (w4 ns (.dat (.int m)) (.dat (.lst [.lst (tbL t1), .lst (tbL t2)])) .no .no .no) = .ok (.ol [hsD n1 t1, hsD n2 t2]) := by
    have e := lcF_map (vs := [6]) (l := srcE (varE 2)) (b := bN 6) (tt := yesT) (f := fzE (mcO M__law_made (consL (varE 6) nilL))) (ρ := w4 ns (.dat (.int m)) (.dat (.lst [.lst (tbL t1), .lst (tbL t2)])) .no .no .no) (ds := [.lst (tbL t1), .lst (tbL t2)]) (fun d => match M__law_made [d] with | .ok (.dat z) => z | _ => .non) (by simp [srcD, w4]) rfl (by simp [two_cap]) fun d m => by
      simp only [List.mem_cons, List.not_mem_nil, or_false] at m
      rcases m with rfl | rfl
      · simp [lcSt, bN, wipeS, em1, w4]
      · simp [lcSt, bN, wipeS, em2, w4]
    have e2 : ([.lst (tbL t1), .lst (tbL t2)] : List D).map (fun d => match M__law_made [d] with | .ok (.dat z) => z | _ => .non) = [hsD n1 t1, hsD n2 t2] := by
      rw [List.map_cons, List.map_cons, List.map_nil, em1, em2]
    rw [e2] at e
    exact e
  have md1 := m_depths ok1
  have md2 := m_depths ok2
  have mr1 := m_right4 ok1
  have mr2 := m_right4 ok2
  have hl2 : (dpT n2 t2).length < cap := by
    unfold dpT
    rw [List.length_map]
    have := bsA_len ok2.n2 (tb := t2)
    unfold cap; omega
  unfold M_law bodyM F_law
  rw [show ([D.scr ns].map Sl.dat ++ List.replicate (8 - [D.scr ns].length) Sl.no) = w4 ns .no .no .no .no .no from rfl]
  rw [seq_nx em]
  rw [seq_nx s2]
  rw [seq_nx (ρ1 := w4 ns (.dat (.int m)) (.dat (.lst [.lst (tbL t1), .lst (tbL t2)])) (.dat (.lst [hsD n1 t1, hsD n2 t2])) .no .no) (by
    unfold stF
    rw [fzE_ok eh, lf_ok, if_pos (by show 3 < 8; omega)]; rfl)]
  rw [seq_nx (told_core md1 md2)]
  rw [seq_nx (kept_core (copy_dp ok1.n2) vInts_some)]
  rw [seq_nx (test_core mr1 mr2)]
  rw [seq_nx (ρ1 := w4 ns (.dat (.int m)) (.dat (.lst [.lst (tbL t1), .lst (tbL t2)])) (.dat (.lst [hsD n1 t1, hsD n2 t2])) (.oD [[], dpT n2 t2]) (.oT (dpT n1 t1))) rfl]
  rw [seq_nx (put_core hl2)]
  rw [end_core4 md1 md2 mr2 eqT_dp]
end

end PL

/-! D_k04: derivations. -/
namespace PL
open PySem PySem.Spec L2
def top (i : Nat) : Stmt := PySem.Challenge.pw_onehome_k04_whole_depths.main.body.getD i (.Pass ⟨0, 0, 0, 0⟩)
def clsBody (s : Stmt) : List Stmt := match s with
  | .ClassDef _ _ _ b _ _ _ _ _ _ _ => b
  | _ => []
def inner (i j : Nat) : Stmt := (clsBody (top i)).getD j (.Pass ⟨0, 0, 0, 0⟩)
/-- what of the names is leaned on -/
structure Gf (Y : Yx) (mg : Str → Option Value) : Prop where
  cls : Cls Y.K Y.C
  at_many : NoAttr Y.K Y.C "many"
  at_moves : NoAttr Y.K Y.C "moves"
  c_LETTERS : ∃ t, mg "LETTERS" = some (.str "abcdefghijklmnopqrstuvwxyz" t)
  c_MOST_BUTTONS : ∃ t, mg "MOST_BUTTONS" = some (.int 5 t)
  c_MOST_ROOMS : ∃ t, mg "MOST_ROOMS" = some (.int 10 t)
  x_BadHouse : ExcF Y mg 1 "BadHouse"
  f_all : mg "all" = none
  f_bool : mg "bool" = none
  f_dict : mg "dict" = none
  f_int : mg "int" = none
  f_isinstance : mg "isinstance" = none
  f_len : mg "len" = none
  f_list : mg "list" = none
  f_max : mg "max" = none
  f_min : mg "min" = none
  f_range : mg "range" = none
  f_set : mg "set" = none
  f_sorted : mg "sorted" = none
  f_str : mg "str" = none
  f_tuple : mg "tuple" = none
variable {Y : Yx} {P : Program} {w : World} {mg : Str → Option Value} {base : Heap} {f : Addr} {fd : FuncData}
abbrev s_images_by : Stmt := top 2
abbrev Nm_images_by : List Str := ["rooms", "found", "bits", "last"]
theorem sc_images_by : FnScope ["rooms", "found", "bits", "last"] ["rooms"] (defScope s_images_by) := ⟨rfl, rfl, rfl, by decide +kernel, rfl, by decide +kernel, by decide +kernel⟩
theorem ok_images_by (g : Gf Y mg) (Fd : FnP Y.K "images_by" "images_by" s_images_by f fd) (gm : mg "images_by" = some (.ref f))  : Fok Y P w mg base 1 "images_by" 1 M_images_by :=
  ⟨f, fd, ["rooms"], rfl, gm, Fd.kp, Fd.bindsN (fun _ _ _ _ _ _ us hl => match us, hl with | [_], _ => rfl), fnM_of Fd sc_images_by fun cdv A outer s H E gd hr => by
  have hN := sc_images_by.nd
  have tk := takes_of (X := cxOf (L2.CX P w) P w Y.K mg base ["rooms", "found", "bits", "last"] "images_by" (defScope s_images_by) f cdv A outer s H E) rfl rfl rfl rfl
  exact (sx_cons (sx_setO hN rfl (by first | exact .inl rfl | exact .inr rfl) (po_lst (ax_cons px_int ax_nil)))
  (sx_cons (sx_for (passes_of rfl) rfl (pi_rng2 rfl g.f_range (ax_cons px_int (ax_cons (px_op op_shl v_opIC px_int (px_callB o_len v_len rfl g.f_len (by decide +kernel) (ax_cons (px_var (pv 0)) ax_nil))) ax_nil))) (pg_name hN rfl (by first | exact .inl rfl | exact .inr rfl)) tg_name
  (sx_cons (sx_set hN rfl (by first | exact .inl rfl | exact .inr rfl) (px_op op_sub v_opI (px_bits (px_var (pv 2))) px_int))
  (sx_one (sx_lm PySem.F.slot_list_append PySem.F.type_list_append mt_append v_append (pv 1) (ax_cons (px_op op_or v_opI (px_ixo (pv 1) (px_op op_xor v_opI (px_var (pv 2)) (px_op op_shl v_opIC px_int (px_var (pv 3)))) fun _ _ => rfl) (px_op op_shl v_opIC px_int (px_idx (u1 hr) (px_var (pv 0)) (px_var (pv 3)) (fun _ _ => rfl)))) ax_nil)))))
  (sx_one (sx_retv (pv 1)))))⟩
abbrev s_rooms_of : Stmt := top 5
abbrev Nm_rooms_of : List Str := ["bits", "room"]
theorem sc_rooms_of : FnScope ["bits", "room"] ["bits"] (defScope s_rooms_of) := ⟨rfl, rfl, rfl, by decide +kernel, rfl, by decide +kernel, by decide +kernel⟩
theorem ok_rooms_of (g : Gf Y mg) (Fd : FnP Y.K "rooms_of" "rooms_of" s_rooms_of f fd) (gm : mg "rooms_of" = some (.ref f))  : Fok Y P w mg base 1 "rooms_of" 1 M_rooms_of :=
  ⟨f, fd, ["bits"], rfl, gm, Fd.kp, Fd.bindsN (fun _ _ _ _ _ _ us hl => match us, hl with | [_], _ => rfl), fnM_of Fd sc_rooms_of fun cdv A outer s H E gd hr => by
  have hN := sc_rooms_of.nd
  have tk := takes_of (X := cxOf (L2.CX P w) P w Y.K mg base ["bits", "room"] "rooms_of" (defScope s_rooms_of) f cdv A outer s H E) rfl rfl rfl rfl
  exact (sx_one (sx_reto (po_lc (own := [("room", 1)]) rfl hN (pi_rng1 rfl g.f_range (ax_cons (px_bits (px_var (pv 0))) ax_nil)) (blkOk_by (N := Nm_rooms_of) (sc := defScope s_rooms_of) (by decide +kernel)) (fun _ _ _ _ _ => (pg_name hN rfl (by first | exact .inl rfl | exact .inr rfl))) tg_name (by decide) (fun _ _ _ _ _ => ptx_one (pt_cmpP (o_eq (u64 hr)) v_eq (px_op op_and v_opI (px_op op_shr v_opIC (px_var (pv 0)) (px_var (pv 1))) px_int) px_int (nomark _))) (fun _ _ _ _ _ => (px_var (pv 1))))))⟩
abbrev s_is_among : Stmt := top 17
abbrev Nm_is_among : List Str := ["thing", "least", "most"]
theorem sc_is_among : FnScope ["thing", "least", "most"] ["thing", "least", "most"] (defScope s_is_among) := ⟨rfl, rfl, rfl, by decide +kernel, rfl, by decide +kernel, by decide +kernel⟩
theorem ok_is_among (g : Gf Y mg) (Fd : FnP Y.K "is_among" "is_among" s_is_among f fd) (gm : mg "is_among" = some (.ref f))  : Fok Y P w mg base 1 "is_among" 3 M_is_among :=
  ⟨f, fd, ["thing", "least", "most"], rfl, gm, Fd.kp, Fd.bindsN (fun _ _ _ _ _ _ us hl => match us, hl with | [_, _, _], _ => rfl), fnM_of Fd sc_is_among fun cdv A outer s H E gd hr => by
  have hN := sc_is_among.nd
  have tk := takes_of (X := cxOf (L2.CX P w) P w Y.K mg base ["thing", "least", "most"] "is_among" (defScope s_is_among) f cdv A outer s H E) rfl rfl rfl rfl
  exact (sx_one (sx_ret (px_and (px_isi rfl g.f_isinstance rfl g.f_int (by decide +kernel) rfl (px_var (pv 0))) (px_and (px_notP (px_isi rfl g.f_isinstance rfl g.f_bool (by decide +kernel) rfl (px_var (pv 0)))) (px_one (px_chain op_le op_le v_opB v_opB (px_var (pv 1)) (px_var (pv 0)) (px_var (pv 2))))))))⟩
abbrev s_is_letter : Stmt := top 18
abbrev Nm_is_letter : List Str := ["thing"]
theorem sc_is_letter : FnScope ["thing"] ["thing"] (defScope s_is_letter) := ⟨rfl, rfl, rfl, by decide +kernel, rfl, by decide +kernel, by decide +kernel⟩
theorem ok_is_letter (g : Gf Y mg) (Fd : FnP Y.K "is_letter" "is_letter" s_is_letter f fd) (gm : mg "is_letter" = some (.ref f))  : Fok Y P w mg base 1 "is_letter" 1 M_is_letter :=
  ⟨f, fd, ["thing"], rfl, gm, Fd.kp, Fd.bindsN (fun _ _ _ _ _ _ us hl => match us, hl with | [_], _ => rfl), fnM_of Fd sc_is_letter fun cdv A outer s H E gd hr => by
  have hN := sc_is_letter.nd
  have tk := takes_of (X := cxOf (L2.CX P w) P w Y.K mg base ["thing"] "is_letter" (defScope s_is_letter) f cdv A outer s H E) rfl rfl rfl rfl
  exact (sx_one (sx_ret (px_and (px_isi rfl g.f_isinstance rfl g.f_str (by decide +kernel) rfl (px_var (pv 0))) (px_and (px_cmp (o_eq (u64 hr)) v_eq (px_callB o_len v_len rfl g.f_len (by decide +kernel) (ax_cons (px_var (pv 0)) ax_nil)) px_int (nomark _)) (px_one (px_cmp (o_in (u65 hr)) v_in (px_var (pv 0)) (px_gstr rfl g.c_LETTERS) (by with_unfolding_all rfl)))))))⟩
abbrev s_House_size : Stmt := inner 21 1
abbrev Nm_House_size : List Str := ["self"]
theorem sc_House_size : FnScope ["self"] ["self"] (defScope s_House_size) := ⟨rfl, rfl, rfl, by decide +kernel, rfl, by decide +kernel, by decide +kernel⟩
theorem ok_House_size (g : Gf Y mg) (Fd : FnP Y.K "size" "House.size" s_House_size f fd) (mt : Meth Y.K Y.C "size" f)  : Mok Y P w mg base 1 "size" 1 M_House_size :=
  ⟨f, fd, ["self"], rfl, g.cls, mt, Fd.bindsN (fun _ _ _ _ _ _ us hl => match us, hl with | [_], _ => rfl), fnM_of Fd sc_House_size fun cdv A outer s H E gd hr => by
  have hN := sc_House_size.nd
  have tk := takes_of (X := cxOf (L2.CX P w) P w Y.K mg base ["self"] "House.size" (defScope s_House_size) f cdv A outer s H E) rfl rfl rfl rfl
  exact (sx_one (sx_ret (px_fldP rfl g.cls g.at_many (px_var (pv 0)) rfl)))⟩
abbrev s_House_table : Stmt := inner 21 3
abbrev Nm_House_table : List Str := ["self", "letter"]
theorem sc_House_table : FnScope ["self", "letter"] ["self"] (defScope s_House_table) := ⟨rfl, rfl, rfl, by decide +kernel, rfl, by decide +kernel, by decide +kernel⟩
theorem ok_House_table (g : Gf Y mg) (Fd : FnP Y.K "table" "House.table" s_House_table f fd) (mt : Meth Y.K Y.C "table" f)  : Mok Y P w mg base 1 "table" 1 M_House_table :=
  ⟨f, fd, ["self"], rfl, g.cls, mt, Fd.bindsN (fun _ _ _ _ _ _ us hl => match us, hl with | [_], _ => rfl), fnM_of Fd sc_House_table fun cdv A outer s H E gd hr => by
  have hN := sc_House_table.nd
  have tk := takes_of (X := cxOf (L2.CX P w) P w Y.K mg base ["self", "letter"] "House.table" (defScope s_House_table) f cdv A outer s H E) rfl rfl rfl rfl
  exact (sx_one (sx_ret (px_callTy call_tuple_of v_tuple rfl g.f_tuple (by decide +kernel) (ax_cons (px_o (po_lcK (own := [("letter", 1)]) rfl hN (dex_fld rfl g.cls g.at_moves (pv 0) rfl) (blkOk_by (N := Nm_House_table) (sc := defScope s_House_table) (by decide +kernel)) (fun _ _ _ _ _ => (pg_name hN rfl (by first | exact .inl rfl | exact .inr rfl))) tg_name (by decide) (fun _ _ _ _ _ => ptx_nil) (fun _ _ _ _ _ => (px_tup (ax_cons (px_var (pv 1)) (ax_cons (px_idx (u1 hr) (px_fldP rfl g.cls g.at_moves (px_var (pv 0)) rfl) (px_var (pv 1)) (fun _ _ => rfl)) ax_nil)))))) ax_nil))))⟩
abbrev s__law_mixed : Stmt := top 23
abbrev Nm__law_mixed : List Str := ["_law_cell", "_law_k", "_law_number_here"]
theorem sc__law_mixed : FnScope ["_law_cell", "_law_k", "_law_number_here"] ["_law_cell", "_law_k"] (defScope s__law_mixed) := ⟨rfl, rfl, rfl, by decide +kernel, rfl, by decide +kernel, by decide +kernel⟩
theorem ok__law_mixed (g : Gf Y mg) (Fd : FnP Y.K "_law_mixed" "_law_mixed" s__law_mixed f fd) (gm : mg "_law_mixed" = some (.ref f))  : Fok Y P w mg base 1 "_law_mixed" 2 M__law_mixed :=
  ⟨f, fd, ["_law_cell", "_law_k"], rfl, gm, Fd.kp, Fd.bindsN (fun _ _ _ _ _ _ us hl => match us, hl with | [_, _], _ => rfl), fnM_of Fd sc__law_mixed fun cdv A outer s H E gd hr => by
  have hN := sc__law_mixed.nd
  have tk := takes_of (X := cxOf (L2.CX P w) P w Y.K mg base ["_law_cell", "_law_k", "_law_number_here"] "_law_mixed" (defScope s__law_mixed) f cdv A outer s H E) rfl rfl rfl rfl
  exact (sx_cons (sx_set hN rfl (by first | exact .inl rfl | exact .inr rfl) (px_op op_mod v_opIC (px_op o_mul v_mul (px_op o_add v_add (px_op o_add v_add (px_op o_add v_add (px_op op_mod v_opIC (px_var (pv 0)) px_int) (px_op o_mul v_mul (px_op o_mul v_mul px_int (px_var (pv 1))) (px_var (pv 1)))) (px_op o_mul v_mul px_int (px_var (pv 1)))) px_int) px_int) px_int))
  (sx_one (sx_ret (px_op op_fdiv v_opIC (px_op op_mod v_opIC (px_op o_mul v_mul (px_var (pv 2)) (px_op o_add v_add (px_op op_mod v_opIC (px_var (pv 2)) px_int) px_int)) px_int) px_int))))⟩
abbrev s__law_sets : Stmt := top 31
abbrev Nm__law_sets : List Str := ["_law_size", "_law_found", "_law_room", "_law_some"]
theorem sc__law_sets : FnScope ["_law_size", "_law_found", "_law_room", "_law_some"] ["_law_size"] (defScope s__law_sets) := ⟨rfl, rfl, rfl, by decide +kernel, rfl, by decide +kernel, by decide +kernel⟩
theorem ok__law_sets (g : Gf Y mg) (Fd : FnP Y.K "_law_sets" "_law_sets" s__law_sets f fd) (gm : mg "_law_sets" = some (.ref f))  : Fok Y P w mg base 1 "_law_sets" 1 M__law_sets :=
  ⟨f, fd, ["_law_size"], rfl, gm, Fd.kp, Fd.bindsN (fun _ _ _ _ _ _ us hl => match us, hl with | [_], _ => rfl), fnM_of Fd sc__law_sets fun cdv A outer s H E gd hr => by
  have hN := sc__law_sets.nd
  have tk := takes_of (X := cxOf (L2.CX P w) P w Y.K mg base ["_law_size", "_law_found", "_law_room", "_law_some"] "_law_sets" (defScope s__law_sets) f cdv A outer s H E) rfl rfl rfl rfl
  exact (sx_cons (sx_set hN rfl (by first | exact .inl rfl | exact .inr rfl) (px_o (po_lst (ax_cons (px_tup ax_nil) ax_nil))))
  (sx_cons (sx_for (passes_of rfl) rfl (pi_rng1 rfl g.f_range (ax_cons (px_var (pv 0)) ax_nil)) (pg_name hN rfl (by first | exact .inl rfl | exact .inr rfl)) tg_name
  (sx_one (sx_set hN rfl (by first | exact .inl rfl | exact .inr rfl) (px_op o_add v_add (px_var (pv 1)) (px_o (po_lc (own := [("_law_some", 3)]) rfl hN (pi_src rfl (px_var (pv 1))) (blkOk_by (N := Nm__law_sets) (sc := defScope s__law_sets) (by decide +kernel)) (fun _ _ _ _ _ => (pg_name hN rfl (by first | exact .inl rfl | exact .inr rfl))) tg_name (by decide) (fun _ _ _ _ _ => ptx_nil) (fun _ _ _ _ _ => (px_op o_add v_add (px_var (pv 3)) (px_tup (ax_cons (px_var (pv 2)) ax_nil))))))))))
  (sx_one (sx_reto (po_slice rfl (px_var (pv 1)) (ppx_some px_int) ppx_none)))))⟩
abbrev s_set_images : Stmt := top 3
abbrev Nm_set_images : List Str := ["house", "letter", "rooms"]
theorem sc_set_images : FnScope ["house", "letter", "rooms"] ["house"] (defScope s_set_images) := ⟨rfl, rfl, rfl, by decide +kernel, rfl, by decide +kernel, by decide +kernel⟩
theorem ok_set_images (g : Gf Y mg) (Fd : FnP Y.K "set_images" "set_images" s_set_images f fd) (gm : mg "set_images" = some (.ref f)) (c_images_by : Fok Y P w mg base 1 "images_by" 1 M_images_by) (c_House_table : Mok Y P w mg base 1 "table" 1 M_House_table) : Fok Y P w mg base 2 "set_images" 1 M_set_images :=
  ⟨f, fd, ["house"], rfl, gm, Fd.kp, Fd.bindsN (fun _ _ _ _ _ _ us hl => match us, hl with | [_], _ => rfl), fnM_of Fd sc_set_images fun cdv A outer s H E gd hr => by
  have hN := sc_set_images.nd
  have tk := takes_of (X := cxOf (L2.CX P w) P w Y.K mg base ["house", "letter", "rooms"] "set_images" (defScope s_set_images) f cdv A outer s H E) rfl rfl rfl rfl
  exact (sx_one (sx_reto (po_lc (own := [("letter", 1), ("rooms", 2)]) rfl hN (pi_src rfl (px_o (po_meth0 (pl := _) (c_House_table.up (by decide)) rfl gd hr tk (px_var (pv 0))))) (blkOk_by (N := Nm_set_images) (sc := defScope s_set_images) (by decide +kernel)) (fun _ _ _ _ _ => (pg_tup rfl (pgs_cons (pg_name hN rfl (by first | exact .inl rfl | exact .inr rfl)) (pgs_cons (pg_name hN rfl (by first | exact .inl rfl | exact .inr rfl)) pgs_nil)))) (tg_tup (tgs_cons tg_name (tgs_cons tg_name tgs_nil)) (lenCons (lenCons lenNil))) (by decide) (fun _ _ _ _ _ => ptx_nil) (fun _ _ _ _ _ => (px_o (po_call (c_images_by.up (by decide)) rfl gd hr takes_none5 rfl (ax_cons (px_var (pv 2)) ax_nil) (consL_len nilL_len)))))))⟩
abbrev s_need_button : Stmt := top 19
abbrev Nm_need_button : List Str := ["size", "button", "seen", "rooms", "room"]
theorem sc_need_button : FnScope ["size", "button", "seen", "rooms", "room"] ["size", "button", "seen"] (defScope s_need_button) := ⟨rfl, rfl, rfl, by decide +kernel, rfl, by decide +kernel, by decide +kernel⟩
theorem ok_need_button (g : Gf Y mg) (Fd : FnP Y.K "need_button" "need_button" s_need_button f fd) (gm : mg "need_button" = some (.ref f)) (c_is_letter : Fok Y P w mg base 1 "is_letter" 1 M_is_letter) (c_is_among : Fok Y P w mg base 1 "is_among" 3 M_is_among) : Fok Y P w mg base 2 "need_button" 3 M_need_button :=
  ⟨f, fd, ["size", "button", "seen"], rfl, gm, Fd.kp, Fd.bindsN (fun _ _ _ _ _ _ us hl => match us, hl with | [_, _, _], _ => rfl), fnM_of Fd sc_need_button fun cdv A outer s H E gd hr => by
  have hN := sc_need_button.nd
  have tk := takes_of (X := cxOf (L2.CX P w) P w Y.K mg base ["size", "button", "seen", "rooms", "room"] "need_button" (defScope s_need_button) f cdv A outer s H E) rfl rfl rfl rfl
  exact (sx_cons (sx_if (pt_w (pw_orP (pt_notP (pt_px (px_isi rfl g.f_isinstance rfl g.f_tuple (by decide +kernel) rfl (px_var (pv 1))))) (pw_orP (pt_cmpP (o_ne (u64 hr)) v_ne (px_callB o_len v_len rfl g.f_len (by decide +kernel) (ax_cons (px_var (pv 1)) ax_nil)) px_int (nomark _)) (pw_orP (pt_notP (pt_px (px_o (po_call (c_is_letter.up (by decide)) rfl gd hr tk rfl (ax_cons (px_idx (u1 hr) (px_var (pv 1)) px_int (fun _ _ => rfl)) ax_nil) (consL_len nilL_len))))) (pw_or1P (pt_cmpP (o_in (u65 hr)) v_in (px_idx (u1 hr) (px_var (pv 1)) px_int (fun _ _ => rfl)) (px_var (pv 2)) (by with_unfolding_all rfl)))))))
  (sx_one (sx_raiseE (c := 1) rfl rfl tk g.x_BadHouse rfl))
  sx_nil)
  (sx_cons (sx_set hN rfl (by first | exact .inl rfl | exact .inr rfl) (px_idx (u1 hr) (px_var (pv 1)) px_int (fun _ _ => rfl)))
  (sx_one (sx_if (pt_w (pw_orP (pt_notP (pt_px (px_isi rfl g.f_isinstance rfl g.f_list (by decide +kernel) rfl (px_var (pv 3))))) (pw_orP (pt_cmpP (o_ne (u64 hr)) v_ne (px_callB o_len v_len rfl g.f_len (by decide +kernel) (ax_cons (px_var (pv 3)) ax_nil)) (px_var (pv 0)) (nomark _)) (pw_or1P (pt_notP (pt_px (px_callB (cr_all rfl) v_all rfl g.f_all (by decide +kernel) (ax_cons (px_o (po_lc (own := [("room", 4)]) rfl hN (pi_src rfl (px_var (pv 3))) (blkOk_by (N := Nm_need_button) (sc := defScope s_need_button) (by decide +kernel)) (fun _ _ _ _ _ => (pg_name hN rfl (by first | exact .inl rfl | exact .inr rfl))) tg_name (by decide) (fun _ _ _ _ _ => ptx_nil) (fun _ _ _ _ _ => (px_o (po_call (c_is_among.up (by decide)) rfl gd hr takes_none5 rfl (ax_cons (px_var (pv 4)) (ax_cons px_int (ax_cons (px_op op_sub v_opI (px_var (pv 0)) px_int) ax_nil))) (consL_len (consL_len (consL_len nilL_len)))))))) ax_nil))))))))
  (sx_one (sx_raiseE (c := 1) rfl rfl tk g.x_BadHouse rfl))
  sx_nil))))⟩
abbrev s__law_number : Stmt := top 24
abbrev Nm__law_number : List Str := ["_law_script", "_law_k", "_law_cell"]
theorem sc__law_number : FnScope ["_law_script", "_law_k", "_law_cell"] ["_law_script", "_law_k"] (defScope s__law_number) := ⟨rfl, rfl, rfl, by decide +kernel, rfl, by decide +kernel, by decide +kernel⟩
theorem ok__law_number (g : Gf Y mg) (Fd : FnP Y.K "_law_number" "_law_number" s__law_number f fd) (gm : mg "_law_number" = some (.ref f)) (c__law_mixed : Fok Y P w mg base 1 "_law_mixed" 2 M__law_mixed) : Fok Y P w mg base 2 "_law_number" 2 M__law_number :=
  ⟨f, fd, ["_law_script", "_law_k"], rfl, gm, Fd.kp, Fd.bindsN (fun _ _ _ _ _ _ us hl => match us, hl with | [_, _], _ => rfl), fnM_of Fd sc__law_number fun cdv A outer s H E gd hr => by
  have hN := sc__law_number.nd
  have tk := takes_of (X := cxOf (L2.CX P w) P w Y.K mg base ["_law_script", "_law_k", "_law_cell"] "_law_number" (defScope s__law_number) f cdv A outer s H E) rfl rfl rfl rfl
  exact (sx_cons (sx_set hN rfl (by first | exact .inl rfl | exact .inr rfl) px_int)
  (sx_cons (sx_if (pt_cmpP op_gt v_opB (px_callB o_len v_len rfl g.f_len (by decide +kernel) (ax_cons (px_var (pv 0)) ax_nil)) px_int (nomark _))
  (sx_one (sx_set hN rfl (by first | exact .inl rfl | exact .inr rfl) (px_idx (u1 hr) (px_var (pv 0)) (px_op op_mod v_opIC (px_var (pv 1)) (px_callB o_len v_len rfl g.f_len (by decide +kernel) (ax_cons (px_var (pv 0)) ax_nil))) (fun _ _ => rfl))))
  sx_nil)
  (sx_one (sx_reto (po_call (c__law_mixed.up (by decide)) rfl gd hr tk rfl (ax_cons (px_var (pv 2)) (ax_cons (px_var (pv 1)) ax_nil)) (consL_len (consL_len nilL_len)))))))⟩
abbrev s__law_right : Stmt := top 32
abbrev Nm__law_right : List Str := ["_law_found", "_law_table_here", "_law_size", "_law_sets_here", "_law_known", "_law_some", "_law_near", "_law_letter", "_law_rooms", "_law_behind", "_law_due", "_law_room"]
theorem sc__law_right : FnScope ["_law_found", "_law_table_here", "_law_size", "_law_sets_here", "_law_known", "_law_some", "_law_near", "_law_letter", "_law_rooms", "_law_behind", "_law_due", "_law_room"] ["_law_found", "_law_table_here"] (defScope s__law_right) := ⟨rfl, rfl, rfl, by decide +kernel, rfl, by decide +kernel, by decide +kernel⟩
theorem ok__law_right (g : Gf Y mg) (Fd : FnP Y.K "_law_right" "_law_right" s__law_right f fd) (gm : mg "_law_right" = some (.ref f)) (c__law_sets : Fok Y P w mg base 1 "_law_sets" 1 M__law_sets) : Fok Y P w mg base 2 "_law_right" 2 M__law_right :=
  ⟨f, fd, ["_law_found", "_law_table_here"], rfl, gm, Fd.kp, Fd.bindsN (fun _ _ _ _ _ _ us hl => match us, hl with | [_, _], _ => rfl), fnM_of Fd sc__law_right fun cdv A outer s H E gd hr => by
  have hN := sc__law_right.nd
  have tk := takes_of (X := cxOf (L2.CX P w) P w Y.K mg base ["_law_found", "_law_table_here", "_law_size", "_law_sets_here", "_law_known", "_law_some", "_law_near", "_law_letter", "_law_rooms", "_law_behind", "_law_due", "_law_room"] "_law_right" (defScope s__law_right) f cdv A outer s H E) rfl rfl rfl rfl
  exact (sx_cons (sx_set hN rfl (by first | exact .inl rfl | exact .inr rfl) (px_callB o_len v_len rfl g.f_len (by decide +kernel) (ax_cons (px_idx (u1 hr) (px_idx (u1 hr) (px_var (pv 1)) px_int (fun _ _ => rfl)) px_int (fun _ _ => rfl)) ax_nil)))
  (sx_cons (sx_set hN rfl (by first | exact .inl rfl | exact .inr rfl) (px_o (po_call (c__law_sets.up (by decide)) rfl gd hr tk rfl (ax_cons (px_var (pv 2)) ax_nil) (consL_len nilL_len))))
  (sx_cons (sx_set hN rfl (by first | exact .inl rfl | exact .inr rfl) (px_o (po_callTy (cr_dictT rfl (u65 hr)) v_dictT rfl g.f_dict (by decide +kernel) (ax_cons (px_o (po_lc (own := [("_law_some", 5)]) rfl hN (pi_src rfl (px_var (pv 3))) (blkOk_by (N := Nm__law_right) (sc := defScope s__law_right) (by decide +kernel)) (fun _ _ _ _ _ => (pg_name hN rfl (by first | exact .inl rfl | exact .inr rfl))) tg_name (by decide) (fun _ _ _ _ _ => ptx_nil) (fun _ _ _ _ _ => (px_tup (ax_cons (px_var (pv 5)) (ax_cons px_bl ax_nil)))))) ax_nil))))
  (sx_cons (sx_if (pt_w (pw_orP (pt_notP (pt_px (px_isiD rfl g.f_isinstance rfl g.f_dict (by decide +kernel) rfl (px_var (pv 0))))) (pw_or1P (pt_cmpP (o_ne (u64 hr)) v_ne (px_o (po_lcKT (own := [("_law_some", 5)]) rfl hN (dex_var (pv 0)) (blkOk_by (N := Nm__law_right) (sc := defScope s__law_right) (by decide +kernel)) (fun _ _ _ _ _ => (pg_name hN rfl (by first | exact .inl rfl | exact .inr rfl))) tg_name (by decide) (fun _ _ _ _ _ => ptx_one (pt_cmpP (o_nin (u65 hr)) v_nin (px_var (pv 5)) (px_var (pv 4)) (by with_unfolding_all rfl))) (fun _ _ _ _ _ => (px_var (pv 5))))) (px_o (po_lst ax_nil)) (nomark _)))))
  (sx_one (sx_ret px_bl))
  sx_nil)
  (sx_cons (sx_for (passes_of rfl) rfl (pi_src rfl (px_var (pv 3))) (pg_name hN rfl (by first | exact .inl rfl | exact .inr rfl)) tg_name
  (sx_cons (sx_setO hN rfl (by first | exact .inl rfl | exact .inr rfl) (po_lst ax_nil))
  (sx_cons (sx_for (passes_of rfl) rfl (pi_src rfl (px_var (pv 1))) (pg_tup rfl (pgs_cons (pg_name hN rfl (by first | exact .inl rfl | exact .inr rfl)) (pgs_cons (pg_name hN rfl (by first | exact .inl rfl | exact .inr rfl)) pgs_nil))) (tg_tup (tgs_cons tg_name (tgs_cons tg_name tgs_nil)) (lenCons (lenCons lenNil)))
  (sx_cons (sx_set hN rfl (by first | exact .inl rfl | exact .inr rfl) (px_callTy call_tuple_of v_tuple rfl g.f_tuple (by decide +kernel) (ax_cons (px_o (po_sortedSet rfl rfl rfl g.f_sorted rfl g.f_set (px_o (po_lc (own := [("_law_room", 11)]) rfl hN (pi_src rfl (px_var (pv 5))) (blkOk_by (N := Nm__law_right) (sc := defScope s__law_right) (by decide +kernel)) (fun _ _ _ _ _ => (pg_name hN rfl (by first | exact .inl rfl | exact .inr rfl))) tg_name (by decide) (fun _ _ _ _ _ => ptx_nil) (fun _ _ _ _ _ => (px_idx (u1 hr) (px_var (pv 8)) (px_var (pv 11)) (fun _ _ => rfl))))))) ax_nil)))
  (sx_one (sx_if (pt_cmpP (o_in (u65 hr)) v_in (px_var (pv 9)) (px_var (pv 0)) (by with_unfolding_all rfl))
  (sx_one (sx_lm PySem.F.slot_list_append PySem.F.type_list_append mt_append v_append (pv 6) (ax_cons (px_idx (u1 hr) (px_var (pv 0)) (px_var (pv 9)) (fun _ _ => rfl)) ax_nil)))
  sx_nil))))
  (sx_cons (sx_if (pt_cmpP (o_nin (u65 hr)) v_nin (px_var (pv 5)) (px_var (pv 0)) (by with_unfolding_all rfl))
  (sx_cons (sx_if (pt_w (pw_orP (pt_view (pt_cmpP (o_ne (u64 hr)) v_ne (px_var (pv 6)) (px_o (po_lst ax_nil)) (nomark _))) (pw_or1P (pt_cmpP (o_eq (u64 hr)) v_eq (px_callB o_len v_len rfl g.f_len (by decide +kernel) (ax_cons (px_var (pv 5)) ax_nil)) px_int (nomark _)))))
  (sx_one (sx_ret px_bl))
  sx_nil)
  (sx_one sx_continue))
  sx_nil)
  (sx_cons (sx_set hN rfl (by first | exact .inl rfl | exact .inr rfl) (px_if (pt_cmpP (o_eq (u64 hr)) v_eq (px_callB o_len v_len rfl g.f_len (by decide +kernel) (ax_cons (px_var (pv 5)) ax_nil)) px_int (nomark _)) px_int (px_op o_add v_add px_int (px_view (px_callB (o_min1 rfl (u65 hr)) v_min1 rfl g.f_min (by decide +kernel) (ax_cons (px_op o_add v_add (px_var (pv 6)) (px_o (po_lst (ax_cons (px_op op_pow v_opIC px_int px_int) ax_nil)))) ax_nil))))))
  (sx_one (sx_if (pt_w (pw_orP (pt_px (px_isi rfl g.f_isinstance rfl g.f_bool (by decide +kernel) rfl (px_idx (u1 hr) (px_var (pv 0)) (px_var (pv 5)) (fun _ _ => rfl)))) (pw_orP (pt_notP (pt_px (px_isi rfl g.f_isinstance rfl g.f_int (by decide +kernel) rfl (px_idx (u1 hr) (px_var (pv 0)) (px_var (pv 5)) (fun _ _ => rfl))))) (pw_or1P (pt_cmpP (o_ne (u64 hr)) v_ne (px_idx (u1 hr) (px_var (pv 0)) (px_var (pv 5)) (fun _ _ => rfl)) (px_var (pv 10)) (nomark _))))))
  (sx_one (sx_ret px_bl))
  sx_nil)))))))
  (sx_one (sx_ret px_bl)))))))⟩
abbrev s_set_levels : Stmt := top 4
abbrev Nm_set_levels : List Str := ["house", "askers", "images", "bits", "waiting", "found", "at", "room"]
theorem sc_set_levels : FnScope ["house", "askers", "images", "bits", "waiting", "found", "at", "room"] ["house"] (defScope s_set_levels) := ⟨rfl, rfl, rfl, by decide +kernel, rfl, by decide +kernel, by decide +kernel⟩
theorem ok_set_levels (g : Gf Y mg) (Fd : FnP Y.K "set_levels" "set_levels" s_set_levels f fd) (gm : mg "set_levels" = some (.ref f)) (c_set_images : Fok Y P w mg base 2 "set_images" 1 M_set_images) (c_House_size : Mok Y P w mg base 1 "size" 1 M_House_size) : Fok Y P w mg base 3 "set_levels" 1 M_set_levels :=
  ⟨f, fd, ["house"], rfl, gm, Fd.kp, Fd.bindsN (fun _ _ _ _ _ _ us hl => match us, hl with | [_], _ => rfl), fnM_of Fd sc_set_levels fun cdv A outer s H E gd hr => by
  have hN := sc_set_levels.nd
  have tk := takes_of (X := cxOf (L2.CX P w) P w Y.K mg base ["house", "askers", "images", "bits", "waiting", "found", "at", "room"] "set_levels" (defScope s_set_levels) f cdv A outer s H E) rfl rfl rfl rfl
  exact (sx_cons (sx_setO hN rfl (by first | exact .inl rfl | exact .inr rfl) po_dnewN)
  (sx_cons (sx_for (passes_of rfl) rfl (pi_src rfl (px_o (po_call (c_set_images.up (by decide)) rfl gd hr tk rfl (ax_cons (px_var (pv 0)) ax_nil) (consL_len nilL_len)))) (pg_name hN rfl (by first | exact .inl rfl | exact .inr rfl)) tg_name
  (sx_one (sx_for (passes_of rfl) rfl (pi_rng2 rfl g.f_range (ax_cons px_int (ax_cons (px_callB o_len v_len rfl g.f_len (by decide +kernel) (ax_cons (px_var (pv 2)) ax_nil)) ax_nil))) (pg_name hN rfl (by first | exact .inl rfl | exact .inr rfl)) tg_name
  (sx_one (sx_ask (u9 hr) (pv 1) (px_idx (u1 hr) (px_var (pv 2)) (px_var (pv 3)) (fun _ _ => rfl)) (px_var (pv 3)) ⟨rfl, rfl, rfl, rfl⟩)))))
  (sx_cons (sx_setLc (own := [("room", 7)]) rfl hN rfl rfl rfl (pi_rng1 rfl g.f_range (ax_cons (px_o (po_meth0 (pl := _) (c_House_size.up (by decide)) rfl gd hr tk (px_var (pv 0)))) ax_nil)) (blkOk_by (N := Nm_set_levels) (sc := defScope s_set_levels) (by decide +kernel)) (fun _ _ _ _ _ => (pg_name hN rfl (by first | exact .inl rfl | exact .inr rfl))) tg_name (by decide) (fun _ _ _ _ _ => ptx_nil) (fun _ _ _ _ _ => (px_op op_shl v_opIC px_int (px_var (pv 7)))))
  (sx_cons (sx_setO hN rfl (by first | exact .inl rfl | exact .inr rfl) (po_callTy (call_dictP rfl) v_dict rfl g.f_dict (by decide +kernel) (ax_cons (px_o (po_view (po_lc (own := [("bits", 3)]) rfl hN (pi_src rfl (px_var (pv 4))) (blkOk_by (N := Nm_set_levels) (sc := defScope s_set_levels) (by decide +kernel)) (fun _ _ _ _ _ => (pg_name hN rfl (by first | exact .inl rfl | exact .inr rfl))) tg_name (by decide) (fun _ _ _ _ _ => ptx_nil) (fun _ _ _ _ _ => (px_tup (ax_cons (px_var (pv 3)) (ax_cons px_int ax_nil))))))) ax_nil)))
  (sx_cons (sx_set hN rfl (by first | exact .inl rfl | exact .inr rfl) px_int)
  (sx_cons (sx_frzI (i := 1) (sx_while (passes_of rfl) (pt_view (pt_cmpP op_lt v_opB (px_var (pv 6)) (px_callB o_len v_len rfl g.f_len (by decide +kernel) (ax_cons (px_var (pv 4)) ax_nil)) (nomark _)))
  (sx_cons (sx_for (passes_of rfl) rfl (pi_src rfl (px_get3 (u65 hr) (px_var (pv 1)) (px_ixo (pv 4) (px_var (pv 6)) fun _ _ => rfl) (px_o (po_lst ax_nil)) ⟨rfl, rfl, rfl, rfl⟩)) (pg_name hN rfl (by first | exact .inl rfl | exact .inr rfl)) tg_name
  (sx_one (sx_if (pt_view (pt_cmpP (o_nin (u65 hr)) v_nin (px_var (pv 3)) (px_var (pv 5)) (by with_unfolding_all rfl)))
  (sx_cons (sx_dput (u65 hr) (pv 5) (px_var (pv 3)) (px_view (px_op o_add v_add (px_idx (u1 hr) (px_var (pv 5)) (px_idx (u1 hr) (px_var (pv 4)) (px_var (pv 6)) (fun _ _ => rfl)) (fun _ _ => rfl)) px_int)))
  (sx_one (sx_lm PySem.F.slot_list_append PySem.F.type_list_append mt_append v_append (pv 4) (ax_cons (px_var (pv 3)) ax_nil))))
  sx_nil)))
  (sx_one (sx_aug hN rfl (by first | exact .inl rfl | exact .inr rfl) px_int)))))
  (sx_one (sx_retv (pv 5)))))))))⟩
abbrev s_need_house : Stmt := top 20
abbrev Nm_need_house : List Str := ["size", "buttons", "seen", "button"]
theorem sc_need_house : FnScope ["size", "buttons", "seen", "button"] ["size", "buttons"] (defScope s_need_house) := ⟨rfl, rfl, rfl, by decide +kernel, rfl, by decide +kernel, by decide +kernel⟩
theorem ok_need_house (g : Gf Y mg) (Fd : FnP Y.K "need_house" "need_house" s_need_house f fd) (gm : mg "need_house" = some (.ref f)) (c_is_among : Fok Y P w mg base 1 "is_among" 3 M_is_among) (c_need_button : Fok Y P w mg base 2 "need_button" 3 M_need_button) : Fok Y P w mg base 3 "need_house" 2 M_need_house :=
  ⟨f, fd, ["size", "buttons"], rfl, gm, Fd.kp, Fd.bindsN (fun _ _ _ _ _ _ us hl => match us, hl with | [_, _], _ => rfl), fnM_of Fd sc_need_house fun cdv A outer s H E gd hr => by
  have hN := sc_need_house.nd
  have tk := takes_of (X := cxOf (L2.CX P w) P w Y.K mg base ["size", "buttons", "seen", "button"] "need_house" (defScope s_need_house) f cdv A outer s H E) rfl rfl rfl rfl
  exact (sx_cons (sx_if (pt_notP (pt_px (px_o (po_call (c_is_among.up (by decide)) rfl gd hr tk rfl (ax_cons (px_var (pv 0)) (ax_cons px_int (ax_cons (px_gint rfl g.c_MOST_ROOMS) ax_nil))) (consL_len (consL_len (consL_len nilL_len)))))))
  (sx_one (sx_raiseE (c := 1) rfl rfl tk g.x_BadHouse rfl))
  sx_nil)
  (sx_cons (sx_if (pt_w (pw_orP (pt_notP (pt_px (px_isi rfl g.f_isinstance rfl g.f_list (by decide +kernel) rfl (px_var (pv 1))))) (pw_or1P (pt_notP (pt_chainP op_le op_le v_opB v_opB px_int (px_callB o_len v_len rfl g.f_len (by decide +kernel) (ax_cons (px_var (pv 1)) ax_nil)) (px_gint rfl g.c_MOST_BUTTONS))))))
  (sx_one (sx_raiseE (c := 1) rfl rfl tk g.x_BadHouse rfl))
  sx_nil)
  (sx_cons (sx_setO hN rfl (by first | exact .inl rfl | exact .inr rfl) (po_lst ax_nil))
  (sx_one (sx_for (passes_of rfl) rfl (pi_src rfl (px_var (pv 1))) (pg_name hN rfl (by first | exact .inl rfl | exact .inr rfl)) tg_name
  (sx_cons (sx_expr (px_view (px_o (po_call (c_need_button.up (by decide)) rfl gd hr tk rfl (ax_cons (px_var (pv 0)) (ax_cons (px_var (pv 3)) (ax_cons (px_var (pv 2)) ax_nil))) (consL_len (consL_len (consL_len nilL_len)))))))
  (sx_one (sx_lm PySem.F.slot_list_append PySem.F.type_list_append mt_append v_append (pv 2) (ax_cons (px_idx (u1 hr) (px_var (pv 3)) px_int (fun _ _ => rfl)) ax_nil)))))))))⟩
abbrev s__law_table : Stmt := top 25
abbrev Nm__law_table : List Str := ["_law_script", "_law_at", "_law_size", "_law_many", "_law_first", "_law_table_here", "_law_k", "_law_cell", "_law_rooms", "_law_one", "_law_other", "_law_j", "_law_room"]
theorem sc__law_table : FnScope ["_law_script", "_law_at", "_law_size", "_law_many", "_law_first", "_law_table_here", "_law_k", "_law_cell", "_law_rooms", "_law_one", "_law_other", "_law_j", "_law_room"] ["_law_script", "_law_at", "_law_size", "_law_many"] (defScope s__law_table) := ⟨rfl, rfl, rfl, by decide +kernel, rfl, by decide +kernel, by decide +kernel⟩
theorem ok__law_table (g : Gf Y mg) (Fd : FnP Y.K "_law_table" "_law_table" s__law_table f fd) (gm : mg "_law_table" = some (.ref f)) (c__law_number : Fok Y P w mg base 2 "_law_number" 2 M__law_number) : Fok Y P w mg base 3 "_law_table" 4 M__law_table :=
  ⟨f, fd, ["_law_script", "_law_at", "_law_size", "_law_many"], rfl, gm, Fd.kp, Fd.bindsN (fun _ _ _ _ _ _ us hl => match us, hl with | [_, _, _, _], _ => rfl), fnM_of Fd sc__law_table fun cdv A outer s H E gd hr => by
  have hN := sc__law_table.nd
  have tk := takes_of (X := cxOf (L2.CX P w) P w Y.K mg base ["_law_script", "_law_at", "_law_size", "_law_many", "_law_first", "_law_table_here", "_law_k", "_law_cell", "_law_rooms", "_law_one", "_law_other", "_law_j", "_law_room"] "_law_table" (defScope s__law_table) f cdv A outer s H E) rfl rfl rfl rfl
  exact (sx_cons (sx_set hN rfl (by first | exact .inl rfl | exact .inr rfl) (px_o (po_call (c__law_number.up (by decide)) rfl gd hr tk rfl (ax_cons (px_var (pv 0)) (ax_cons (px_op o_add v_add (px_var (pv 1)) px_int) ax_nil)) (consL_len (consL_len nilL_len)))))
  (sx_cons (sx_setO hN rfl (by first | exact .inl rfl | exact .inr rfl) (po_lst ax_nil))
  (sx_cons (sx_for (passes_of rfl) rfl (pi_rng1 rfl g.f_range (ax_cons (px_var (pv 3)) ax_nil)) (pg_name hN rfl (by first | exact .inl rfl | exact .inr rfl)) tg_name
  (sx_cons (sx_set hN rfl (by first | exact .inl rfl | exact .inr rfl) (px_o (po_call (c__law_number.up (by decide)) rfl gd hr tk rfl (ax_cons (px_var (pv 0)) (ax_cons (px_op o_add v_add (px_op o_add v_add (px_var (pv 1)) px_int) (px_var (pv 6))) ax_nil)) (consL_len (consL_len nilL_len)))))
  (sx_cons (sx_setLc (own := [("_law_j", 11)]) rfl hN rfl rfl rfl (pi_rng1 rfl g.f_range (ax_cons (px_var (pv 2)) ax_nil)) (blkOk_by (N := Nm__law_table) (sc := defScope s__law_table) (by decide +kernel)) (fun _ _ _ _ _ => (pg_name hN rfl (by first | exact .inl rfl | exact .inr rfl))) tg_name (by decide) (fun _ _ _ _ _ => ptx_nil) (fun _ _ _ _ _ => (px_op op_mod v_opIC (px_op op_fdiv v_opIC (px_o (po_call (c__law_number.up (by decide)) rfl gd hr takes_none5 rfl (ax_cons (px_var (pv 0)) (ax_cons (px_op o_add v_add (px_op o_add v_add (px_var (pv 1)) (px_op o_mul v_mul px_int (px_var (pv 6)))) (px_var (pv 11))) ax_nil)) (consL_len (consL_len nilL_len)))) px_int) (px_var (pv 2)))))
  (sx_cons (sx_if (pt_cmpP (o_eq (u64 hr)) v_eq (px_op op_mod v_opIC (px_var (pv 7)) px_int) px_int (nomark _))
  (sx_one (sx_setLc (own := [("_law_j", 11)]) rfl hN rfl rfl rfl (pi_rng1 rfl g.f_range (ax_cons (px_var (pv 2)) ax_nil)) (blkOk_by (N := Nm__law_table) (sc := defScope s__law_table) (by decide +kernel)) (fun _ _ _ _ _ => (pg_name hN rfl (by first | exact .inl rfl | exact .inr rfl))) tg_name (by decide) (fun _ _ _ _ _ => ptx_nil) (fun _ _ _ _ _ => (px_op op_mod v_opIC (px_op o_add v_add (px_op o_add v_add (px_var (pv 11)) px_int) (px_op op_mod v_opIC (px_op op_fdiv v_opIC (px_var (pv 7)) px_int) (px_var (pv 2)))) (px_var (pv 2))))))
  sx_nil)
  (sx_cons (sx_if (pt_w (pw_orP (pt_cmpP (o_eq (u64 hr)) v_eq (px_op op_mod v_opIC (px_var (pv 7)) px_int) px_int (nomark _)) (pw_or1P (pt_cmpP (o_eq (u64 hr)) v_eq (px_op op_mod v_opIC (px_var (pv 7)) px_int) px_int (nomark _)))))
  (sx_cons (sx_par (i := 9) (j := 10) rfl hN rfl rfl (by decide) rfl rfl (ax_cons (px_op op_mod v_opIC (px_op op_fdiv v_opIC (px_var (pv 7)) px_int) (px_var (pv 2))) (ax_cons (px_op op_mod v_opIC (px_op op_fdiv v_opIC (px_var (pv 7)) px_int) (px_var (pv 2))) ax_nil)) rfl)
  (sx_cons (sx_setO hN rfl (by first | exact .inl rfl | exact .inr rfl) (po_listRg1 rfl rfl g.f_list rfl g.f_range (px_var (pv 2))))
  (sx_cons (sx_seti (pv 8) (px_var (pv 9)) (px_var (pv 10)))
  (sx_one (sx_if (pt_cmpP (o_eq (u64 hr)) v_eq (px_op op_mod v_opIC (px_var (pv 7)) px_int) px_int (nomark _))
  (sx_one (sx_seti (pv 8) (px_var (pv 10)) (px_var (pv 9))))
  sx_nil)))))
  sx_nil)
  (sx_cons (sx_if (pt_cmpP (o_eq (u64 hr)) v_eq (px_op op_mod v_opIC (px_var (pv 7)) px_int) px_int (nomark _))
  (sx_one (sx_frzI (i := 8) (sx_setLc (own := [("_law_room", 12)]) rfl hN rfl rfl rfl (pi_src rfl (px_var (pv 8))) (blkOk_by (N := Nm__law_table) (sc := defScope s__law_table) (by decide +kernel)) (fun _ _ _ _ _ => (pg_name hN rfl (by first | exact .inl rfl | exact .inr rfl))) tg_name (by decide) (fun _ _ _ _ _ => ptx_nil) (fun _ _ _ _ _ => (px_op op_mod v_opIC (px_var (pv 12)) (px_op o_add v_add px_int (px_op op_mod v_opIC (px_op op_fdiv v_opIC (px_var (pv 7)) px_int) (px_var (pv 2)))))))))
  sx_nil)
  (sx_one (sx_frzI (i := 8) (sx_lm PySem.F.slot_list_append PySem.F.type_list_append mt_append v_append (pv 5) (ax_cons (px_tup (ax_cons (px_idx (u1 hr) px_str (px_op op_mod v_opIC (px_op o_add v_add (px_var (pv 4)) (px_op o_mul v_mul px_int (px_var (pv 6)))) px_int) (fun _ _ => rfl)) (ax_cons (px_var (pv 8)) ax_nil))) ax_nil))))))))))
  (sx_one (sx_retv (pv 5))))))⟩
abbrev s_depths : Stmt := top 6
abbrev Nm_depths : List Str := ["house", "levels", "bits"]
theorem sc_depths : FnScope ["house", "levels", "bits"] ["house"] (defScope s_depths) := ⟨rfl, rfl, rfl, by decide +kernel, rfl, by decide +kernel, by decide +kernel⟩
theorem ok_depths (g : Gf Y mg) (Fd : FnP Y.K "depths" "depths" s_depths f fd) (gm : mg "depths" = some (.ref f)) (c_set_levels : Fok Y P w mg base 3 "set_levels" 1 M_set_levels) (c_rooms_of : Fok Y P w mg base 1 "rooms_of" 1 M_rooms_of) : Fok Y P w mg base 4 "depths" 1 M_depths :=
  ⟨f, fd, ["house"], rfl, gm, Fd.kp, Fd.bindsN (fun _ _ _ _ _ _ us hl => match us, hl with | [_], _ => rfl), fnM_of Fd sc_depths fun cdv A outer s H E gd hr => by
  have hN := sc_depths.nd
  have tk := takes_of (X := cxOf (L2.CX P w) P w Y.K mg base ["house", "levels", "bits"] "depths" (defScope s_depths) f cdv A outer s H E) rfl rfl rfl rfl
  exact (sx_cons (sx_set hN rfl (by first | exact .inl rfl | exact .inr rfl) (px_o (po_call (c_set_levels.up (by decide)) rfl gd hr tk rfl (ax_cons (px_var (pv 0)) ax_nil) (consL_len nilL_len))))
  (sx_one (sx_reto (po_callTy (cr_dictT rfl (u65 hr)) v_dictT rfl g.f_dict (by decide +kernel) (ax_cons (px_o (po_lc (own := [("bits", 2)]) rfl hN (pi_src rfl (px_o (po_callB (o_sorted rfl) v_sorted rfl g.f_sorted (by decide +kernel) (ax_cons (px_var (pv 1)) ax_nil)))) (blkOk_by (N := Nm_depths) (sc := defScope s_depths) (by decide +kernel)) (fun _ _ _ _ _ => (pg_name hN rfl (by first | exact .inl rfl | exact .inr rfl))) tg_name (by decide) (fun _ _ _ _ _ => ptx_nil) (fun _ _ _ _ _ => (px_tup (ax_cons (px_callTy call_tuple_of v_tuple rfl g.f_tuple (by decide +kernel) (ax_cons (px_o (po_call (c_rooms_of.up (by decide)) rfl gd hr takes_none5 rfl (ax_cons (px_var (pv 2)) ax_nil) (consL_len nilL_len))) ax_nil)) (ax_cons (px_idx (u1 hr) (px_var (pv 1)) (px_var (pv 2)) (fun _ _ => rfl)) ax_nil)))))) ax_nil)))))⟩
abbrev s_House___init__ : Stmt := inner 21 0
abbrev Nm_House___init__ : List Str := ["self", "size", "buttons", "letter", "rooms"]
theorem sc_House___init__ : FnScope ["self", "size", "buttons", "letter", "rooms"] ["self", "size", "buttons"] (defScope s_House___init__) := ⟨rfl, rfl, rfl, by decide +kernel, rfl, by decide +kernel, by decide +kernel⟩
theorem ok_House___init__ (g : Gf Y mg) (Fd : FnP Y.K "__init__" "House.__init__" s_House___init__ f fd) (gm : mg "House" = some (.ref Y.C)) (mk : Mk Y.K Y.C f) (c_need_house : Fok Y P w mg base 3 "need_house" 2 M_need_house) : Cok Y P w mg base 4 "House" 3 M_House___init__ :=
  ⟨f, fd, ["self", "size", "buttons"], rfl, gm, mk, Fd.bindsN (fun _ _ _ _ _ _ us hl => match us, hl with | [_, _, _], _ => rfl), initM_of Fd sc_House___init__ fun cdv A outer s H E gd hr => by
  have hN := sc_House___init__.nd
  have tk := takes_of (X := cxOf (L2.CX P w) P w Y.K mg base ["self", "size", "buttons", "letter", "rooms"] "House.__init__" (defScope s_House___init__) f cdv A outer s H E) rfl rfl rfl rfl
  exact (sx_cons (sx_expr (px_o (po_call (c_need_house.up (by decide)) rfl gd hr tk rfl (ax_cons (px_var (pv 1)) (ax_cons (px_var (pv 2)) ax_nil)) (consL_len (consL_len nilL_len)))))
  (sx_cons (sx_fld rfl g.cls g.at_many (pv 0) (px_var (pv 1)))
  (sx_one (sx_fld rfl g.cls g.at_moves (pv 0) (px_o (po_callTy (call_dictP rfl) v_dict rfl g.f_dict (by decide +kernel) (ax_cons (px_o (po_lc (own := [("letter", 3), ("rooms", 4)]) rfl hN (pi_src rfl (px_var (pv 2))) (blkOk_by (N := Nm_House___init__) (sc := defScope s_House___init__) (by decide +kernel)) (fun _ _ _ _ _ => (pg_tup rfl (pgs_cons (pg_name hN rfl (by first | exact .inl rfl | exact .inr rfl)) (pgs_cons (pg_name hN rfl (by first | exact .inl rfl | exact .inr rfl)) pgs_nil)))) (tg_tup (tgs_cons tg_name (tgs_cons tg_name tgs_nil)) (lenCons (lenCons lenNil))) (by decide) (fun _ _ _ _ _ => ptx_nil) (fun _ _ _ _ _ => (px_tup (ax_cons (px_var (pv 3)) (ax_cons (px_callTy call_tuple_of v_tuple rfl g.f_tuple (by decide +kernel) (ax_cons (px_var (pv 4)) ax_nil)) ax_nil)))))) ax_nil)))))))⟩
abbrev s__law_drawn : Stmt := top 26
abbrev Nm__law_drawn : List Str := ["_law_script", "_law_at", "_law_most", "_law_number_here", "_law_size"]
theorem sc__law_drawn : FnScope ["_law_script", "_law_at", "_law_most", "_law_number_here", "_law_size"] ["_law_script", "_law_at", "_law_most"] (defScope s__law_drawn) := ⟨rfl, rfl, rfl, by decide +kernel, rfl, by decide +kernel, by decide +kernel⟩
theorem ok__law_drawn (g : Gf Y mg) (Fd : FnP Y.K "_law_drawn" "_law_drawn" s__law_drawn f fd) (gm : mg "_law_drawn" = some (.ref f)) (c__law_number : Fok Y P w mg base 2 "_law_number" 2 M__law_number) (c__law_table : Fok Y P w mg base 3 "_law_table" 4 M__law_table) : Fok Y P w mg base 4 "_law_drawn" 3 M__law_drawn :=
  ⟨f, fd, ["_law_script", "_law_at", "_law_most"], rfl, gm, Fd.kp, Fd.bindsN (fun _ _ _ _ _ _ us hl => match us, hl with | [_, _, _], _ => rfl), fnM_of Fd sc__law_drawn fun cdv A outer s H E gd hr => by
  have hN := sc__law_drawn.nd
  have tk := takes_of (X := cxOf (L2.CX P w) P w Y.K mg base ["_law_script", "_law_at", "_law_most", "_law_number_here", "_law_size"] "_law_drawn" (defScope s__law_drawn) f cdv A outer s H E) rfl rfl rfl rfl
  exact (sx_cons (sx_set hN rfl (by first | exact .inl rfl | exact .inr rfl) (px_o (po_call (c__law_number.up (by decide)) rfl gd hr tk rfl (ax_cons (px_var (pv 0)) (ax_cons (px_op o_add v_add (px_var (pv 1)) px_int) ax_nil)) (consL_len (consL_len nilL_len)))))
  (sx_cons (sx_set hN rfl (by first | exact .inl rfl | exact .inr rfl) (px_idx (u1 hr) (px_o (po_lst (ax_cons (px_op o_add v_add px_int (px_op op_mod v_opIC (px_op op_fdiv v_opIC (px_var (pv 3)) px_int) (px_var (pv 2)))) (ax_cons (px_op o_add v_add px_int (px_op op_mod v_opIC (px_op op_fdiv v_opIC (px_var (pv 3)) px_int) (px_var (pv 2)))) (ax_cons (px_op o_add v_add px_int (px_op op_mod v_opIC (px_op op_fdiv v_opIC (px_var (pv 3)) px_int) (px_callB (call_max2 rfl) v_max2 rfl g.f_max (by decide +kernel) (ax_cons px_int (ax_cons (px_op op_sub v_opI (px_var (pv 2)) px_int) ax_nil))))) (ax_cons (px_var (pv 2)) ax_nil)))))) (px_op op_mod v_opIC (px_var (pv 3)) px_int) (fun _ _ => rfl)))
  (sx_one (sx_reto (po_call (c__law_table.up (by decide)) rfl gd hr tk rfl (ax_cons (px_var (pv 0)) (ax_cons (px_var (pv 1)) (ax_cons (px_callB (call_min2 rfl) v_min2 rfl g.f_min (by decide +kernel) (ax_cons (px_var (pv 4)) (ax_cons (px_var (pv 2)) ax_nil))) (ax_cons (px_op o_add v_add px_int (px_op op_mod v_opIC (px_op op_fdiv v_opIC (px_var (pv 3)) px_int) px_int)) ax_nil)))) (consL_len (consL_len (consL_len (consL_len nilL_len)))))))))⟩
abbrev s__law_made : Stmt := top 27
abbrev Nm__law_made : List Str := ["_law_table_here", "_law_letter", "_law_rooms"]
theorem sc__law_made : FnScope ["_law_table_here", "_law_letter", "_law_rooms"] ["_law_table_here"] (defScope s__law_made) := ⟨rfl, rfl, rfl, by decide +kernel, rfl, by decide +kernel, by decide +kernel⟩
theorem ok__law_made (g : Gf Y mg) (Fd : FnP Y.K "_law_made" "_law_made" s__law_made f fd) (gm : mg "_law_made" = some (.ref f)) (c_House___init__ : Cok Y P w mg base 4 "House" 3 M_House___init__) : Fok Y P w mg base 6 "_law_made" 1 M__law_made :=
  ⟨f, fd, ["_law_table_here"], rfl, gm, Fd.kp, Fd.bindsN (fun _ _ _ _ _ _ us hl => match us, hl with | [_], _ => rfl), fnM_of Fd sc__law_made fun cdv A outer s H E gd hr => by
  have hN := sc__law_made.nd
  have tk := takes_of (X := cxOf (L2.CX P w) P w Y.K mg base ["_law_table_here", "_law_letter", "_law_rooms"] "_law_made" (defScope s__law_made) f cdv A outer s H E) rfl rfl rfl rfl
  exact (sx_one (sx_ret (px_make (c_House___init__.up (by decide)) rfl gd hr tk rfl (ax_cons (px_callB o_len v_len rfl g.f_len (by decide +kernel) (ax_cons (px_idx (u1 hr) (px_idx (u1 hr) (px_var (pv 0)) px_int (fun _ _ => rfl)) px_int (fun _ _ => rfl)) ax_nil)) (ax_cons (px_o (po_lc (own := [("_law_letter", 1), ("_law_rooms", 2)]) rfl hN (pi_src rfl (px_var (pv 0))) (blkOk_by (N := Nm__law_made) (sc := defScope s__law_made) (by decide +kernel)) (fun _ _ _ _ _ => (pg_tup rfl (pgs_cons (pg_name hN rfl (by first | exact .inl rfl | exact .inr rfl)) (pgs_cons (pg_name hN rfl (by first | exact .inl rfl | exact .inr rfl)) pgs_nil)))) (tg_tup (tgs_cons tg_name (tgs_cons tg_name tgs_nil)) (lenCons (lenCons lenNil))) (by decide) (fun _ _ _ _ _ => ptx_nil) (fun _ _ _ _ _ => (px_tup (ax_cons (px_var (pv 1)) (ax_cons (px_o (po_callTy (o_list rfl) v_list rfl g.f_list (by decide +kernel) (ax_cons (px_var (pv 2)) ax_nil))) ax_nil)))))) ax_nil)) (consL_len (consL_len nilL_len)))))⟩
abbrev s_law : Stmt := top 33
abbrev Nm_law : List Str := ["_law_script", "_law_most", "_law_tables", "_law_houses", "_law_told", "_law_kept", "_law_table_here", "_law_house"]
theorem sc_law : FnScope ["_law_script", "_law_most", "_law_tables", "_law_houses", "_law_told", "_law_kept", "_law_table_here", "_law_house"] ["_law_script"] (defScope s_law) := ⟨rfl, rfl, rfl, by decide +kernel, rfl, by decide +kernel, by decide +kernel⟩
theorem ok_law (g : Gf Y mg) (Fd : FnP Y.K "law" "law" s_law f fd) (c__law_number : Fok Y P w mg base 2 "_law_number" 2 M__law_number) (c__law_drawn : Fok Y P w mg base 4 "_law_drawn" 3 M__law_drawn) (c__law_made : Fok Y P w mg base 6 "_law_made" 1 M__law_made) (c_depths : Fok Y P w mg base 4 "depths" 1 M_depths) (c__law_right : Fok Y P w mg base 2 "_law_right" 2 M__law_right) : FnG Y P w mg base 7 f fd ["_law_script"] (spM Y 1 M_law) :=
  fnM_of Fd sc_law fun cdv A outer s H E gd hr => by
  have hN := sc_law.nd
  have tk := takes_of (X := cxOf (L2.CX P w) P w Y.K mg base ["_law_script", "_law_most", "_law_tables", "_law_houses", "_law_told", "_law_kept", "_law_table_here", "_law_house"] "law" (defScope s_law) f cdv A outer s H E) rfl rfl rfl rfl
  exact (sx_cons (sx_set hN rfl (by first | exact .inl rfl | exact .inr rfl) (px_idx (u1 hr) (px_o (po_lst (ax_cons px_int (ax_cons px_int ax_nil)))) (px_callTy call_int1 v_int1 rfl g.f_int (by decide +kernel) (ax_cons (px_cmp (o_eq (u64 hr)) v_eq (px_op op_mod v_opIC (px_o (po_call (c__law_number.up (by decide)) rfl gd hr tk rfl (ax_cons (px_var (pv 0)) (ax_cons px_int ax_nil)) (consL_len (consL_len nilL_len)))) px_int) px_int (nomark _)) ax_nil)) (fun _ _ => rfl)))
  (sx_cons (sx_set hN rfl (by first | exact .inl rfl | exact .inr rfl) (px_o (po_lst (ax_cons (px_o (po_call (c__law_drawn.up (by decide)) rfl gd hr tk rfl (ax_cons (px_var (pv 0)) (ax_cons px_int (ax_cons (px_var (pv 1)) ax_nil))) (consL_len (consL_len (consL_len nilL_len))))) (ax_cons (px_o (po_call (c__law_drawn.up (by decide)) rfl gd hr tk rfl (ax_cons (px_var (pv 0)) (ax_cons px_int (ax_cons px_int ax_nil))) (consL_len (consL_len (consL_len nilL_len))))) ax_nil)))))
  (sx_cons (sx_setLcD (own := [("_law_table_here", 6)]) rfl hN rfl rfl rfl (pi_src rfl (px_var (pv 2))) (blkOk_by (N := Nm_law) (sc := defScope s_law) (by decide +kernel)) (fun _ _ _ _ _ => (pg_name hN rfl (by first | exact .inl rfl | exact .inr rfl))) tg_name (by decide) (fun _ _ _ _ _ => ptx_nil) (fun _ _ _ _ _ => (px_o (po_call (c__law_made.up (by decide)) rfl gd hr takes_none5 rfl (ax_cons (px_var (pv 6)) ax_nil) (consL_len nilL_len)))))
  (sx_cons (sx_setLcOD (own := [("_law_house", 7)]) rfl hN rfl rfl rfl (pi_src rfl (px_var (pv 3))) (blkOk_by (N := Nm_law) (sc := defScope s_law) (by decide +kernel)) (fun _ _ _ _ _ => (pg_name hN rfl (by first | exact .inl rfl | exact .inr rfl))) tg_name (by decide) (fun _ _ _ _ _ => (po_call (c_depths.up (by decide)) rfl gd hr takes_none5 rfl (ax_cons (px_var (pv 7)) ax_nil) (consL_len nilL_len))))
  (sx_cons (sx_setVT hN rfl (by first | exact .inl rfl | exact .inr rfl) (po_callTy (cr_copyT (u65 hr)) v_copyT rfl g.f_dict (by decide +kernel) (ax_cons (px_idx (u1 hr) (px_var (pv 4)) px_int (fun _ _ => rfl)) ax_nil)))
  (sx_cons (sx_if (pt_w (pw_orP (pt_view (pt_notP (pt_px (px_o (po_call (c__law_right.up (by decide)) rfl gd hr tk rfl (ax_cons (px_idx (u1 hr) (px_var (pv 4)) px_int (fun _ _ => rfl)) (ax_cons (px_idx (u1 hr) (px_var (pv 2)) px_int (fun _ _ => rfl)) ax_nil)) (consL_len (consL_len nilL_len))))))) (pw_or1P (pt_view (pt_notP (pt_px (px_o (po_call (c__law_right.up (by decide)) rfl gd hr tk rfl (ax_cons (px_idx (u1 hr) (px_var (pv 4)) px_int (fun _ _ => rfl)) (ax_cons (px_idx (u1 hr) (px_var (pv 2)) px_int (fun _ _ => rfl)) ax_nil)) (consL_len (consL_len nilL_len))))))))))
  (sx_one (sx_ret px_bl))
  sx_nil)
  (sx_cons (sx_odcl (j := 0) (pv 4) rfl (fun _ _ => rfl))
  (sx_cons (sx_odput (j := 1) (u65 hr) (pv 4) rfl (fun _ _ => rfl) (px_tup (ax_cons px_int ax_nil)) px_int)
  (sx_one (sx_ret (px_and (px_view (px_cmp (op_eqT (u64 hr)) v_eqT (px_o (po_call (c_depths.up (by decide)) rfl gd hr tk rfl (ax_cons (px_idx (u1 hr) (px_var (pv 3)) px_int (fun _ _ => rfl)) ax_nil) (consL_len nilL_len))) (px_var (pv 5)) (nomark _))) (px_one (px_o (po_call (c__law_right.up (by decide)) rfl gd hr tk rfl (ax_cons (px_o (po_call (c_depths.up (by decide)) rfl gd hr tk rfl (ax_cons (px_idx (u1 hr) (px_var (pv 3)) px_int (fun _ _ => rfl)) ax_nil) (consL_len nilL_len))) (ax_cons (px_idx (u1 hr) (px_var (pv 2)) px_int (fun _ _ => rfl)) ax_nil)) (consL_len (consL_len nilL_len))))))))))))))))
end PL

/-! H_k04: the head. -/
namespace PL
open PySem PySem.Spec PyProof.Rows L2
def d_images_by : He.DefD := ⟨("images_by", none), "images_by", "images_by", defArgs s_images_by, defBody s_images_by, defScope s_images_by, [], []⟩
def d_rooms_of : He.DefD := ⟨("rooms_of", none), "rooms_of", "rooms_of", defArgs s_rooms_of, defBody s_rooms_of, defScope s_rooms_of, [], []⟩
def d_is_among : He.DefD := ⟨("is_among", none), "is_among", "is_among", defArgs s_is_among, defBody s_is_among, defScope s_is_among, [], []⟩
def d_is_letter : He.DefD := ⟨("is_letter", none), "is_letter", "is_letter", defArgs s_is_letter, defBody s_is_letter, defScope s_is_letter, [], []⟩
def d_House_size : He.DefD := ⟨("House", some "size"), "size", "House.size", defArgs s_House_size, defBody s_House_size, defScope s_House_size, [], []⟩
def d_House_table : He.DefD := ⟨("House", some "table"), "table", "House.table", defArgs s_House_table, defBody s_House_table, defScope s_House_table, [], []⟩
def d__law_mixed : He.DefD := ⟨("_law_mixed", none), "_law_mixed", "_law_mixed", defArgs s__law_mixed, defBody s__law_mixed, defScope s__law_mixed, [], []⟩
def d__law_sets : He.DefD := ⟨("_law_sets", none), "_law_sets", "_law_sets", defArgs s__law_sets, defBody s__law_sets, defScope s__law_sets, [], []⟩
def d_set_images : He.DefD := ⟨("set_images", none), "set_images", "set_images", defArgs s_set_images, defBody s_set_images, defScope s_set_images, [], []⟩
def d_need_button : He.DefD := ⟨("need_button", none), "need_button", "need_button", defArgs s_need_button, defBody s_need_button, defScope s_need_button, [], []⟩
def d__law_number : He.DefD := ⟨("_law_number", none), "_law_number", "_law_number", defArgs s__law_number, defBody s__law_number, defScope s__law_number, [], []⟩
def d__law_right : He.DefD := ⟨("_law_right", none), "_law_right", "_law_right", defArgs s__law_right, defBody s__law_right, defScope s__law_right, [], []⟩
def d_set_levels : He.DefD := ⟨("set_levels", none), "set_levels", "set_levels", defArgs s_set_levels, defBody s_set_levels, defScope s_set_levels, [], []⟩
def d_need_house : He.DefD := ⟨("need_house", none), "need_house", "need_house", defArgs s_need_house, defBody s_need_house, defScope s_need_house, [], []⟩
def d__law_table : He.DefD := ⟨("_law_table", none), "_law_table", "_law_table", defArgs s__law_table, defBody s__law_table, defScope s__law_table, [], []⟩
def d_depths : He.DefD := ⟨("depths", none), "depths", "depths", defArgs s_depths, defBody s_depths, defScope s_depths, [], []⟩
def d_House___init__ : He.DefD := ⟨("House", some "__init__"), "__init__", "House.__init__", defArgs s_House___init__, defBody s_House___init__, defScope s_House___init__, [], []⟩
def d__law_drawn : He.DefD := ⟨("_law_drawn", none), "_law_drawn", "_law_drawn", defArgs s__law_drawn, defBody s__law_drawn, defScope s__law_drawn, [], []⟩
def d__law_made : He.DefD := ⟨("_law_made", none), "_law_made", "_law_made", defArgs s__law_made, defBody s__law_made, defScope s__law_made, [], []⟩
def d_law : He.DefD := ⟨("law", none), "law", "law", defArgs s_law, defBody s_law, defScope s_law, [], []⟩
def fn : List He.DefD := [d_images_by, d_rooms_of, d_is_among, d_is_letter, d_House_size, d_House_table, d__law_mixed, d__law_sets, d_set_images, d_need_button, d__law_number, d__law_right, d_set_levels, d_need_house, d__law_table, d_depths, d_House___init__, d__law_drawn, d__law_made, d_law]
def fa0 : List He.Fa := [.cls "House", .mkr "House", .glo "House", .noat "House" "many", .noat "House" "moves", .str "LETTERS" "abcdefghijklmnopqrstuvwxyz", .int "MOST_BUTTONS" 5, .int "MOST_ROOMS" 10, .exc "BadHouse", .glo "BadHouse", .free "all", .free "bool", .free "dict", .free "int", .free "isinstance", .free "len", .free "list", .free "max", .free "min", .free "range"]
def fa1 : List He.Fa := [.free "set", .free "sorted", .free "str", .free "tuple", .glo "images_by", .glo "rooms_of", .glo "is_among", .glo "is_letter", .meth "House" "size", .meth "House" "table", .glo "_law_mixed", .glo "_law_sets", .glo "set_images", .glo "need_button", .glo "_law_number", .glo "_law_right", .glo "set_levels", .glo "need_house", .glo "_law_table", .glo "depths"]
def fa2 : List He.Fa := [.glo "_law_drawn", .glo "_law_made", .glo "law"]
def fa : List He.Fa := fa0 ++ (fa1 ++ (fa2))
def loose : List Str := (["_wall", "images_by", "set_images", "set_levels", "rooms_of", "depths", "HomeError", "BadHouse", "BadRow", "BadRoom", "MOST_ROOMS", "MOST_BUTTONS", "MOST_LETTERS", "LETTERS", "is_among", "is_letter", "need_button", "need_house", "House", "_law_mixed", "_law_number", "_law_table", "_law_drawn", "_law_made", "_law_gone"] : List Str) ++ (["_law_image", "_law_row", "_law_sets", "_law_right"] : List Str)
abbrev Row0 : PySem.W.OpenRow := PySem.W.OpenLaw.row PySem.Challenge.rw_onehome_k04_whole_depths
def exB (K : PySem.W.Frag) : Bool := true
abbrev hk : PySem.W.Hook := He.hookX 4 fa fn [] [] exB
def obs (s : PySem.W.SharedT) : He.AlX := He.obsX 4 fa fn [] [] exB (HandSHeadRun.getT s)
theorem obs_eq (s : PySem.W.SharedT) : obs s = hk.obs s.abs := He.obsX_eq (HandSHeadRun.getT_eq s)
theorem run (w : World) : HandSHeadRun.RunEq Row0 (PySem.W.view Row0.prog [33]) hk obs 4000 loose w := by
  intro os
  kernel_rfl
theorem facts {P : Program} {w : World} {K : PySem.W.Frag} {h : Heap} {mg : Str → Option Value} {f : Addr} (X : K.In h) (G : h.Ns mainGlobals mg) (hfa : mg ("law" : Str) = some (.ref f)) (c : He.SaysD fa fn K) (xx : exB K = true) :
    ∃ fd : FuncData, (∀ (s : Shared) (v : Value), BindsTo s fd ⟨[v], []⟩ [("_law_script", v)]) ∧ ∀ base : Heap, K.In base → base.Ns mainGlobals mg → FnG (yx K) P w mg base 7 f fd ["_law_script"] (spM (yx K) 1 M_law) := by
  have i_cls := He.cls_ok (c.fact 0 (f := .cls "House") rfl)
  have i_mkr := He.mkr_ok (c.fact 1 (f := .mkr "House") rfl)
  have g_House := He.glo_ok X G (c.fact 2 (f := .glo "House") rfl)
  have e_BadHouse := He.exc_ok (c.fact 8 (f := .exc "BadHouse") rfl)
  obtain ⟨fd_images_by, F_images_by⟩ := c.def_ 0 (d := d_images_by) rfl
  have g_images_by := He.glo_ok X G (c.fact 24 (f := .glo "images_by") rfl)
  obtain ⟨fd_rooms_of, F_rooms_of⟩ := c.def_ 1 (d := d_rooms_of) rfl
  have g_rooms_of := He.glo_ok X G (c.fact 25 (f := .glo "rooms_of") rfl)
  obtain ⟨fd_is_among, F_is_among⟩ := c.def_ 2 (d := d_is_among) rfl
  have g_is_among := He.glo_ok X G (c.fact 26 (f := .glo "is_among") rfl)
  obtain ⟨fd_is_letter, F_is_letter⟩ := c.def_ 3 (d := d_is_letter) rfl
  have g_is_letter := He.glo_ok X G (c.fact 27 (f := .glo "is_letter") rfl)
  obtain ⟨fd_House_size, F_House_size⟩ := c.def_ 4 (d := d_House_size) rfl
  have m_House_size := He.meth_ok (c.fact 28 (f := .meth "House" "size") rfl)
  obtain ⟨fd_House_table, F_House_table⟩ := c.def_ 5 (d := d_House_table) rfl
  have m_House_table := He.meth_ok (c.fact 29 (f := .meth "House" "table") rfl)
  obtain ⟨fd__law_mixed, F__law_mixed⟩ := c.def_ 6 (d := d__law_mixed) rfl
  have g__law_mixed := He.glo_ok X G (c.fact 30 (f := .glo "_law_mixed") rfl)
  obtain ⟨fd__law_sets, F__law_sets⟩ := c.def_ 7 (d := d__law_sets) rfl
  have g__law_sets := He.glo_ok X G (c.fact 31 (f := .glo "_law_sets") rfl)
  obtain ⟨fd_set_images, F_set_images⟩ := c.def_ 8 (d := d_set_images) rfl
  have g_set_images := He.glo_ok X G (c.fact 32 (f := .glo "set_images") rfl)
  obtain ⟨fd_need_button, F_need_button⟩ := c.def_ 9 (d := d_need_button) rfl
  have g_need_button := He.glo_ok X G (c.fact 33 (f := .glo "need_button") rfl)
  obtain ⟨fd__law_number, F__law_number⟩ := c.def_ 10 (d := d__law_number) rfl
  have g__law_number := He.glo_ok X G (c.fact 34 (f := .glo "_law_number") rfl)
  obtain ⟨fd__law_right, F__law_right⟩ := c.def_ 11 (d := d__law_right) rfl
  have g__law_right := He.glo_ok X G (c.fact 35 (f := .glo "_law_right") rfl)
  obtain ⟨fd_set_levels, F_set_levels⟩ := c.def_ 12 (d := d_set_levels) rfl
  have g_set_levels := He.glo_ok X G (c.fact 36 (f := .glo "set_levels") rfl)
  obtain ⟨fd_need_house, F_need_house⟩ := c.def_ 13 (d := d_need_house) rfl
  have g_need_house := He.glo_ok X G (c.fact 37 (f := .glo "need_house") rfl)
  obtain ⟨fd__law_table, F__law_table⟩ := c.def_ 14 (d := d__law_table) rfl
  have g__law_table := He.glo_ok X G (c.fact 38 (f := .glo "_law_table") rfl)
  obtain ⟨fd_depths, F_depths⟩ := c.def_ 15 (d := d_depths) rfl
  have g_depths := He.glo_ok X G (c.fact 39 (f := .glo "depths") rfl)
  obtain ⟨fd_House___init__, F_House___init__⟩ := c.def_ 16 (d := d_House___init__) rfl
  obtain ⟨fd__law_drawn, F__law_drawn⟩ := c.def_ 17 (d := d__law_drawn) rfl
  have g__law_drawn := He.glo_ok X G (c.fact 40 (f := .glo "_law_drawn") rfl)
  obtain ⟨fd__law_made, F__law_made⟩ := c.def_ 18 (d := d__law_made) rfl
  have g__law_made := He.glo_ok X G (c.fact 41 (f := .glo "_law_made") rfl)
  obtain ⟨fd_law, F_law⟩ := c.def_ 19 (d := d_law) rfl
  have g : Gf (yx K) mg := ⟨i_cls,
    He.noat_ok (c.fact 3 (f := .noat "House" "many") rfl),
    He.noat_ok (c.fact 4 (f := .noat "House" "moves") rfl),
    He.str_ok X G (c.fact 5 (f := .str "LETTERS" "abcdefghijklmnopqrstuvwxyz") rfl),
    He.int_ok X G (c.fact 6 (f := .int "MOST_BUTTONS" 5) rfl),
    He.int_ok X G (c.fact 7 (f := .int "MOST_ROOMS" 10) rfl),
    ⟨He.glo_ok X G (c.fact 9 (f := .glo "BadHouse") rfl), e_BadHouse.1, e_BadHouse.2.1, e_BadHouse.2.2.1, e_BadHouse.2.2.2⟩,
    He.free_ok X G (c.fact 10 (f := .free "all") rfl),
    He.free_ok X G (c.fact 11 (f := .free "bool") rfl),
    He.free_ok X G (c.fact 12 (f := .free "dict") rfl),
    He.free_ok X G (c.fact 13 (f := .free "int") rfl),
    He.free_ok X G (c.fact 14 (f := .free "isinstance") rfl),
    He.free_ok X G (c.fact 15 (f := .free "len") rfl),
    He.free_ok X G (c.fact 16 (f := .free "list") rfl),
    He.free_ok X G (c.fact 17 (f := .free "max") rfl),
    He.free_ok X G (c.fact 18 (f := .free "min") rfl),
    He.free_ok X G (c.fact 19 (f := .free "range") rfl),
    He.free_ok X G (c.fact 20 (f := .free "set") rfl),
    He.free_ok X G (c.fact 21 (f := .free "sorted") rfl),
    He.free_ok X G (c.fact 22 (f := .free "str") rfl),
    He.free_ok X G (c.fact 23 (f := .free "tuple") rfl)⟩
  have e := hfa.symm.trans (He.glo_ok X G (c.fact 42 (f := .glo "law") rfl))
  cases e
  have b := FunD.bindsA (ps := ["_law_script"]) F_law fun _ _ _ _ _ _ us hl => match us, hl with | [_], _ => rfl
  refine ⟨fd_law, fun s v => b s [v] rfl, fun base _ _ => ?_⟩
  have o_images_by := ok_images_by (Y := yx K) (P := P) (w := w) (mg := mg) (base := base) g F_images_by g_images_by 
  have o_rooms_of := ok_rooms_of (Y := yx K) (P := P) (w := w) (mg := mg) (base := base) g F_rooms_of g_rooms_of 
  have o_is_among := ok_is_among (Y := yx K) (P := P) (w := w) (mg := mg) (base := base) g F_is_among g_is_among 
  have o_is_letter := ok_is_letter (Y := yx K) (P := P) (w := w) (mg := mg) (base := base) g F_is_letter g_is_letter 
  have o_House_size := ok_House_size (Y := yx K) (P := P) (w := w) (mg := mg) (base := base) g F_House_size m_House_size 
  have o_House_table := ok_House_table (Y := yx K) (P := P) (w := w) (mg := mg) (base := base) g F_House_table m_House_table 
  have o__law_mixed := ok__law_mixed (Y := yx K) (P := P) (w := w) (mg := mg) (base := base) g F__law_mixed g__law_mixed 
  have o__law_sets := ok__law_sets (Y := yx K) (P := P) (w := w) (mg := mg) (base := base) g F__law_sets g__law_sets 
  have o_set_images := ok_set_images (Y := yx K) (P := P) (w := w) (mg := mg) (base := base) g F_set_images g_set_images o_images_by o_House_table
  have o_need_button := ok_need_button (Y := yx K) (P := P) (w := w) (mg := mg) (base := base) g F_need_button g_need_button o_is_letter o_is_among
  have o__law_number := ok__law_number (Y := yx K) (P := P) (w := w) (mg := mg) (base := base) g F__law_number g__law_number o__law_mixed
  have o__law_right := ok__law_right (Y := yx K) (P := P) (w := w) (mg := mg) (base := base) g F__law_right g__law_right o__law_sets
  have o_set_levels := ok_set_levels (Y := yx K) (P := P) (w := w) (mg := mg) (base := base) g F_set_levels g_set_levels o_set_images o_House_size
  have o_need_house := ok_need_house (Y := yx K) (P := P) (w := w) (mg := mg) (base := base) g F_need_house g_need_house o_is_among o_need_button
  have o__law_table := ok__law_table (Y := yx K) (P := P) (w := w) (mg := mg) (base := base) g F__law_table g__law_table o__law_number
  have o_depths := ok_depths (Y := yx K) (P := P) (w := w) (mg := mg) (base := base) g F_depths g_depths o_set_levels o_rooms_of
  have o_House___init__ := ok_House___init__ (Y := yx K) (P := P) (w := w) (mg := mg) (base := base) g F_House___init__ g_House i_mkr o_need_house
  have o__law_drawn := ok__law_drawn (Y := yx K) (P := P) (w := w) (mg := mg) (base := base) g F__law_drawn g__law_drawn o__law_number o__law_table
  have o__law_made := ok__law_made (Y := yx K) (P := P) (w := w) (mg := mg) (base := base) g F__law_made g__law_made o_House___init__
  exact ok_law (Y := yx K) g F_law o__law_number o__law_drawn o__law_made o_depths o__law_right
end PL
open PySem PySem.W PySem.Calls PyProof.Rows
theorem PySem.Challenge.cw_onehome_k04_whole_depths_holds : PySem.Challenge.rw_onehome_k04_whole_depths.Holds := by
  w_on; o_law
  refine HandSHeadRun.head_any (r := OpenLaw.row PySem.Challenge.rw_onehome_k04_whole_depths) (q := view (OpenLaw.row PySem.Challenge.rw_onehome_k04_whole_depths).prog [33]) (H := PL.hk) (ob := PL.obs) (M := 4000) (loose := PL.loose) (d := HandSHeadRun.topDef (OpenLaw.row PySem.Challenge.rw_onehome_k04_whole_depths).prog 33) (kwd := []) PL.obs_eq
    (by kernel_rfl) (fun s => by kernel_rfl) PL.run (by kernel_rfl) (by kernel_rfl) (by kernel_rfl) (by rfl) (by first | assumption | decide +kernel) (by decide +kernel) ⟨rfl, rfl, rfl, rfl, rfl, by decide +kernel⟩ ?hw ?hc
  case hw => w_witness2
  case hc =>
    refine PL.walk_G (l := PySem.Challenge.rw_onehome_k04_whole_depths) (n := 63) (k := 7) (x := "_law_script") rfl (by decide) (by kernel_rfl) ⟨rfl, by decide, by decide⟩ ?F
    intro w mg fa h Yh G hmg0
    obtain ⟨K, KX, cx⟩ := Yh
    have c : He.SaysD PL.fa PL.fn K := congrArg (fun z : He.AlT => z.1) cx.t
    have hmg : mg ("law" : PySem.Str) = some (.ref fa) := by
      have e : (HandSHeadRun.topDef (OpenLaw.row PySem.Challenge.rw_onehome_k04_whole_depths).prog 33).name = ("law" : PySem.Str) := by kernel_rfl
      rw [← e]
      exact hmg0
    obtain ⟨fd, hb, hF⟩ := PL.facts (P := (PySem.Challenge.rw_onehome_k04_whole_depths).prog) (w := w) KX G hmg c cx.more
    exact ⟨PL.yx K, fd, PL.M_law, KX, hb, fun ns hl => PL.law_true hl, hF⟩

