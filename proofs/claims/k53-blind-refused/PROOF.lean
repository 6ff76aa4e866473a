import PyProof.Rows.All
import Wide.All
import OpenK.AllK
import Wide.FinOn
import HandS.ForMost
import KE.KeyNested
import HandS.Wide
import HandS.TupAny
import HandS.TupMul
import HandS.Flow
import HandS.Style
import HandS.Conv
import HandS.Deep
import KE.SortData
import HandS.SortInts
import HandS.IsInst
import HandS.Star
import HandS.Iter
import HandS.Zip
import HandS.Zip0
import KE.GoesEnum
import HandS.DictComp
import HandS.WordsExc
import HandS.Small
import HandS.Defaults
import HandS.Ends
import HandS.Head0
import HandS.Head1
import HandS.Head2
import HandS.HeadEnd
import HandS.HeadHook1
import HandS.HeadHook2
import KE.KTupSum
import HandS.SetKeys
import PyProof.WalkInts
import HandS.SetFor
import HandS.Strs
import KE.DataMinMax
import PyProof.Seq
import PyProof.Walks
import HandS.More
import HandS.SortKw
import HandS.Exc
import HandS.ExcOwn
import HandS.TryMany
import HandS.CallLocal
import HandS.ExcInit
import HandS.ExcIs
import HandS.ExcField
import KE.KExcSuper
import KE.KExcIs
import HandS.Lambda
import KE.KDflt
import HandS.HeadHook3
import HandS.HeadHook4
import HandS.EndTab
import HandS.HeadWalk
import HandS.Codes
import KE.DataFind
import HandS.TupSets
import HandS.Text
import KE.KDictDisplayH
import KE.KDictWalk
import KE.KDictCopyH
import KE.KDictSum
import KE.DatumOrd
import KE.SortKeyed
import PyProof.SeqIndex
import PyProof.Rows.CallKwBuiltin
import HandS.DictEq
import HandS.DictTup
import PySem.Challenge.RW_sharebags_k53_blind_refused
set_option Elab.async false
set_option linter.all false
set_option maxRecDepth 100000
namespace Va
open PySem PySem.Spec PyProof.Rows L2
/-- data trees: lists and dicts carry whether they are owned (changed in place by us alone) -/
inductive D where
  | non | bl (b : Bool) | int (i : Int) | str (x : Str)
  | tup (xs : List D) | rol (xs : List D) | lst (o : Bool) (xs : List D) | dic (o : Bool) (kvs : List (D × D)) | nd (o : Bool) (kvs : List (D × D)) | ld (kvs : List (D × D))
instance : Inhabited D := ⟨.non⟩
/-- an int or text as a key -/
def keyD : D → Option Key
  | .int i => some (.inl i)
  | .str x => some (.inr x)
  | _ => none
mutual
/-- ints, bools, and tuples of such, as keys -/
def keyN : D → Option NestedKey
  | .int i => some (.num i)
  | .bl b => some (.num (if b = true then 1 else 0))
  | .tup xs => match keysN xs with
    | some ks => some (.tup ks)
    | none => none
  | _ => none
def keysN : List D → Option (List NestedKey)
  | [] => some []
  | x :: xs => match keyN x with
    | some k => match keysN xs with
      | some ks => some (k :: ks)
      | none => none
    | none => none
end
/-- a tuple as a key -/
def keyT : D → Option NestedKey
  | .tup xs => match keysN xs with
    | some ks => match Nat.ble (NestedKey.depth (.tup ks)) 8 with
      | true => some (.tup ks)
      | false => none
    | none => none
  | _ => none
mutual
def hashK : NestedKey → Int
  | .none => 0
  | .num i => hashInt i
  | .text _ => 0
  | .tup ks => reduceHash (Builtin.Tuple.tupleHashOf (hashesK ks))
def hashesK : List NestedKey → List Int
  | [] => []
  | k :: ks => hashK k :: hashesK ks
end
/-- the object at a is a dict with such keys -/
def NdRaw (a : Addr) (xs : List (NestedKey × Addr × V)) (h : Heap) : Prop :=
  xs.length ≤ sizeLine ∧ (a == sysModules) = false ∧ ∃ us : List (NestedKey × Addr × Value), Paired (fun (p : NestedKey × Addr × V) (q : NestedKey × Addr × Value) => p.1 = q.1 ∧ p.2.1 = q.2.1 ∧ RelV p.2.2 q.2.2) xs us ∧
    ∃ o es ep, h.get? a = some o ∧ o.ExactDict ∧ o.data = .dict es ep ∧ es.toList = us.map (fun x => (⟨hashK x.1, .ref x.2.1, x.2.2⟩ : DictEntry)) ∧ (us.map (·.1)).Nodup
/-- a list that is only read -/
def SqZ (K : PySem.W.Frag) (Fz : Addr → Prop) (H : Hp) (a : Addr) (xs : List V) : Prop :=
  (Rd H a (.lst xs) ∧ Fz a) ∨ ∃ (o : Obj) (its : Array Value) (n : Nat), K.lookup a = some o ∧ o.cls = .type "list" ∧ o.dict = none ∧ o.data = .seq its n ∧ its.size ≤ sizeLine ∧ Vals xs its.toList
theorem SqZ.sq {K : PySem.W.Frag} {Fz : Addr → Prop} {H : Hp} {a : Addr} {xs : List V} (h : SqZ K Fz H a xs) : SqL K H a xs := by
  rcases h with h | h
  · exact .inl h.1
  · exact .inr h
/-- a tuple whose object is told: it has no dict of its own -/
def TupZ (H : Hp) (a : Addr) (xs : List V) : Prop := ∃ o : Obj, H a = some (.frz o (.tup xs)) ∧ o.dict = none
theorem TupZ.rd {H : Hp} {a : Addr} {xs : List V} (h : TupZ H a xs) : Rd H a (.tup xs) := let ⟨o, e, _⟩ := h; .inr ⟨o, e⟩
theorem TupZ.sq {K : PySem.W.Frag} {H : Hp} {a : Addr} {xs : List V} (h : TupZ H a xs) : SqT K H a xs := .inl h.rd
theorem TupZ.some {H : Hp} {a : Addr} {xs : List V} (h : TupZ H a xs) : H a ≠ none := by obtain ⟨o, e, _⟩ := h; rw [e]; exact Option.some_ne_none _
theorem TupZ.keep {H H' : Hp} {a : Addr} {xs : List V} (h : TupZ H a xs) (k : ∀ o, H a = Option.some o → H' a = Option.some o) : TupZ H' a xs := let ⟨o, e, d⟩ := h; ⟨o, k _ e, d⟩
mutual
inductive Rep (K : PySem.W.Frag) (Fz : Addr → Prop) (H : Hp) : D → V → List Addr → Prop
  | non : Rep K Fz H .non .non []
  | bl (b : Bool) : Rep K Fz H (.bl b) (.bl b) []
  | int (i : Int) : Rep K Fz H (.int i) (.int i) []
  | str (x : Str) : Rep K Fz H (.str x) (.str x) []
  | tup {a : Addr} {xs : List D} {vs : List V} : TupZ H a vs → Fz a → RepL K Fz H xs vs [] → Rep K Fz H (.tup xs) (.ref a) []
  | rol {a : Addr} {xs : List D} {vs : List V} : SqZ K Fz H a vs → RepL K Fz H xs vs [] → Rep K Fz H (.rol xs) (.ref a) []
  | lstF {a : Addr} {xs : List D} {vs : List V} : H a = some (.lst vs) → Fz a → RepL K Fz H xs vs [] → Rep K Fz H (.lst false xs) (.ref a) []
  | lstO {a : Addr} {xs : List D} {vs : List V} {fp : List Addr} : H a = some (.lst vs) → RepL K Fz H xs vs fp → Rep K Fz H (.lst true xs) (.ref a) (a :: fp)
  | dicF {a : Addr} {xs : List (D × D)} {vs : List (Key × V)} : H a = some (.dK vs) → Fz a → RepK K Fz H xs vs [] → Rep K Fz H (.dic false xs) (.ref a) []
  | dicO {a : Addr} {xs : List (D × D)} {vs : List (Key × V)} {fp : List Addr} : H a = some (.dK vs) → RepK K Fz H xs vs fp → Rep K Fz H (.dic true xs) (.ref a) (a :: fp)
  | ndF {a : Addr} {xs : List (D × D)} {vs : List (NestedKey × Addr × V)} : H a = some (.ext (NdRaw a vs)) → Fz a → RepN K Fz H xs vs [] → Rep K Fz H (.nd false xs) (.ref a) []
  | ndO {a : Addr} {xs : List (D × D)} {vs : List (NestedKey × Addr × V)} {fp : List Addr} : H a = some (.ext (NdRaw a vs)) → RepN K Fz H xs vs fp → Rep K Fz H (.nd true xs) (.ref a) (a :: fp)
  | ldF {a : Addr} {od : Obj} {xs : List (D × D)} {vs : List (Key × V)} : H a = some (.frz od (.dK vs)) → Fz a → RepK K Fz H xs vs [] → Rep K Fz H (.ld xs) (.ref a) []
inductive RepL (K : PySem.W.Frag) (Fz : Addr → Prop) (H : Hp) : List D → List V → List Addr → Prop
  | nil : RepL K Fz H [] [] []
  | cons {x : D} {v : V} {f : List Addr} {xs : List D} {vs : List V} {g : List Addr} : Rep K Fz H x v f → RepL K Fz H xs vs g → RepL K Fz H (x :: xs) (v :: vs) (f ++ g)
inductive RepK (K : PySem.W.Frag) (Fz : Addr → Prop) (H : Hp) : List (D × D) → List (Key × V) → List Addr → Prop
  | nil : RepK K Fz H [] [] []
  | cons {k x : D} {kk : Key} {v : V} {f : List Addr} {xs : List (D × D)} {vs : List (Key × V)} {g : List Addr} : keyD k = some kk → Rep K Fz H x v f → RepK K Fz H xs vs g → RepK K Fz H ((k, x) :: xs) ((kk, v) :: vs) (f ++ g)
inductive RepN (K : PySem.W.Frag) (Fz : Addr → Prop) (H : Hp) : List (D × D) → List (NestedKey × Addr × V) → List Addr → Prop
  | nil : RepN K Fz H [] [] []
  | cons {k x : D} {kk : NestedKey} {b : Addr} {v : V} {f : List Addr} {xs : List (D × D)} {vs : List (NestedKey × Addr × V)} {g : List Addr} : keyT k = some kk → Rep K Fz H k (.ref b) [] → Rep K Fz H x v f → RepN K Fz H xs vs g → RepN K Fz H ((k, x) :: xs) ((kk, b, v) :: vs) (f ++ g)
end
/-- how the heap may go on while fp is ours -/
structure Go (Fz : Addr → Prop) (H : Hp) (fp : List Addr) (Fz' : Addr → Prop) (H' : Hp) (fp' : List Addr) : Prop where
  keep : ∀ a o, H a = some o → a ∉ fp → H' a = some o
  dom : ∀ a, H' a = none → H a = none
  fzm : ∀ a, Fz a → Fz' a
  fzn : ∀ a, Fz' a → Fz a ∨ a ∈ fp ∨ H a = none
  fpn : ∀ a, a ∈ fp' → a ∈ fp ∨ H a = none
theorem Go.refl {Fz : Addr → Prop} {H : Hp} {fp : List Addr} : Go Fz H fp Fz H fp :=
  ⟨fun _ _ h _ => h, fun _ h => h, fun _ h => h, fun _ h => .inl h, fun _ h => .inl h⟩
theorem Go.trans {Fz F1 F2 : Addr → Prop} {H H1 H2 : Hp} {f f1 f2 : List Addr} (g : Go Fz H f F1 H1 f1) (g' : Go F1 H1 f1 F2 H2 f2) : Go Fz H f F2 H2 f2 where
  keep a o h n := g'.keep a o (g.keep a o h n) fun q => by
    rcases g.fpn a q with z | z
    · exact n z
    · rw [h] at z; cases z
  dom a h := g.dom a (g'.dom a h)
  fzm a h := g'.fzm a (g.fzm a h)
  fzn a h := by
    rcases g'.fzn a h with z | z | z
    · exact g.fzn a z
    · exact .inr (g.fpn a z)
    · exact .inr (.inr (g.dom a z))
  fpn a h := by
    rcases g'.fpn a h with z | z
    · exact g.fpn a z
    · exact .inr (g.dom a z)
theorem Go.sub {Fz F1 : Addr → Prop} {H H1 : Hp} {f f1 f2 : List Addr} (g : Go Fz H f F1 H1 f1) (h : ∀ a ∈ f2, a ∈ f1) : Go Fz H f F1 H1 f2 :=
  ⟨g.keep, g.dom, g.fzm, g.fzn, fun a q => g.fpn a (h a q)⟩
/-- more may be held -/
theorem Go.frame {Fz F1 : Addr → Prop} {H H1 : Hp} {f f1 k k1 : List Addr} (g : Go Fz H f F1 H1 f1) (h : ∀ a ∈ f, a ∈ k) (h1 : ∀ a ∈ k1, a ∈ f1 ∨ a ∈ k) : Go Fz H k F1 H1 k1 :=
  ⟨fun a o e n => g.keep a o e fun q => n (h a q), g.dom, g.fzm, fun a q => by
    rcases g.fzn a q with z | z | z
    · exact .inl z
    · exact .inr (.inl (h a z))
    · exact .inr (.inr z), fun a q => by
    rcases h1 a q with z | z
    · rcases g.fpn a z with y | y
      · exact .inl (h a y)
      · exact .inr y
    · exact .inl z⟩
section
variable {K : PySem.W.Frag} {Fz Fz' : Addr → Prop} {H H' : Hp}
theorem rd_keep {a : Addr} {u : HO} (k : ∀ o, H a = some o → H' a = some o) (h : Rd H a u) : Rd H' a u := by
  rcases h with h | ⟨o, h⟩
  · exact .inl (k _ h)
  · exact .inr ⟨o, k _ h⟩
theorem sqZ_keep {a : Addr} {xs : List V} (m : ∀ a, Fz a → Fz' a) (kz : ∀ a o, Fz a → H a = some o → H' a = some o) (h : SqZ K Fz H a xs) : SqZ K Fz' H' a xs := by
  rcases h with ⟨h, z⟩ | h
  · exact .inl ⟨rd_keep (fun o e => kz _ o z e) h, m _ z⟩
  · exact .inr h
mutual
/-- what is told stays told where its addresses stay -/
theorem Rep.keep (m : ∀ a, Fz a → Fz' a) (kz : ∀ a o, Fz a → H a = some o → H' a = some o) : ∀ {d v f}, (h : Rep K Fz H d v f) → (∀ a o, a ∈ f → H a = some o → H' a = some o) → Rep K Fz' H' d v f
  | _, _, _, .non, _ => .non
  | _, _, _, .bl b, _ => .bl b
  | _, _, _, .int i, _ => .int i
  | _, _, _, .str x, _ => .str x
  | _, _, _, .tup q z r, k => .tup (q.keep fun o e => kz _ o z e) (m _ z) (RepL.keep m kz r (fun _ _ h => nomatch h))
  | _, _, _, .rol q r, k => .rol (sqZ_keep m kz q) (RepL.keep m kz r (fun _ _ h => nomatch h))
  | _, _, _, .lstF q z r, k => .lstF (kz _ _ z q) (m _ z) (RepL.keep m kz r (fun _ _ h => nomatch h))
  | _, _, _, .lstO q r, k => .lstO (k _ _ (List.mem_cons_self ..) q) (RepL.keep m kz r fun a o h => k a o (List.mem_cons_of_mem _ h))
  | _, _, _, .dicF q z r, k => .dicF (kz _ _ z q) (m _ z) (RepK.keep m kz r (fun _ _ h => nomatch h))
  | _, _, _, .dicO q r, k => .dicO (k _ _ (List.mem_cons_self ..) q) (RepK.keep m kz r fun a o h => k a o (List.mem_cons_of_mem _ h))
  | _, _, _, .ndF q z r, k => .ndF (kz _ _ z q) (m _ z) (RepN.keep m kz r (fun _ _ h => nomatch h))
  | _, _, _, .ndO q r, k => .ndO (k _ _ (List.mem_cons_self ..) q) (RepN.keep m kz r fun a o h => k a o (List.mem_cons_of_mem _ h))
  | _, _, _, .ldF q z r, k => .ldF (kz _ _ z q) (m _ z) (RepK.keep m kz r (fun _ _ h => nomatch h))
theorem RepL.keep (m : ∀ a, Fz a → Fz' a) (kz : ∀ a o, Fz a → H a = some o → H' a = some o) : ∀ {d v f}, (h : RepL K Fz H d v f) → (∀ a o, a ∈ f → H a = some o → H' a = some o) → RepL K Fz' H' d v f
  | _, _, _, .nil, _ => .nil
  | _, _, _, .cons r s, k => .cons (Rep.keep m kz r fun a o h => k a o (List.mem_append_left _ h)) (RepL.keep m kz s fun a o h => k a o (List.mem_append_right _ h))
theorem RepK.keep (m : ∀ a, Fz a → Fz' a) (kz : ∀ a o, Fz a → H a = some o → H' a = some o) : ∀ {d v f}, (h : RepK K Fz H d v f) → (∀ a o, a ∈ f → H a = some o → H' a = some o) → RepK K Fz' H' d v f
  | _, _, _, .nil, _ => .nil
  | _, _, _, .cons e r s, k => .cons e (Rep.keep m kz r fun a o h => k a o (List.mem_append_left _ h)) (RepK.keep m kz s fun a o h => k a o (List.mem_append_right _ h))
theorem RepN.keep (m : ∀ a, Fz a → Fz' a) (kz : ∀ a o, Fz a → H a = some o → H' a = some o) : ∀ {d v f}, (h : RepN K Fz H d v f) → (∀ a o, a ∈ f → H a = some o → H' a = some o) → RepN K Fz' H' d v f
  | _, _, _, .nil, _ => .nil
  | _, _, _, .cons e rk r s, k => .cons e (Rep.keep m kz rk (fun _ _ h => nomatch h)) (Rep.keep m kz r fun a o h => k a o (List.mem_append_left _ h)) (RepN.keep m kz s fun a o h => k a o (List.mem_append_right _ h))
end
mutual
/-- what is owned stands -/
theorem Rep.there : ∀ {d v f}, (h : Rep K Fz H d v f) → ∀ a, a ∈ f → H a ≠ none
  | _, _, _, .non, _, h => nomatch h
  | _, _, _, .bl _, _, h => nomatch h
  | _, _, _, .int _, _, h => nomatch h
  | _, _, _, .str _, _, h => nomatch h
  | _, _, _, .tup _ _ _, _, h => nomatch h
  | _, _, _, .lstF _ _ _, _, h => nomatch h
  | _, _, _, .rol _ _, _, h => nomatch h
  | _, _, _, .dicF _ _ _, _, h => nomatch h
  | _, _, _, .lstO q r, a, h => (List.mem_cons.mp h).elim (fun e => by rw [e, q]; exact Option.some_ne_none _) fun e => RepL.there r a e
  | _, _, _, .dicO q r, a, h => (List.mem_cons.mp h).elim (fun e => by rw [e, q]; exact Option.some_ne_none _) fun e => RepK.there r a e
  | _, _, _, .ndF _ _ _, _, h => nomatch h
  | _, _, _, .ndO q r, a, h => (List.mem_cons.mp h).elim (fun e => by rw [e, q]; exact Option.some_ne_none _) fun e => RepN.there r a e
  | _, _, _, .ldF _ _ _, _, h => nomatch h
theorem RepL.there : ∀ {d v f}, (h : RepL K Fz H d v f) → ∀ a, a ∈ f → H a ≠ none
  | _, _, _, .nil, _, h => nomatch h
  | _, _, _, .cons r s, a, h => (List.mem_append.mp h).elim (fun e => Rep.there r a e) fun e => RepL.there s a e
theorem RepK.there : ∀ {d v f}, (h : RepK K Fz H d v f) → ∀ a, a ∈ f → H a ≠ none
  | _, _, _, .nil, _, h => nomatch h
  | _, _, _, .cons _ r s, a, h => (List.mem_append.mp h).elim (fun e => Rep.there r a e) fun e => RepK.there s a e
theorem RepN.there : ∀ {d v f}, (h : RepN K Fz H d v f) → ∀ a, a ∈ f → H a ≠ none
  | _, _, _, .nil, _, h => nomatch h
  | _, _, _, .cons _ _ r s, a, h => (List.mem_append.mp h).elim (fun e => Rep.there r a e) fun e => RepN.there s a e
end
end
/-- slots: none is told of some, or a datum -/
inductive RepO (K : PySem.W.Frag) (Fz : Addr → Prop) (H : Hp) : Option D → Option V → List Addr → Prop
  | skip {y : Option V} : RepO K Fz H none y []
  | som {d : D} {v : V} {f : List Addr} : Rep K Fz H d v f → RepO K Fz H (some d) (some v) f
inductive RepS (K : PySem.W.Frag) (Fz : Addr → Prop) (H : Hp) : List (Option D) → List (Option V) → List Addr → Prop
  | nil : RepS K Fz H [] [] []
  | cons {x : Option D} {y : Option V} {f g : List Addr} {st : List (Option D)} {σ : List (Option V)} : RepO K Fz H x y f → RepS K Fz H st σ g → RepS K Fz H (x :: st) (y :: σ) (f ++ g)
section
variable {K : PySem.W.Frag} {Fz Fz' : Addr → Prop} {H H' : Hp} {st : List (Option D)} {σ : List (Option V)} {fp : List Addr}
theorem RepO.keep (m : ∀ a, Fz a → Fz' a) (kz : ∀ a o, Fz a → H a = some o → H' a = some o) {x y f} (h : RepO K Fz H x y f) (k : ∀ a o, a ∈ f → H a = some o → H' a = some o) : RepO K Fz' H' x y f := by
  cases h with
  | skip => exact .skip
  | som r => exact .som (r.keep m kz k)
theorem RepS.keep (m : ∀ a, Fz a → Fz' a) (kz : ∀ a o, Fz a → H a = some o → H' a = some o) {x y f} (h : RepS K Fz H x y f) (k : ∀ a o, a ∈ f → H a = some o → H' a = some o) : RepS K Fz' H' x y f := by
  induction h with
  | nil => exact .nil
  | cons r s ih => exact .cons (r.keep m kz fun a o h => k a o (List.mem_append_left _ h)) (ih fun a o h => k a o (List.mem_append_right _ h))
theorem RepO.there {x y f} (h : RepO K Fz H x y f) : ∀ a ∈ f, H a ≠ none := by
  cases h with
  | skip => intro a h; exact nomatch h
  | som r => exact r.there
theorem RepS.there {x y f} (h : RepS K Fz H x y f) : ∀ a ∈ f, H a ≠ none := by
  induction h with
  | nil => intro a h; exact nomatch h
  | cons r s ih => intro a h; rcases List.mem_append.mp h with e | e; exact r.there a e; exact ih a e
theorem RepS.length (h : RepS K Fz H st σ fp) : st.length = σ.length := by
  induction h with
  | nil => rfl
  | cons _ _ ih => simp [ih]
theorem RepS.app {s2 y2 g} (h : RepS K Fz H st σ fp) (h2 : RepS K Fz H s2 y2 g) : RepS K Fz H (st ++ s2) (σ ++ y2) (fp ++ g) := by
  induction h with
  | nil => exact h2
  | cons r s ih => rw [List.append_assoc]; exact .cons r ih
theorem RepS.split : ∀ {P : List (Option D)} {PV : List (Option V)} {s2 y2 fp}, P.length = PV.length → RepS K Fz H (P ++ s2) (PV ++ y2) fp → ∃ f g, fp = f ++ g ∧ RepS K Fz H P PV f ∧ RepS K Fz H s2 y2 g
  | [], [], _, _, _, _, h => ⟨[], _, rfl, .nil, h⟩
  | x :: P, y :: PV, s2, y2, _, hl, .cons r s => by
    obtain ⟨f, g, e, a, b⟩ := RepS.split (P := P) (PV := PV) (by simpa using hl) s
    exact ⟨_, g, by rw [e, ← List.append_assoc], .cons r a, b⟩
/-- one slot told apart from the others -/
theorem RepS.at {i : Nat} {x : Option D} (R : RepS K Fz H st σ fp) (h : st[i]? = some x) : ∃ y f g, σ[i]? = some y ∧ RepO K Fz H x y f ∧ fp.Perm (f ++ g) ∧
    ∀ {Fz' : Addr → Prop} {H' : Hp}, (∀ {e w k}, (∀ a ∈ k, a ∈ g) → RepO K Fz H e w k → RepO K Fz' H' e w k) → ∀ {x' y' f'}, RepO K Fz' H' x' y' f' → ∃ fp', RepS K Fz' H' (st.set i x') (σ.set i y') fp' ∧ fp'.Perm (f' ++ g) := by
  induction R generalizing i with
  | nil => simp at h
  | @cons x0 y0 f0 g0 st0 σ0 r s ih =>
    cases i with
    | zero =>
      simp only [List.getElem?_cons_zero, Option.some.injEq] at h
      subst h
      refine ⟨y0, f0, g0, by simp, r, .refl _, fun {Fz' H'} k {x' y' f'} r' => ⟨f' ++ g0, .cons r' ?_, .refl _⟩⟩
      clear ih r'
      induction s with
      | nil => exact .nil
      | cons r s ih => exact .cons (k (fun a h => List.mem_append_left _ h) r) (ih fun h r => k (fun a q => List.mem_append_right _ (h a q)) r)
    | succ i =>
      obtain ⟨y, f, g, e, ro, p, k⟩ := ih (i := i) (by simpa using h)
      refine ⟨y, f, f0 ++ g, by simpa using e, ro, ?_, fun {Fz' H'} kp {x' y' f'} r' => ?_⟩
      · refine (p.append_left f0).trans ?_
        rw [← List.append_assoc, ← List.append_assoc]
        exact (List.perm_append_comm).append_right g
      · obtain ⟨fp', s', p'⟩ := k (fun h r => kp (fun a q => List.mem_append_right _ (h a q)) r) r'
        refine ⟨f0 ++ fp', .cons (kp (fun a q => List.mem_append_left _ q) r) s', ?_⟩
        refine (p'.append_left f0).trans ?_
        rw [← List.append_assoc, ← List.append_assoc]
        exact (List.perm_append_comm).append_right g
end
/-- the state of a frame: its slots' data over the heap; what is owned is owned once and not frozen -/
structure Cfg (K : PySem.W.Frag) (Fz : Addr → Prop) (H : Hp) (st : List (Option D)) (σ : List (Option V)) (fp : List Addr) : Prop where
  rep : RepS K Fz H st σ fp
  nd : fp.Nodup
  fz : ∀ a ∈ fp, ¬ Fz a
  ft : ∀ a, Fz a → H a ≠ none
section
variable {K : PySem.W.Frag} {Fz Fz' : Addr → Prop} {H H' : Hp} {st st' P : List (Option D)} {σ σ' PV : List (Option V)} {fp fp' : List Addr}
theorem Cfg.there (C : Cfg K Fz H st σ fp) : ∀ a ∈ fp, H a ≠ none := C.rep.there
/-- THE FRAME RULE -/
theorem Cfg.frame (C : Cfg K Fz H (P ++ st) (PV ++ σ) fp) (hl : P.length = PV.length) : ∃ fP f, Cfg K Fz H st σ f ∧ ∀ {Fz' H' st' σ' f'}, Cfg K Fz' H' st' σ' f' → Go Fz H f Fz' H' f' → ∃ fp', Cfg K Fz' H' (P ++ st') (PV ++ σ') fp' ∧ Go Fz H fp Fz' H' fp' ∧ fp' = fP ++ f' := by
  obtain ⟨fP, f, rfl, a, b⟩ := C.rep.split hl
  have nd := List.nodup_append.mp C.nd
  refine ⟨fP, f, ⟨b, nd.2.1, fun a h => C.fz a (List.mem_append_right _ h), C.ft⟩, fun {Fz' H' st' σ' f'} C' g => ⟨fP ++ f', ⟨?_, ?_, ?_, C'.ft⟩, ?_, rfl⟩⟩
  · refine (a.keep g.fzm (fun x o z e => g.keep x o e fun q => C.fz x (List.mem_append_right _ q) z) fun x o h e => g.keep x o e fun q => nd.2.2 x h x q rfl).app C'.rep
  · refine List.nodup_append.mpr ⟨nd.1, C'.nd, fun x h y h' e => ?_⟩
    subst e
    rcases g.fpn x h' with z | z
    · exact nd.2.2 x h x z rfl
    · exact a.there x h z
  · intro x h z
    rcases List.mem_append.mp h with h | h
    · rcases g.fzn x z with q | q | q
      · exact C.fz x (List.mem_append_left _ h) q
      · exact nd.2.2 x h x q rfl
      · exact a.there x h q
    · exact C'.fz x h z
  · exact g.frame (fun x h => List.mem_append_right _ h) fun x h => by
      rcases List.mem_append.mp h with h | h
      · exact .inr (List.mem_append_left _ h)
      · exact .inl h
theorem Cfg.drop {x : Option D} {y : Option V} (C : Cfg K Fz H (x :: st) (y :: σ) fp) : ∃ fp', Cfg K Fz H st σ fp' ∧ ∀ a ∈ fp', a ∈ fp := by
  obtain ⟨R, nd, fz, ft⟩ := C
  cases R with
  | cons r s => exact ⟨_, ⟨s, (List.nodup_append.mp nd).2.1, fun a h => fz a (List.mem_append_right _ h), ft⟩, fun a h => List.mem_append_right _ h⟩
theorem Cfg.drops (hl : P.length = PV.length) (C : Cfg K Fz H (P ++ st) (PV ++ σ) fp) : ∃ fp', Cfg K Fz H st σ fp' ∧ ∀ a ∈ fp', a ∈ fp := by
  obtain ⟨fP, f, rfl, a, b⟩ := C.rep.split hl
  exact ⟨f, ⟨b, (List.nodup_append.mp C.nd).2.1, fun a h => C.fz a (List.mem_append_right _ h), C.ft⟩, fun a h => List.mem_append_right _ h⟩
theorem Cfg.perm (C : Cfg K Fz H st σ fp) {st' σ' fp'} (R : RepS K Fz H st' σ' fp') (p : fp'.Perm fp) : Cfg K Fz H st' σ' fp' :=
  ⟨R, p.nodup_iff.mpr C.nd, fun a h => C.fz a (p.mem_iff.mp h), C.ft⟩
theorem Cfg.float {x : Option D} {y : Option V} (hl : P.length = PV.length) (C : Cfg K Fz H (P ++ x :: st) (PV ++ y :: σ) fp) : ∃ fp', Cfg K Fz H (x :: (P ++ st)) (y :: (PV ++ σ)) fp' ∧ fp'.Perm fp := by
  obtain ⟨f1, g, e, a, b⟩ := C.rep.split hl
  subst e
  cases b with
  | @cons _ _ f f2 _ _ r s =>
    have p : (f ++ (f1 ++ f2)).Perm (f1 ++ (f ++ f2)) := by
      rw [← List.append_assoc, ← List.append_assoc]; exact (List.perm_append_comm).append_right _
    exact ⟨_, Cfg.perm C (.cons r (a.app s)) p, p⟩
theorem Cfg.atom {d : D} {v : V} (C : Cfg K Fz H st σ fp) (r : Rep K Fz H d v []) : Cfg K Fz H (some d :: st) (some v :: σ) fp := ⟨.cons (.som r) C.rep, C.nd, C.fz, C.ft⟩
theorem Cfg.head {d : D} {y : Option V} (C : Cfg K Fz H (some d :: st) (y :: σ) fp) : ∃ v f, y = some v ∧ Rep K Fz H d v f ∧ ∀ a ∈ f, a ∈ fp := by
  obtain ⟨R, nd, fz, ft⟩ := C
  cases R with
  | cons r s => cases r with | som r => exact ⟨_, _, rfl, r, fun a h => List.mem_append_left _ h⟩
theorem Cfg.get {i : Nat} {d : D} (C : Cfg K Fz H st σ fp) (h : st[i]? = some (some d)) : ∃ v f, σ[i]? = some (some v) ∧ Rep K Fz H d v f ∧ ∀ a ∈ f, a ∈ fp := by
  obtain ⟨y, f, g, e, r, p, _⟩ := C.rep.at h
  cases r with
  | som r => exact ⟨_, f, e, r, fun a q => p.mem_iff.mpr (List.mem_append_left _ q)⟩
end
end Va
namespace Va
open PySem PySem.Spec PyProof.Rows L2
abbrev S := List (Option D)
abbrev M (α : Type) := S → Option (α × S)
/-- what the calls of a body may lean on -/
structure GCx where
  prog : Program
  w : World
  K : PySem.W.Frag
  mg : Str → Option Value
  base : Heap
  A : Around
abbrev gOf (X : Cx) : GCx := ⟨X.prog, X.w, X.K, X.mg, X.base, X.A⟩
structure Gam where
  N : List Str
  sc : Scope
  fnm : Str → Bool := fun _ => true
structure On (Γ : Gam) (Φ : GCx → Prop) (X : Cx) : Prop where
  N : X.N = Γ.N
  sc : X.env.scope = Γ.sc
  nd : X.N.Nodup
  calm : X.calm = true
  kind : X.env.scope.kind = .function
  fn : ∀ x, Γ.fnm x = true → X.fn x = true
  hu : X.A.units + 100 < cLine
  phi : Φ (gOf X)
/-- an expression's meaning as a reading -/
def rd (K : PySem.W.Frag) (m : M D) : TE := fun σ H Q => ∃ Fz fp st, Cfg K Fz H st σ fp ∧ ∃ d st', m st = some (d, st') ∧
  ∀ v H' Fz' fp', Cfg K Fz' H' (some d :: st') (some v :: σ) fp' → Go Fz H fp Fz' H' fp' → Q v H'
def rdT (K : PySem.W.Frag) (m : M Bool) : TT := fun σ H Q => ∃ Fz fp st, Cfg K Fz H st σ fp ∧ ∃ b st', m st = some (b, st') ∧
  ∀ H' Fz' fp', Cfg K Fz' H' st' σ fp' → Go Fz H fp Fz' H' fp' → Q b H'
def rdA (K : PySem.W.Frag) (m : M (List D)) : TA := fun σ H Q => ∃ Fz fp st, Cfg K Fz H st σ fp ∧ ∃ ds st', m st = some (ds, st') ∧
  ∀ vs H' Fz' fp', vs.length = ds.length → Cfg K Fz' H' (ds.map some ++ st') (vs.map some ++ σ) fp' → Go Fz H fp Fz' H' fp' → Q vs H'
def SE (Γ : Gam) (Φ : GCx → Prop) (e : Expr) (m : M D) : Prop := ∀ X, On Γ Φ X → PE X e (rd X.K m)
def ST (Γ : Gam) (Φ : GCx → Prop) (e : Expr) (m : M Bool) : Prop := ∀ X, On Γ Φ X → PT X e (rdT X.K m)
def SW (Γ : Gam) (Φ : GCx → Prop) (e : Expr) (m : M Bool) : Prop := ∀ X, On Γ Φ X → PW X e (rdT X.K m)
def SA (Γ : Gam) (Φ : GCx → Prop) (es : List Expr) (m : M (List D)) : Prop := ∀ X, On Γ Φ X → PA X es (rdA X.K m)
theorem pe_imp {X : Cx} {e : Expr} {t t' : TE} (h : PE X e t) (i : ∀ σ H Q, t' σ H Q → t σ H Q) : PE X e t' := ⟨fun pins s σ H Q I q => h.run pins s σ H Q I (i σ H Q q)⟩
theorem pt_imp {X : Cx} {e : Expr} {t t' : TT} (h : PT X e t) (i : ∀ σ H Q, t' σ H Q → t σ H Q) : PT X e t' := ⟨fun pins s σ H Q I q => h.run pins s σ H Q I (i σ H Q q)⟩
theorem pw_imp {X : Cx} {e : Expr} {t t' : TT} (h : PW X e t) (i : ∀ σ H Q, t' σ H Q → t σ H Q) : PW X e t' := ⟨fun wh pins s σ H Q I q => h.run wh pins s σ H Q I (i σ H Q q)⟩
theorem pa_imp {X : Cx} {e : List Expr} {t t' : TA} (h : PA X e t) (i : ∀ σ H Q, t' σ H Q → t σ H Q) : PA X e t' := ⟨fun pos pins s σ H Q I q => h.run pos pins s σ H Q I (i σ H Q q)⟩
theorem pi_imp {X : Cx} {tg e : Expr} {t t' : TI} (h : PI X tg e t) (i : ∀ σ H Q, t' σ H Q → t σ H Q) : PI X tg e t' := ⟨fun pins s σ H Q I q => h.run pins s σ H Q I (i σ H Q q)⟩
theorem ps_imp {X : Cx} {e : Stmt} {t t' : TS} (h : PS X e t) (i : ∀ D σ H, t' D σ H → t D σ H) : PS X e t' := ⟨fun pins s σ H D I q => h.run pins s σ H D I (i D σ H q)⟩
theorem pss_imp {X : Cx} {e : List Stmt} {t t' : TS} (h : PSs X e t) (i : ∀ D σ H, t' D σ H → t D σ H) : PSs X e t' := ⟨fun pins s σ H D I q => h.run pins s σ H D I (i D σ H q)⟩
section
variable {K : PySem.W.Frag} {Fz : Addr → Prop} {H : Hp} {st st' P : S} {σ PV : List (Option V)} {fp : List Addr}
theorem rd.run {m : M D} {d : D} {Q : VK} (C : Cfg K Fz H (P ++ st) (PV ++ σ) fp) (hl : P.length = PV.length) (hm : m st = some (d, st'))
    (k : ∀ v H' Fz' fp', Cfg K Fz' H' (some d :: (P ++ st')) (some v :: (PV ++ σ)) fp' → Go Fz H fp Fz' H' fp' → Q v H') : rd K m σ H Q := by
  obtain ⟨fP, f, C0, fr⟩ := C.frame hl
  refine ⟨Fz, f, st, C0, d, st', hm, fun v H' Fz' fp' C' g => ?_⟩
  obtain ⟨fp2, C2, g2, e⟩ := fr C' g
  obtain ⟨fp3, C3, p⟩ := C2.float (P := P) (PV := PV) hl
  exact k v H' Fz' fp3 C3 (g2.sub fun a h => p.mem_iff.mp h)
theorem rdT.run {m : M Bool} {d : Bool} {Q : Bool → Hp → Prop} (C : Cfg K Fz H (P ++ st) (PV ++ σ) fp) (hl : P.length = PV.length) (hm : m st = some (d, st'))
    (k : ∀ H' Fz' fp', Cfg K Fz' H' (P ++ st') (PV ++ σ) fp' → Go Fz H fp Fz' H' fp' → Q d H') : rdT K m σ H Q := by
  obtain ⟨fP, f, C0, fr⟩ := C.frame hl
  refine ⟨Fz, f, st, C0, d, st', hm, fun H' Fz' fp' C' g => ?_⟩
  obtain ⟨fp2, C2, g2, e⟩ := fr C' g
  exact k H' Fz' fp2 C2 g2
theorem Cfg.rot : ∀ {P : S} {PV : List (Option V)} {R : S} {RV : List (Option V)} {fp}, P.length = PV.length → R.length = RV.length → Cfg K Fz H (P ++ (R ++ st)) (PV ++ (RV ++ σ)) fp → ∃ fp', Cfg K Fz H (R ++ (P ++ st)) (RV ++ (PV ++ σ)) fp' ∧ fp'.Perm fp
  | P, PV, [], [], fp, _, _, C => ⟨fp, C, .refl _⟩
  | P, PV, x :: R, y :: RV, fp, hl, h, C => by
    obtain ⟨f1, C1, p1⟩ := Cfg.float (P := P) (PV := PV) (st := R ++ st) (σ := RV ++ σ) hl C
    obtain ⟨f2, C2, p2⟩ : ∃ fp', Cfg K Fz H (R ++ ((x :: P) ++ st)) (RV ++ ((y :: PV) ++ σ)) fp' ∧ fp'.Perm f1 := Cfg.rot (by simp [hl]) (by simpa using h) C1
    obtain ⟨f3, C3, p3⟩ := Cfg.float (x := x) (y := y) (P := R) (PV := RV) (by simpa using h) C2
    exact ⟨f3, C3, p3.trans (p2.trans p1)⟩
theorem rdA.run {m : M (List D)} {ds : List D} {Q : List V → Hp → Prop} (C : Cfg K Fz H (P ++ st) (PV ++ σ) fp) (hl : P.length = PV.length) (hm : m st = some (ds, st'))
    (k : ∀ vs H' Fz' fp', vs.length = ds.length → Cfg K Fz' H' (ds.map some ++ (P ++ st')) (vs.map some ++ (PV ++ σ)) fp' → Go Fz H fp Fz' H' fp' → Q vs H') : rdA K m σ H Q := by
  obtain ⟨fP, f, C0, fr⟩ := C.frame hl
  refine ⟨Fz, f, st, C0, ds, st', hm, fun vs H' Fz' fp' hv C' g => ?_⟩
  obtain ⟨fp2, C2, g2, e⟩ := fr C' g
  obtain ⟨fp3, C3, p⟩ := Cfg.rot hl (by simp [hv]) C2
  exact k vs H' Fz' fp3 hv C3 (g2.sub fun a h => p.mem_iff.mp h)
abbrev Fin1 (K : PySem.W.Frag) (Fz : Addr → Prop) (H : Hp) (fp : List Addr) (σ : List (Option V)) (z : D) (s : S) (Q : VK) : Prop :=
  ∀ v H' Fz' fp', Cfg K Fz' H' (some z :: s) (some v :: σ) fp' → Go Fz H fp Fz' H' fp' → Q v H'
theorem fin_atom {Fz2 H2 fp2 T TV z v s Q} (k : Fin1 K Fz H fp σ z s Q) (hl : T.length = TV.length) (C : Cfg K Fz2 H2 (T ++ s) (TV ++ σ) fp2) (g : Go Fz H fp Fz2 H2 fp2) (r : Rep K Fz2 H2 z v []) : Q v H2 := by
  obtain ⟨f, C1, h⟩ := C.drops hl
  exact k v H2 Fz2 f (C1.atom r) (g.sub h)
/-- a new object -/
theorem fin_new {Fz2 H2 fp2 T TV z s Q o p} {Fz3 : Addr → Prop} {f3 : List Addr} (k : Fin1 K Fz H fp σ z s Q) (hl : T.length = TV.length) (C : Cfg K Fz2 H2 (T ++ s) (TV ++ σ) fp2) (g : Go Fz H fp Fz2 H2 fp2) (hp : H2 p = none)
    (ho : (f3 = [p] ∧ Fz3 = Fz2) ∨ (f3 = [] ∧ Fz3 = fun a => Fz2 a ∨ a = p)) (r : Rep K Fz3 (upd H2 p o) z (.ref p) f3) : Q (.ref p) (upd H2 p o) := by
  obtain ⟨f, C1, h⟩ := C.drops hl
  have hm : ∀ a, Fz2 a → Fz3 a := by
    rcases ho with ⟨_, e⟩ | ⟨_, e⟩
    · rw [e]; exact fun _ h => h
    · rw [e]; exact fun _ h => .inl h
  have hk : ∀ a u, H2 a = some u → upd H2 p o a = some u := fun a u e => by rw [upd_ne (ne_of_none e hp)]; exact e
  have nf : p ∉ f := fun q => C1.there p q hp
  have C2 : Cfg K Fz3 (upd H2 p o) (some z :: s) (some (.ref p) :: σ) (f3 ++ f) := by
    refine ⟨.cons (.som r) (C1.rep.keep hm (fun a u _ e => hk a u e) fun a u _ e => hk a u e), ?_, fun a h z => ?_, fun a z => ?_⟩
    · rcases ho with ⟨e, _⟩ | ⟨e, _⟩
      · rw [e]; exact List.nodup_cons.mpr ⟨nf, C1.nd⟩
      · rw [e]; exact C1.nd
    · rcases ho with ⟨e, e2⟩ | ⟨e, e2⟩
      · rw [e] at h
        rw [e2] at z
        rcases List.mem_cons.mp h with q | q
        · rw [q] at z; exact C1.ft p z hp
        · exact C1.fz a q z
      · rw [e] at h
        rw [e2] at z
        rcases z with z | z
        · exact C1.fz a h z
        · rw [z] at h; exact nf h
    · have z' : Fz2 a ∨ a = p := by
        rcases ho with ⟨_, e⟩ | ⟨_, e⟩
        · rw [e] at z; exact .inl z
        · rw [e] at z; exact z
      by_cases ea : a = p
      · rw [ea, upd_same]; exact Option.some_ne_none _
      · rw [upd_ne ea]
        exact C1.ft a (z'.resolve_right ea)
  refine k _ _ Fz3 (f3 ++ f) C2 (g.trans ⟨fun a u e _ => hk a u e, fun a e => ?_, hm, fun a z => ?_, fun a h' => ?_⟩)
  · by_cases e' : a = p
    · rw [e']; exact hp
    · rw [upd_ne e'] at e; exact e
  · rcases ho with ⟨_, e⟩ | ⟨_, e⟩
    · rw [e] at z; exact .inl z
    · rw [e] at z
      rcases z with z | z
      · exact .inl z
      · rw [z]; exact .inr (.inr hp)
  · rcases List.mem_append.mp h' with q | q
    · rcases ho with ⟨e, _⟩ | ⟨e, _⟩
      · rw [e] at q
        have : a = p := by simpa using q
        rw [this]; exact .inr hp
      · rw [e] at q; exact nomatch q
    · exact .inl (h a q)
end
end Va
namespace Va
open PySem PySem.Spec PyProof.Rows L2
def shp : Nat → D → Bool
  | 0, _ => false
  | _ + 1, .non => true
  | _ + 1, .bl _ => true
  | _ + 1, .int _ => true
  | _ + 1, .str x => PyData.strOk x
  | n + 1, .tup xs => xs.all (shp n)
  | n + 1, .rol xs => xs.all (shp n)
  | n + 1, .lst _ xs => xs.all (shp n)
  | _ + 1, .dic _ _ => false
  | _ + 1, .nd _ _ => false
  | _ + 1, .ld _ => false
def toP : Nat → D → PyData
  | 0, _ => .none
  | _ + 1, .non => .none
  | _ + 1, .bl b => .bool b
  | _ + 1, .int i => .int i
  | _ + 1, .str x => .str x
  | n + 1, .tup xs => .tuple (xs.map (toP n))
  | n + 1, .rol xs => .list (xs.map (toP n))
  | n + 1, .lst _ xs => .list (xs.map (toP n))
  | _ + 1, .dic _ _ => .none
  | _ + 1, .nd _ _ => .none
  | _ + 1, .ld _ => .none
def eqL (f : D → D → Bool) : List D → List D → Bool
  | [], [] => true
  | x :: xs, y :: ys => f x y && eqL f xs ys
  | _, _ => false
def b2i (b : Bool) : Int := if b then 1 else 0
def seqOf : D → Option (Bool × List D)
  | .tup xs => some (true, xs)
  | .rol xs => some (false, xs)
  | .lst _ xs => some (false, xs)
  | _ => none
def eqF : Nat → D → D → Bool
  | 0, _, _ => false
  | n + 1, d, e =>
    match d, e with
    | .int i, .int j => i == j
    | .non, .non => true
    | .bl a, .bl b => a == b
    | .bl a, .int j => b2i a == j
    | .int i, .bl b => i == b2i b
    | .str x, .str y => x == y
    | d, e => match seqOf d, seqOf e with
      | some (a, xs), some (b, ys) => (a == b) && eqL (eqF n) xs ys
      | _, _ => false
def eqD (d e : D) : Option Bool := if shp 60 d && shp 60 e then some (eqF 60 d e) else none
theorem eqvAll_map {n : Nat} (ih : ∀ d e, shp n d = true → shp n e = true → eqF n d e = PyData.eqv (toP n d) (toP n e)) : ∀ xs ys : List D, xs.all (shp n) = true → ys.all (shp n) = true →
    eqL (eqF n) xs ys = PyData.eqvAll (xs.map (toP n)) (ys.map (toP n))
  | [], [], _, _ => by simp [eqL, PyData.eqvAll]
  | [], _ :: _, _, _ => by simp [eqL, PyData.eqvAll]
  | _ :: _, [], _, _ => by simp [eqL, PyData.eqvAll]
  | x :: xs, y :: ys, h, h' => by
    simp only [List.all_cons, Bool.and_eq_true] at h h'
    simp only [eqL, List.map_cons, PyData.eqvAll]
    rw [ih x y h.1 h'.1, eqvAll_map ih xs ys h.2 h'.2]
theorem eqF_eqv : ∀ (n : Nat) (d e : D), shp n d = true → shp n e = true → eqF n d e = PyData.eqv (toP n d) (toP n e)
  | 0, _, _, h, _ => by simp [shp] at h
  | n + 1, d, e, h, h' => by
    have L := eqvAll_map (eqF_eqv n)
    cases d <;> cases e <;> simp_all [eqF, toP, PyData.eqv, seqOf, shp, b2i]
theorem toP_lay : ∀ (n : Nat) (d : D), shp n d = true → (toP n d).canLay0 = true
  | 0, _, h => by simp [shp] at h
  | n + 1, d, h => by
    have L : ∀ xs : List D, xs.all (shp n) = true → PyData.canLayAll0 (xs.map (toP n)) = true := fun xs => by
      induction xs with
      | nil => intro _; simp [PyData.canLayAll0]
      | cons x xs ih =>
        intro h
        simp only [List.all_cons, Bool.and_eq_true] at h
        simp only [List.map_cons, PyData.canLayAll0, toP_lay n x h.1, ih h.2, Bool.and_self]
    cases d <;> simp_all [toP, PyData.canLay0, shp]
theorem toP_depth : ∀ (n : Nat) (d : D), (toP n d).depth ≤ n
  | 0, _ => by simp [toP, PyData.depth]
  | n + 1, d => by
    have L : ∀ xs : List D, PyData.depthAll (xs.map (toP n)) ≤ n := fun xs => by
      induction xs with
      | nil => simp [PyData.depthAll]
      | cons x xs ih =>
        have := toP_depth n x
        simp only [List.map_cons, PyData.depthAll]
        omega
    cases d with
    | tup xs => have := L xs; simp only [toP, PyData.depth]; omega
    | rol xs => have := L xs; simp only [toP, PyData.depth]; omega
    | lst o xs => have := L xs; simp only [toP, PyData.depth]; omega
    | _ => simp [toP, PyData.depth]
theorem toP_shaped {d : D} (h : shp 60 d = true) : SeqAt.shaped (toP 60 d) = true := by
  have := toP_depth 60 d
  simp only [SeqAt.shaped, toP_lay 60 d h, Bool.true_and, decide_eq_true_eq]
  omega
section
variable {K : PySem.W.Frag} {Fz : Addr → Prop} {H : Hp}
theorem RepL.dp {n : Nat} (ih : ∀ {d v f}, Rep K Fz H d v f → shp n d = true → Dp K H v (toP n d)) : ∀ {xs vs f}, RepL K Fz H xs vs f → xs.all (shp n) = true → DpAll K H vs (xs.map (toP n))
  | _, _, _, .nil, _ => .nil
  | _, _, _, .cons r s, h => by
    simp only [List.all_cons, Bool.and_eq_true] at h
    exact .cons (ih r h.1) (RepL.dp ih s h.2)
theorem Rep.dp : ∀ (n : Nat) {d v f}, Rep K Fz H d v f → shp n d = true → Dp K H v (toP n d)
  | 0, _, _, _, _, h => by simp [shp] at h
  | n + 1, d, v, f, r, h => by
    cases r with
    | non => exact .non
    | bl b => exact .bl b
    | int i => exact .int i
    | str x => exact .str x
    | tup q z r => exact .tup q.sq (RepL.dp (Rep.dp n) r (by simpa [shp] using h))
    | rol q r => exact .lst q.sq (RepL.dp (Rep.dp n) r (by simpa [shp] using h))
    | lstF q z r => exact .lst (.inl (.inl q)) (RepL.dp (Rep.dp n) r (by simpa [shp] using h))
    | lstO q r => exact .lst (.inl (.inl q)) (RepL.dp (Rep.dp n) r (by simpa [shp] using h))
    | dicF q z r => simp [shp] at h
    | dicO q r => simp [shp] at h
    | ndF q z r => simp [shp] at h
    | ndO q r => simp [shp] at h
    | ldF q z r => simp [shp] at h
end
end Va
namespace Va
open PySem PySem.Spec PyProof.Rows L2
def imm : D → Bool
  | .lst o _ => !o
  | .dic o _ => !o
  | .nd o _ => !o
  | _ => true
mutual
def frz : D → D
  | .lst true xs => .lst false (frzL xs)
  | .dic true kvs => .dic false (frzK kvs)
  | .nd true kvs => .nd false (frzK kvs)
  | d => d
def frzL : List D → List D
  | [] => []
  | x :: xs => frz x :: frzL xs
def frzK : List (D × D) → List (D × D)
  | [] => []
  | (k, x) :: xs => (k, frz x) :: frzK xs
end
section
variable {K : PySem.W.Frag} {Fz Fz' : Addr → Prop} {H : Hp}
theorem Rep.imm {d v f} (r : Rep K Fz H d v f) (h : Va.imm d = true) : f = [] := by
  cases r <;> simp_all [Va.imm]
theorem RepL.imm : ∀ {d v f}, RepL K Fz H d v f → d.all Va.imm = true → f = []
  | _, _, _, .nil, _ => rfl
  | _, _, _, .cons r s, h => by
    simp only [List.all_cons, Bool.and_eq_true] at h
    rw [r.imm h.1, RepL.imm s h.2]; rfl
theorem RepL.length : ∀ {d v f}, RepL K Fz H d v f → d.length = v.length
  | _, _, _, .nil => rfl
  | _, _, _, .cons r s => by simp [RepL.length s]
theorem RepL.app : ∀ {d v f d2 v2 g}, RepL K Fz H d v f → RepL K Fz H d2 v2 g → RepL K Fz H (d ++ d2) (v ++ v2) (f ++ g)
  | _, _, _, _, _, _, .nil, s => s
  | _, _, _, _, _, _, .cons r t, s => by rw [List.append_assoc]; exact .cons r (RepL.app t s)
theorem RepL.get0 : ∀ {d v} {i : Nat} {x : D}, RepL K Fz H d v [] → d[i]? = some x → ∃ y, v[i]? = some y ∧ Rep K Fz H x y []
  | _, _, i, x, h, e => by
    generalize hf : ([] : List Addr) = f at h
    cases h with
    | nil => simp at e
    | @cons d v f1 ds vs f2 r s =>
      obtain ⟨h1, h2⟩ := List.append_eq_nil_iff.mp hf.symm
      subst h1 h2
      cases i with
      | zero => simp at e; subst e; exact ⟨_, rfl, r⟩
      | succ i => obtain ⟨y, e1, r1⟩ := RepL.get0 (i := i) s (by simpa using e); exact ⟨y, by simpa using e1, r1⟩
theorem RepL.take0 : ∀ (n : Nat) {d v}, RepL K Fz H d v [] → RepL K Fz H (d.take n) (v.take n) []
  | 0, _, _, _ => .nil
  | n + 1, _, _, h => by
    generalize hf : ([] : List Addr) = f at h
    cases h with
    | nil => exact .nil
    | @cons d v f1 ds vs f2 r s =>
      obtain ⟨h1, h2⟩ := List.append_eq_nil_iff.mp hf.symm
      subst h1 h2
      exact .cons r (RepL.take0 n s)
theorem RepL.drop0 : ∀ (n : Nat) {d v}, RepL K Fz H d v [] → RepL K Fz H (d.drop n) (v.drop n) []
  | 0, _, _, h => h
  | n + 1, _, _, h => by
    generalize hf : ([] : List Addr) = f at h
    cases h with
    | nil => exact .nil
    | @cons d v f1 ds vs f2 r s =>
      obtain ⟨h1, h2⟩ := List.append_eq_nil_iff.mp hf.symm
      subst h1 h2
      exact RepL.drop0 n s
mutual
theorem Rep.frz (m : ∀ a, Fz a → Fz' a) : ∀ {d v f}, Rep K Fz H d v f → (∀ a ∈ f, Fz' a) → Rep K Fz' H (Va.frz d) v []
  | _, _, _, .non, _ => .non
  | _, _, _, .bl b, _ => .bl b
  | _, _, _, .int i, _ => .int i
  | _, _, _, .str x, _ => .str x
  | _, _, _, .tup q z r, _ => .tup q (m _ z) (r.keep m (fun _ _ _ h => h) fun _ _ _ h => h)
  | _, _, _, .rol q r, _ => .rol (sqZ_keep m (fun _ _ _ h => h) q) (r.keep m (fun _ _ _ h => h) fun _ _ _ h => h)
  | _, _, _, .lstF q z r, _ => .lstF q (m _ z) (r.keep m (fun _ _ _ h => h) fun _ _ _ h => h)
  | _, _, _, .lstO q r, k => .lstF q (k _ (List.mem_cons_self ..)) (RepL.frz m r fun a h => k a (List.mem_cons_of_mem _ h))
  | _, _, _, .dicF q z r, _ => .dicF q (m _ z) (r.keep m (fun _ _ _ h => h) fun _ _ _ h => h)
  | _, _, _, .dicO q r, k => .dicF q (k _ (List.mem_cons_self ..)) (RepK.frz m r fun a h => k a (List.mem_cons_of_mem _ h))
  | _, _, _, .ndF q z r, _ => .ndF q (m _ z) (r.keep m (fun _ _ _ h => h) fun _ _ _ h => h)
  | _, _, _, .ndO q r, k => .ndF q (k _ (List.mem_cons_self ..)) (RepN.frz m r fun a h => k a (List.mem_cons_of_mem _ h))
  | _, _, _, .ldF q z r, _ => .ldF q (m _ z) (r.keep m (fun _ _ _ h => h) fun _ _ _ h => h)
theorem RepL.frz (m : ∀ a, Fz a → Fz' a) : ∀ {d v f}, RepL K Fz H d v f → (∀ a ∈ f, Fz' a) → RepL K Fz' H (frzL d) v []
  | _, _, _, .nil, _ => .nil
  | _, _, _, .cons r s, k => .cons (f := []) (g := []) (Rep.frz m r fun a h => k a (List.mem_append_left _ h)) (RepL.frz m s fun a h => k a (List.mem_append_right _ h))
theorem RepK.frz (m : ∀ a, Fz a → Fz' a) : ∀ {d v f}, RepK K Fz H d v f → (∀ a ∈ f, Fz' a) → RepK K Fz' H (frzK d) v []
  | _, _, _, .nil, _ => .nil
  | _, _, _, .cons e r s, k => .cons (f := []) (g := []) e (Rep.frz m r fun a h => k a (List.mem_append_left _ h)) (RepK.frz m s fun a h => k a (List.mem_append_right _ h))
theorem RepN.frz (m : ∀ a, Fz a → Fz' a) : ∀ {d v f}, RepN K Fz H d v f → (∀ a ∈ f, Fz' a) → RepN K Fz' H (frzK d) v []
  | _, _, _, .nil, _ => .nil
  | _, _, _, .cons e rk r s, k => .cons (f := []) (g := []) e (rk.keep m (fun _ _ _ h => h) fun _ _ _ h => h) (Rep.frz m r fun a h => k a (List.mem_append_left _ h)) (RepN.frz m s fun a h => k a (List.mem_append_right _ h))
end
end
def mC (d : D) : M D := fun st => some (d, st)
/-- a name as a value: what is owned is frozen -/
def mVar (i : Nat) : M D := fun st => match st[i]? with
  | some (some d) => match imm d with
    | true => some (d, st)
    | false => some (frz d, st.set i (some (frz d)))
  | _ => none
def gVis (sc : Scope) (x : Str) : Bool := match sc.names.lookup x with
  | some .local => true | some .cell => true | some .free => true | _ => false
theorem gVis_vis {sc : Scope} {x : Str} (h : gVis sc x = true) : Vis sc x := by
  unfold gVis at h; unfold Vis
  split at h <;> simp_all
def gGl (sc : Scope) (x : Str) : Bool := sc.names.lookup x == some .globalImplicit
theorem gGl_gl {X : Cx} {sc : Scope} {x : Str} (e : X.env.scope = sc) (h : gGl sc x = true) : Gl X x := by
  subst e
  exact eq_of_beq h
section
variable {Γ : Gam} {Φ : GCx → Prop}
theorem On.vis {X : Cx} (o : On Γ Φ X) {x : Str} (h : gVis Γ.sc x = true) : Vis X.env.scope x := by rw [o.sc]; exact gVis_vis h
theorem On.gl {X : Cx} (o : On Γ Φ X) {x : Str} (h : gGl Γ.sc x = true) : Gl X x := gGl_gl o.sc h
theorem On.slot {X : Cx} (o : On Γ Φ X) {i : Nat} {x : Str} (h : Γ.N[i]? = some x) : X.N[i]? = some x := by rw [o.N]; exact h
theorem se_c {e : Expr} {d : D} {v : V} (h : ∀ X, On Γ Φ X → PE X e (tC v)) (r : ∀ K Fz H, Rep K Fz H d v []) : SE Γ Φ e (mC d) := fun X o => pe_imp (h X o) fun σ H Q q => by
  obtain ⟨Fz, fp, st, C, d', st', e, k⟩ := q
  cases e
  exact k v H Fz fp (C.atom (r _ _ _)) .refl
theorem se_int {i j pos} : SE Γ Φ (.Constant (.int i) j pos) (mC (.int i)) := se_c (fun _ _ => pe_int) fun _ _ _ => .int i
theorem se_bl {i j pos} : SE Γ Φ (.Constant (.bool i) j pos) (mC (.bl i)) := se_c (fun _ _ => pe_bl) fun _ _ _ => .bl i
theorem se_non {j pos} : SE Γ Φ (.Constant .none j pos) (mC .non) := se_c (fun _ _ => pe_non) fun _ _ _ => .non
theorem se_str {x j pos} : SE Γ Φ (.Constant (.str x) j pos) (mC (.str x)) := se_c (fun _ _ => pe_str) fun _ _ _ => .str x
/-- an int constant of the module -/
theorem se_gint {x : Str} {i : Int} {pos} (hm : ∀ X, On Γ Φ X → ∃ t, X.mg x = some (.int i t)) (hg : gGl Γ.sc x = true) (hd : (x == ("__debug__" : Str)) = false := by decide) : SE Γ Φ (.Name x pos) (mC (.int i)) :=
  se_c (fun X o => by obtain ⟨t, e⟩ := hm X o; exact pe_glob (o.gl hg) e ⟨t, rfl⟩ hd) fun _ _ _ => .int i
theorem se_var (i : Nat) {x : Str} {pos : Pos} (hN : Γ.N[i]? = some x := by rfl) (hv : gVis Γ.sc x = true := by rfl) (hd : (x == ("__debug__" : Str)) = false := by decide) (hcd : (x == ("__classdict__" : Str)) = false := by decide) :
    SE Γ Φ (.Name x pos) (mVar i) := fun X o => pe_imp (pe_var (o.slot hN) (o.vis hv) hd hcd) fun σ H Q q => by
  obtain ⟨Fz, fp, st, C, d', st', e, k⟩ := q
  unfold mVar at e
  split at e
  · rename_i d hd
    obtain ⟨y, f, g, ey, ro, p, put⟩ := C.rep.at hd
    cases ro with
    | @som _ v _ r =>
      split at e
      · rename_i hi
        cases e
        have := r.imm hi
        subst this
        exact ⟨v, ey, k v H Fz fp (C.atom r) .refl⟩
      · rename_i hi
        cases e
        refine ⟨v, ey, ?_⟩
        have nd : (f ++ g).Nodup := p.nodup_iff.mp C.nd
        have nd' := List.nodup_append.mp nd
        have m : ∀ a, Fz a → Fz a ∨ a ∈ f := fun _ h => .inl h
        have rF : Rep X.K _ H (frz d) v [] := r.frz (Fz' := fun a => Fz a ∨ a ∈ f) m fun a h => .inr h
        obtain ⟨fp', R, p'⟩ := put (Fz' := fun a => Fz a ∨ a ∈ f) (H' := H) (fun {e w kk} _ ro => ro.keep m (fun _ _ _ h => h) fun _ _ _ h => h) (.som rF)
        have hset : σ.set i (some v) = σ := by
          apply List.ext_getElem?
          intro j
          rw [List.getElem?_set]
          split
          · rename_i h; subst h
            split
            · exact ey.symm
            · rename_i h2; rw [List.getElem?_eq_none (by omega)] at ey; cases ey
          · rfl
        rw [hset] at R
        have C' : Cfg X.K (fun a => Fz a ∨ a ∈ f) H (st.set i (some (frz d))) σ fp' := by
          refine ⟨R, p'.nodup_iff.mpr nd'.2.1, fun a h z => ?_, fun a z => ?_⟩
          · have ha : a ∈ g := p'.mem_iff.mp h
            rcases z with z | z
            · exact C.fz a (p.mem_iff.mpr (List.mem_append_right _ ha)) z
            · exact nd'.2.2 a z a ha rfl
          · rcases z with z | z
            · exact C.ft a z
            · exact C.there a (p.mem_iff.mpr (List.mem_append_left _ z))
        refine k v H _ fp' (C'.atom rF) ⟨fun _ _ h _ => h, fun _ h => h, m, fun a z => ?_, fun a h => .inl (p.mem_iff.mpr (List.mem_append_right _ (p'.mem_iff.mp h)))⟩
        rcases z with z | z
        · exact .inl z
        · exact .inr (.inl (p.mem_iff.mpr (List.mem_append_left _ z)))
  · cases e
end
inductive Opd where
  | v (i : Nat) | e (m : M D)
def Opd.run : Opd → M D
  | .v i => fun st => match st[i]? with
    | some (some _) => some (.non, st)
    | _ => none
  | .e m => m
def Opd.val : Opd → D → S → Option D
  | .v i, _, st => match st[i]? with
    | some (some d) => some d
    | _ => none
  | .e _, d, _ => some d
def rdO (K : PySem.W.Frag) : Opd → TE
  | .v i => tVar i
  | .e m => rd K m
def SO (Γ : Gam) (Φ : GCx → Prop) (e : Expr) (o : Opd) : Prop := ∀ X, On Γ Φ X → PE X e (rdO X.K o)
def m1 (o1 : Opd) (f : D → Option D) : M D := fun st => match o1.run st with
  | some (r1, s1) => match o1.val r1 s1 with
    | some a => match f a with
      | some z => some (z, s1)
      | none => none
    | none => none
  | none => none
def m2 (o1 o2 : Opd) (f : D → D → Option D) : M D := fun st => match o1.run st with
  | some (r1, s1) => match o2.run s1 with
    | some (r2, s2) => match o1.val r1 s2 with
      | some a => match o2.val r2 s2 with
        | some b => match f a b with
          | some z => some (z, s2)
          | none => none
        | none => none
      | none => none
    | none => none
  | none => none
section
variable {Γ : Gam} {Φ : GCx → Prop}
theorem so_v (i : Nat) {x : Str} {pos : Pos} (hN : Γ.N[i]? = some x := by rfl) (hv : gVis Γ.sc x = true := by rfl) (hd : (x == ("__debug__" : Str)) = false := by decide) (hcd : (x == ("__classdict__" : Str)) = false := by decide) :
    SO Γ Φ (.Name x pos) (.v i) := fun X o => pe_var (o.slot hN) (o.vis hv) hd hcd
theorem so_e {e : Expr} {m : M D} (h : SE Γ Φ e m) : SO Γ Φ e (.e m) := h
end
section
variable {K : PySem.W.Frag} {Fz : Addr → Prop} {H : Hp} {st st' P : S} {σ PV : List (Option V)} {fp : List Addr}
/-- an operand is met: what is known when the value is used, at any later state -/
theorem rdO.run {o : Opd} {r : D} {Q : VK} (C : Cfg K Fz H (P ++ st) (PV ++ σ) fp) (hl : P.length = PV.length) (hm : o.run st = some (r, st'))
    (k : ∀ v H' Fz' fp' (T : S) (TV : List (Option V)), T.length = TV.length → Cfg K Fz' H' (T ++ (P ++ st')) (TV ++ (PV ++ σ)) fp' → Go Fz H fp Fz' H' fp' →
      (∀ Fz2 H2 f2 P2 P2V s2 d, P2.length = P2V.length → Cfg K Fz2 H2 (P2 ++ (T ++ (P ++ s2))) (P2V ++ (TV ++ (PV ++ σ))) f2 → o.val r s2 = some d → ∃ f, Rep K Fz2 H2 d v f ∧ ∀ a ∈ f, a ∈ f2) → Q v H') : rdO K o σ H Q := by
  cases o with
  | v i =>
    simp only [Opd.run] at hm
    split at hm
    · rename_i d' hd
      cases hm
      obtain ⟨v, hs⟩ : ∃ v : V, σ[i]? = some (some v) := by
        obtain ⟨f, g, e, R1, R2⟩ := C.rep.split hl
        obtain ⟨y, f3, g3, ey, ro, p, _⟩ := R2.at hd
        cases ro with
        | som r => exact ⟨_, ey⟩
      refine ⟨v, hs, k v H Fz fp [] [] rfl C .refl fun Fz2 H2 f2 P2 P2V s3 d3 h2 C2 e3 => ?_⟩
      unfold Opd.val at e3
      simp only at e3
      split at e3
      · rename_i d4 hd4
        cases e3
        obtain ⟨f, g, e, R1, R2⟩ := C2.rep.split h2
        obtain ⟨f', g', e', R3, R4⟩ := RepS.split (P := P) (PV := PV) hl R2
        obtain ⟨y, f3, g3, ey, ro, p, _⟩ := R4.at hd4
        cases ro with
        | som r =>
          rw [hs] at ey
          cases ey
          exact ⟨_, r, fun a h => by rw [e, e']; exact List.mem_append_right _ (List.mem_append_right _ (p.mem_iff.mpr (List.mem_append_left _ h)))⟩
      · cases e3
    · cases hm
  | e m =>
    refine rd.run C hl hm fun v H' Fz' fp' C' g => k v H' Fz' fp' [some r] [some v] rfl C' g fun Fz2 H2 f2 P2 P2V s2 d h2 C2 e => ?_
    cases e
    obtain ⟨f, g, e, R1, R2⟩ := C2.rep.split h2
    cases R2 with
    | @cons _ _ f3 g3 _ _ ro rs =>
      cases ro with
      | som r => exact ⟨_, r, fun a h => by rw [e]; exact List.mem_append_right _ (List.mem_append_left _ h)⟩
end
/-- an operation on a value, as the rules r tell it -/
def R1Snd (K : PySem.W.Frag) (r : V → Hp → VK → Prop) (f : D → Option D) : Prop := ∀ {Fz H fp} {σ : List (Option V)} {s : S} {T TV Fz2 H2 fp2 a x fa z} {Q : VK}, f a = some z → T.length = TV.length → Cfg K Fz2 H2 (T ++ s) (TV ++ σ) fp2 →
  Go Fz H fp Fz2 H2 fp2 → Rep K Fz2 H2 a x fa → Fin1 K Fz H fp σ z s Q → r x H2 Q
def R2Snd (K : PySem.W.Frag) (r : R2) (f : D → D → Option D) : Prop := ∀ {Fz H fp} {σ : List (Option V)} {s : S} {T TV Fz2 H2 fp2 a b x y fa fb z} {Q : VK}, f a b = some z → T.length = TV.length → Cfg K Fz2 H2 (T ++ s) (TV ++ σ) fp2 →
  Go Fz H fp Fz2 H2 fp2 → Rep K Fz2 H2 a x fa → Rep K Fz2 H2 b y fb → Fin1 K Fz H fp σ z s Q → r x y H2 Q
theorem R2Snd.or {K r r' f f'} (h : R2Snd K r f) (h' : R2Snd K r' f') : R2Snd K (fun x y H Q => r x y H Q ∨ r' x y H Q) (fun a b => match f a b with | some z => some z | none => f' a b) := by
  intro Fz H fp σ s T TV Fz2 H2 fp2 a b x y fa fb z Q e hl C g ra rb k
  simp only at e
  split at e
  · rename_i hz; cases e; exact .inl (h hz hl C g ra rb k)
  · exact .inr (h' e hl C g ra rb k)
section
variable {K : PySem.W.Frag}
theorem two {o1 o2 : Opd} {f : D → D → Option D} {r : R2} (hs : R2Snd K r f) {σ H Q} (q : rd K (m2 o1 o2 f) σ H Q) : tOp r (rdO K o1) (rdO K o2) σ H Q := by
  obtain ⟨Fz, fp, st, C, d', st', e, k⟩ := q
  unfold m2 at e
  split at e
  · rename_i r1 s1 h1
    split at e
    · rename_i r2 s2 h2
      split at e
      · rename_i a ha
        split at e
        · rename_i b hb
          split at e
          · rename_i z hz
            cases e
            refine rdO.run (P := []) (PV := []) C rfl h1 fun v H1 Fz1 fp1 T TV hT C1 g1 k1 => ?_
            refine rdO.run (P := T) (PV := TV) C1 hT h2 fun u H2 Fz2 fp2 T2 TV2 hT2 C2 g2 k2 => ?_
            obtain ⟨fa, ra, _⟩ := k1 _ _ _ T2 TV2 _ _ hT2 C2 ha
            obtain ⟨fb, rb, _⟩ := k2 _ _ _ [] [] _ _ rfl C2 hb
            refine hs (T := T2 ++ T) (TV := TV2 ++ TV) hz (by simp [hT, hT2]) ?_ (g1.trans g2) ra rb k
            rw [List.append_assoc, List.append_assoc]
            exact C2
          · cases e
        · cases e
      · cases e
    · cases e
  · cases e
end
end Va
namespace Va
open PySem PySem.Spec PyProof.Rows L2
def LN : Nat := 16777216
theorem LN_eq : LN = sizeLine := by rw [sizeLine_eq]; rfl
/-- the object of a tuple that was just made -/
abbrev tupObj (its : List Value) : Obj := { cls := .type "tuple", data := .seq its.toArray }
/-- Q holds of any new tuple of xs -/
def TupQ (H : Hp) (xs : List V) (Q : VK) : Prop := ∀ (p : Addr) (o : Obj), H p = none → o.dict = none → Q (.ref p) (upd H p (.frz o (.tup xs)))
section
variable {X : Cx}
theorem tup_made {pins : List (Addr × Obj)} {σ : L2.St} {H : Hp} {s : Shared} {its : List Value} {xs : List V} {Q : VK} (I : L2.Inv X pins σ H s) (r : Vals xs its) (hz : xs.length ≤ sizeLine) (q : TupQ H xs Q) :
    EP X pins σ Q (.ref s.heap.objs.size) { s with heap := s.heap.push (tupObj its) } :=
  ⟨.ref s.heap.objs.size, upd H s.heap.objs.size (.frz (tupObj its) (.tup xs)), I.laid (t' := s.toks) (fun _ _ e => Heap.get?_push_of_some _ e) (Nat.le_refl _) ⟨Heap.get?_push_size _ rfl, hz, its, r, IsTup.new _ _⟩, rfl,
    q s.heap.objs.size (tupObj its) (I.hok.fresh (Nat.le_refl _)) rfl⟩
/-- t + u -/
def rCatZ (K : PySem.W.Frag) : R2 := fun x y H Q => ∃ a b xs ys, x = .ref a ∧ y = .ref b ∧ SqT K H a xs ∧ SqT K H b ys ∧ xs.length + ys.length ≤ sizeLine ∧
  (xs = [] → Q (.ref b) H) ∧ (xs ≠ [] → ys = [] → Q (.ref a) H) ∧ (xs ≠ [] → ys ≠ [] → TupQ H (xs ++ ys) Q)
theorem op_catZ : OpR X (binaryOp .Add) (rCatZ X.K) := by
  intro pins s σ H x y v u Q I rx ry ⟨a, b, xs, ys, ex, ey, ha, hb, hz, q0, q1, q2⟩
  by_cases hx : xs = []
  · exact op_catA pins s σ H x y v u Q I rx ry ⟨a, b, xs, ys, ex, ey, ha, hb, hz, q0, q1, fun n => absurd hx n⟩
  · by_cases hy : ys = []
    · exact op_catA pins s σ H x y v u Q I rx ry ⟨a, b, xs, ys, ex, ey, ha, hb, hz, q0, q1, fun _ n => absurd hy n⟩
    · subst ex ey
      cases rx
      cases ry
      obtain ⟨its, r1, p1, _⟩ := I.tuple ha
      obtain ⟨jts, r2, p2, _⟩ := I.tuple hb
      exact HT.cat_tup p1 p2 (fun z => hx (r1.nil_iff.mp z)) (fun z => absurd (r2.nil_iff.mp z) hy) (fun _ => tup_made I (r1.append r2) (by rw [List.length_append]; exact hz) (q2 hx hy)) (by rw [← r1.length, ← r2.length]; exact hz)
/-- t[lo:hi]: the whole of it is t itself -/
def rCutZ (K : PySem.W.Frag) : V → Option Int → Option Int → Hp → VK → Prop := fun x lo hi H Q => ∃ a xs, x = .ref a ∧ SqT K H a xs ∧
  (HT.sIx xs.length 0 lo = 0 ∧ HT.sIx xs.length xs.length hi = xs.length → Q (.ref a) H) ∧ (¬ (HT.sIx xs.length 0 lo = 0 ∧ HT.sIx xs.length xs.length hi = xs.length) → TupQ H (cutV xs lo hi) Q)
theorem sl_tupZ : SlR X (rCutZ X.K) := by
  intro pins s σ H x v vl vu lo hi sl Q I rx hs pl pu ⟨a, xs, ex, hx, q1, q2⟩
  by_cases hw : HT.sIx xs.length 0 lo = 0 ∧ HT.sIx xs.length xs.length hi = xs.length
  · exact sl_tupA pins s σ H x v vl vu lo hi sl Q I rx hs pl pu ⟨a, xs, ex, hx, q1, fun n => absurd hw n⟩
  · subst ex
    cases rx
    obtain ⟨its, r, ht, hz⟩ := I.tuple hx
    have hlen : its.toArray.size = xs.length := by rw [List.size_toArray]; exact r.length.symm
    refine ⟨"tuple", _, PyProof.Rows.slot_tuple_getitem.lookup, ht.typeIs, HT.getItem_tuple_cut ht hs pl pu (by rw [hlen]; exact hw) ?_ (by rw [hlen]; exact hz)⟩
    rw [hlen]
    exact tup_made I ((r.drop (HT.sIx xs.length 0 lo)).take (HT.sIx xs.length xs.length hi - HT.sIx xs.length 0 lo)) (Nat.le_trans (cutV_length xs lo hi) hz) (q2 hw)
/-- (a, b, ..) -/
def tTupZ (t : TA) : TE := fun σ H Q => t σ H fun xs H1 => xs.length ≤ sizeLine ∧ TupQ H1 xs Q
theorem pe_tupZ {es : List Expr} {t : TA} {pos : Pos} {kk} (h : PA X es t) : PE X (.Tuple es kk pos) (tTupZ t) :=
  ⟨fun pins s σ H Q I hq => wpAny_Tuple_spliced (thn (h.run pos pins s σ H _ I hq) fun us s1 ⟨xs, H1, I1, r, z, q⟩ => ⟨by rw [← r.length]; exact z, tup_made I1 r z q⟩)⟩
/-- tuple(list), tuple(tuple) -/
theorem call_tupleZ : CallR X (.type "tuple") (fun xs H Q => ∃ p ys, xs = [.ref p] ∧ ((SqL X.K H p ys ∧ TupQ H ys Q) ∨ (SqT X.K H p ys ∧ Q (.ref p) H))) := by
  intro pins s σ H xs us Q I r ⟨p, ys, ex, h⟩
  rcases h with ⟨hq, q⟩ | h
  · subst ex
    obtain ⟨u, rfl, rx⟩ := vals1 r
    cases rx
    obtain ⟨its, r', pl, hz⟩ := I.list hq
    have hlen := r'.length
    refine call_tuple_list pl.isList (fun h' kp => ?_) (by simp only [List.size_toArray] <;> omega)
    have I1 : L2.Inv X pins σ H { s with heap := h' } := I.kept (t' := s.toks) kp
    exact tup_made I1 r' hz q
  · exact call_tuple_of pins s σ H xs us Q I r ⟨p, ys, ex, .inr h⟩
/-- t * k -/
def rRepZ (K : PySem.W.Frag) : R2 := fun x y H Q => ∃ l k xs, x = .ref l ∧ y = .int k ∧ SqT K H l xs ∧ xs ≠ [] ∧ 2 ≤ k ∧ k ≤ 1000 ∧ xs.length ≤ 1000 ∧ TupQ H (List.replicate k.toNat xs).flatten Q
theorem op_repZ : OpR X (binaryOp .Mult) (rRepZ X.K) := by
  intro pins s σ H x y v u Q I rx ry ⟨l, k, xs, e1, e2, hT, hne, h1, h2, hz, q⟩
  subst e1 e2
  cases rx
  obtain ⟨t, rfl⟩ := ry
  obtain ⟨its, r, ⟨⟨cls, dd, data, sl⟩, ho, hc, n, hd⟩, hs⟩ := I.tuple hT
  simp only at hc hd
  subst hc hd
  have hle : its.length = xs.length := r.length.symm
  have hi : its.toArray.isEmpty = false := by
    cases its with
    | nil => exact absurd (List.eq_nil_of_length_eq_zero hle.symm) hne
    | cons a b => rfl
  have hsz0 : its.toArray.size = xs.length := by rw [List.size_toArray, hle]
  have hm : ((its.toArray.size : Nat) : Int) * k ≤ 1000000 := by
    have a1 : ((xs.length : Nat) : Int) * k ≤ 1000 * k := Int.mul_le_mul_of_nonneg_right (by omega) (by omega)
    rw [hsz0]
    omega
  have a2 : k.toNat * xs.length ≤ 1000 * 1000 := Nat.mul_le_mul (by omega) hz
  have flen : (List.replicate k.toNat its).flatten.length ≤ sizeLine := by
    rw [PyProof.Rows.lm_len_rep_flat, hle, sizeLine_eq]
    omega
  have c0 : (decide (k < -(2 ^ 63)) || decide (k ≥ 2 ^ 63)) = false := by
    rw [decide_eq_false (by omega), decide_eq_false (by omega)] <;> rfl
  have c1 : (its.toArray.isEmpty || k == 1) = false := by rw [hi, Bool.false_or]; exact beq_eq_false_iff_ne.mpr (by omega)
  have c2 : (decide (k ≤ 0) || its.toArray.isEmpty) = false := by rw [hi, Bool.or_false]; exact decide_eq_false (by omega)
  have c4 : Builtin.Tuple.tupleTooMany (((its.toArray.size : Nat) : Int) * k) = false := by unfold Builtin.Tuple.tupleTooMany; rw [sizeLine_eq]; exact decide_eq_false (by omega)
  have z := tup_made I (r.rep k.toNat) (by rw [PyProof.Rows.lm_len_rep_flat, sizeLine_eq]; omega) q
  refine wpAny_binaryOp_repeat_ref (T := "tuple") (U := "int") (by decide) ⟨_, ho, rfl⟩ (fun s' => typeIs_int s' k t) noFill_tuple_mul F.fills_int_mul F.slot_int_rmul repeat_tuple F.slot_int_index.lookup (call_meets F.slot_int_rmul (typeIs_int s k t) F.entry_int_rmul (F.args_int_rmul_2 _ _) (int_rmul_tuple k t l its.toArray n dd sl) ⟨ho, rfl, ⟨_, ho, rfl⟩, call_meets F.slot_tuple_mul ⟨_, ho, rfl⟩ F.entry_tuple_mul (F.args_tuple_mul_2 _ _) (tuple_mulW l its.toArray n dd sl k t c0 c1 c2 (by omega) c4 (by rw [size_rep, List.size_toArray]; exact flen)) ⟨ho, ?_⟩⟩)
  rw [size_rep]
  exact z
end
section
variable {K : PySem.W.Frag} {Fz : Addr → Prop} {H : Hp} {s : S} {σ : List (Option V)} {fp : List Addr}
theorem fin_tup {Fz2 H2 fp2 T TV zs vs Q} (k : Fin1 K Fz H fp σ (.tup zs) s Q) (hl : T.length = TV.length) (C : Cfg K Fz2 H2 (T ++ s) (TV ++ σ) fp2) (g : Go Fz H fp Fz2 H2 fp2) (r : RepL K Fz2 H2 zs vs []) :
    TupQ H2 vs Q := fun p o hp hd => by
  refine fin_new (f3 := []) (Fz3 := fun a => Fz2 a ∨ a = p) k hl C g hp (.inr ⟨rfl, rfl⟩) (.tup ⟨o, upd_same, hd⟩ (.inr rfl) ?_)
  exact r.keep (fun _ h => .inl h) (fun a o _ e => by rw [upd_ne (ne_of_none e hp)]; exact e) fun _ _ h => nomatch h
theorem fin_lst {Fz2 H2 fp2 T TV zs vs Q} (k : Fin1 K Fz H fp σ (.lst true zs) s Q) (hl : T.length = TV.length) (C : Cfg K Fz2 H2 (T ++ s) (TV ++ σ) fp2) (g : Go Fz H fp Fz2 H2 fp2) (r : RepL K Fz2 H2 zs vs []) :
    ∀ p, H2 p = none → Q (.ref p) (upd H2 p (.lst vs)) := fun p hp => by
  refine fin_new (f3 := [p]) (Fz3 := Fz2) k hl C g hp (.inl ⟨rfl, rfl⟩) (.lstO upd_same ?_)
  exact r.keep (fun _ h => h) (fun a o _ e => by rw [upd_ne (ne_of_none e hp)]; exact e) fun _ _ h => nomatch h
/-- what a tuple or list is, if its items are not owned -/
theorem Rep.seq {d v f b xs} (r : Rep K Fz H d v f) (h : seqOf d = some (b, xs)) (hi : xs.all Va.imm = true) : ∃ a vs, v = .ref a ∧ RepL K Fz H xs vs [] ∧ (if b then SqT K H a vs else SqL K H a vs) := by
  cases r <;> simp [seqOf] at h
  · obtain ⟨rfl, rfl⟩ := h
    rename_i q z r
    exact ⟨_, _, rfl, r, q.sq⟩
  · obtain ⟨rfl, rfl⟩ := h
    rename_i q r
    exact ⟨_, _, rfl, r, q.sq⟩
  · obtain ⟨rfl, rfl⟩ := h
    rename_i q z r
    exact ⟨_, _, rfl, r, .inl (.inl q)⟩
  · obtain ⟨rfl, rfl⟩ := h
    rename_i q r
    have := r.imm hi
    subst this
    exact ⟨_, _, rfl, r, .inl (.inl q)⟩
theorem Rep.lst {o xs v f} (r : Rep K Fz H (.lst o xs) v f) : ∃ a vs f', v = .ref a ∧ H a = some (.lst vs) ∧ RepL K Fz H xs vs f' ∧ ∀ x ∈ f', x ∈ f := by
  cases r with
  | lstF q z r => exact ⟨_, _, _, rfl, q, r, fun _ h => nomatch h⟩
  | lstO q r => exact ⟨_, _, _, rfl, q, r, fun _ h => List.mem_cons_of_mem _ h⟩
theorem Rep.tupl {xs v f} (r : Rep K Fz H (.tup xs) v f) : ∃ a vs, v = .ref a ∧ Rd H a (.tup vs) ∧ RepL K Fz H xs vs [] := by
  cases r with
  | tup q z r => exact ⟨_, _, rfl, q.rd, r⟩
theorem Rep.inti {i v f} (r : Rep K Fz H (.int i) v f) : v = .int i := by cases r; rfl
theorem Rep.bli {i v f} (r : Rep K Fz H (.bl i) v f) : v = .bl i := by cases r; rfl
theorem Rep.fz0 {xs v f} (r : Rep K Fz H (.tup xs) v f) : Rep K Fz H (.tup xs) v [] := by cases r with | tup q z r => exact .tup q z r
theorem Rep.noni {v f} (r : Rep K Fz H .non v f) : v = .non := by cases r; rfl
theorem Rep.stri {x v f} (r : Rep K Fz H (.str x) v f) : v = .str x := by cases r; rfl
/-- items that are flat -/
def flat : D → Bool
  | .non => true | .bl _ => true | .int _ => true | .str _ => true | _ => false
def d2v : D → V
  | .bl b => .bl b | .int i => .int i | .str x => .str x | _ => .non
theorem Rep.flat {d v f} (r : Rep K Fz H d v f) (h : Va.flat d = true) : v = d2v d ∧ f = [] ∧ flatV v = true := by
  cases r <;> simp_all [Va.flat, d2v, flatV]
theorem RepL.flat : ∀ {xs vs f}, RepL K Fz H xs vs f → xs.all Va.flat = true → vs = xs.map d2v ∧ vs.all flatV = true
  | _, _, _, .nil, _ => ⟨rfl, rfl⟩
  | _, _, _, .cons r s, h => by
    simp only [List.all_cons, Bool.and_eq_true] at h
    obtain ⟨a, _, b⟩ := r.flat h.1
    obtain ⟨c, d⟩ := RepL.flat s h.2
    exact ⟨by rw [a, c]; rfl, by simp [b, d]⟩
end
/-- within 62 bits (by cases: the kernel stops at a number that is not told) -/
def smallI : Int → Bool
  | .ofNat n => Nat.ble n 4611686018427387903
  | .negSucc n => Nat.ble n 4611686018427387903
theorem smallI_ok {i : Int} (h : smallI i = true) : -(2 ^ 62) ≤ i ∧ i < 2 ^ 62 := by
  cases i with
  | ofNat n => have := Nat.le_of_ble_eq_true h; simp only [Int.ofNat_eq_natCast]; omega
  | negSucc n => have := Nat.le_of_ble_eq_true h; omega
theorem smallI_of {i : Int} (h : -(2 ^ 62) ≤ i) (h2 : i < 2 ^ 62) : smallI i = true := by
  cases i with
  | ofNat n => exact Nat.ble_eq_true_of_le (by simp only [Int.ofNat_eq_natCast] at h2; omega)
  | negSucc n => exact Nat.ble_eq_true_of_le (by omega)
def intF (g : Int → Int → Option D) : D → D → Option D
  | .int i, .int j => g i j
  | _, _ => none
section
variable {K : PySem.W.Frag}
theorem snd_int {C : Int → Int → Prop} {g : Int → Int → V} {G : Int → Int → Option D} (h : ∀ i j z, G i j = some z → C i j ∧ ∀ Fz H, Rep K Fz H z (g i j) []) : R2Snd K (rI C g) (intF G) := by
  intro Fz H fp σ s T TV Fz2 H2 fp2 a b x y fa fb z Q e hl C g ra rb k
  unfold intF at e
  split at e
  · obtain ⟨c, r⟩ := h _ _ _ e
    exact ⟨_, _, ra.inti, rb.inti, c, fin_atom k hl C g (r _ _)⟩
  · cases e
theorem snd_int0 {g : Int → Int → V} {G : Int → Int → Option D} (h : ∀ i j z, G i j = some z → ∀ Fz H, Rep K Fz H z (g i j) []) : R2Snd K (rI0 g) (intF G) := by
  intro Fz H fp σ s T TV Fz2 H2 fp2 a b x y fa fb z Q e hl C g ra rb k
  unfold intF at e
  split at e
  · exact ⟨_, _, ra.inti, rb.inti, fin_atom k hl C g (h _ _ _ e _ _)⟩
  · cases e
end
def subF := intF fun i j => some (.int (i - j))
def fdivF := intF fun i j => if 0 < j ∧ j.natAbs.log2 < 9000 then some (.int (i / j)) else none
def modF := intF fun i j => if 0 < j then some (.int (i % j)) else none
def powF := intF fun i j => if 0 ≤ j ∧ j ≤ 1000000 ∧ i.natAbs < 2 ^ 64 then some (.int (i ^ j.toNat)) else none
def addF : D → D → Option D
  | .int i, .int j => some (.int (i + j))
  | .tup xs, .tup ys => if xs.length + ys.length ≤ LN then some (.tup (xs ++ ys)) else none
  | .lst _ xs, .lst _ ys => if (xs.all imm && ys.all imm) = true ∧ xs.length + ys.length ≤ LN then some (.lst true (xs ++ ys)) else none
  | .str x, .str y => if x.length + y.length ≤ LN then some (.str (x ++ y)) else none
  | _, _ => none
def mulF : D → D → Option D
  | .int i, .int j => if i.natAbs.log2 + j.natAbs.log2 < 1000000 then some (.int (i * j)) else none
  | .lst _ xs, .int k => if xs.all imm = true ∧ smallI k = true ∧ xs.length * k.toNat ≤ LN then some (.lst true (List.replicate k.toNat xs).flatten) else none
  | .tup xs, .int k => if xs ≠ [] ∧ 2 ≤ k ∧ k ≤ 1000 ∧ xs.length ≤ 1000 then some (.tup (List.replicate k.toNat xs).flatten) else none
  | _, _ => none
theorem RepL.rep {K : PySem.W.Frag} {Fz : Addr → Prop} {H : Hp} {xs vs} (r : RepL K Fz H xs vs []) : ∀ n : Nat, RepL K Fz H (List.replicate n xs).flatten (List.replicate n vs).flatten []
  | 0 => .nil
  | n + 1 => by
    rw [List.replicate_succ, List.replicate_succ, List.flatten_cons, List.flatten_cons]
    exact r.app (r.rep n)
section
variable {X : Cx}
theorem bin_sub : ∃ r, OpR X (binaryOp .Sub) r ∧ R2Snd X.K r subF := ⟨_, op_sub, snd_int0 fun i j z e Fz H => by cases e; exact .int _⟩
theorem bin_fdiv : ∃ r, OpR X (binaryOp .FloorDiv) r ∧ R2Snd X.K r fdivF := ⟨_, op_fdivW, snd_int fun i j z e => by
  split at e
  · rename_i h; cases e; exact ⟨h, fun _ _ => .int _⟩
  · cases e⟩
theorem bin_mod : ∃ r, OpR X (binaryOp .Mod) r ∧ R2Snd X.K r modF := ⟨_, op_mod, snd_int fun i j z e => by
  split at e
  · rename_i h; cases e; exact ⟨h, fun _ _ => .int _⟩
  · cases e⟩
theorem bin_pow : ∃ r, OpR X (binaryOp .Pow) r ∧ R2Snd X.K r powF := ⟨_, op_pow, snd_int fun i j z e => by
  split at e
  · rename_i h; cases e; exact ⟨h, fun _ _ => .int _⟩
  · cases e⟩
theorem bin_add : ∃ r, OpR X (binaryOp .Add) r ∧ R2Snd X.K r addF := by
  refine ⟨_, (op_add.or (op_catZ.or (op_cat.or op_add_str))), ?_⟩
  intro Fz H fp σ s T TV Fz2 H2 fp2 a b x y fa fb z Q e hl C g ra rb k
  unfold addF at e
  split at e
  · cases e
    exact .inl ⟨_, _, ra.inti, rb.inti, fin_atom k hl C g (.int _)⟩
  · split at e
    · rename_i xs ys hz
      cases e
      obtain ⟨a, vs, rfl, ha, r1⟩ := ra.tupl
      obtain ⟨b, ws, rfl, hb, r2⟩ := rb.tupl
      have l1 := r1.length
      have l2 := r2.length
      refine .inr (.inl ⟨a, b, vs, ws, rfl, rfl, .inl ha, .inl hb, by rw [← l1, ← l2, ← LN_eq]; exact hz, fun e => ?_, fun e e2 => ?_, fun _ _ => fin_tup k hl C g (r1.app r2)⟩)
      · subst e
        have : xs = [] := List.eq_nil_of_length_eq_zero (by simpa using l1)
        subst this
        exact fin_atom k hl C g rb.fz0
      · subst e2
        have : ys = [] := List.eq_nil_of_length_eq_zero (by simpa using l2)
        subst this
        rw [List.append_nil] at k
        exact fin_atom k hl C g ra.fz0
    · cases e
  · split at e
    · rename_i xs _ ys hz
      cases e
      simp only [Bool.and_eq_true] at hz
      obtain ⟨a, vs, f1, rfl, ha, r1, _⟩ := ra.lst
      obtain ⟨b, ws, f2, rfl, hb, r2, _⟩ := rb.lst
      have e1 := r1.imm hz.1.1
      have e2 := r2.imm hz.1.2
      subst e1 e2
      exact .inr (.inr (.inl ⟨a, b, vs, ws, rfl, rfl, ha, hb, by rw [← r1.length, ← r2.length, ← LN_eq]; exact hz.2, fin_lst k hl C g (r1.app r2)⟩))
    · cases e
  · split at e
    · rename_i x y hz
      cases e
      exact .inr (.inr (.inr ⟨x, y, ra.stri, rb.stri, by rw [← LN_eq]; exact hz, fin_atom k hl C g (.str _)⟩))
    · cases e
  · cases e
theorem bin_mul : ∃ r, OpR X (binaryOp .Mult) r ∧ R2Snd X.K r mulF := by
  refine ⟨_, (op_mulW.or (op_rep.or op_repZ)), ?_⟩
  intro Fz H fp σ s T TV Fz2 H2 fp2 a b x y fa fb z Q e hl C g ra rb k
  unfold mulF at e
  split at e
  · split at e
    · rename_i hz
      cases e
      exact .inl ⟨_, _, ra.inti, rb.inti, hz, fin_atom k hl C g (.int _)⟩
    · cases e
  · split at e
    · rename_i xs kk hz
      cases e
      obtain ⟨a, vs, f1, rfl, ha, r1, _⟩ := ra.lst
      have e1 := r1.imm hz.1
      subst e1
      have sm := smallI_ok hz.2.1
      exact .inr (.inl ⟨a, kk, vs, rfl, rb.inti, ha, by omega, by omega, by rw [← r1.length, ← LN_eq]; exact hz.2.2, fin_lst k hl C g (r1.rep _)⟩)
    · cases e
  · split at e
    · rename_i xs kk hz
      cases e
      obtain ⟨a, vs, rfl, ha, r1⟩ := ra.tupl
      refine .inr (.inr ⟨a, kk, vs, rfl, rb.inti, .inl ha, fun e => ?_, hz.2.1, hz.2.2.1, by rw [← r1.length]; exact hz.2.2.2, fin_tup k hl C g (r1.rep _)⟩)
      subst e
      exact hz.1 (List.eq_nil_of_length_eq_zero (by simpa using r1.length))
    · cases e
  · cases e
end
section
variable {Γ : Gam} {Φ : GCx → Prop}
theorem se_bin {op : Operator} {a b : Expr} {o1 o2 : Opd} {f : D → D → Option D} {pos : Pos} (hr : ∀ X : Cx, X.A.units + 100 < cLine → X.calm = true → ∃ r, OpR X (binaryOp op) r ∧ R2Snd X.K r f) (ha : SO Γ Φ a o1) (hb : SO Γ Φ b o2) : SE Γ Φ (.BinOp a op b pos) (m2 o1 o2 f) := fun X o => by
  obtain ⟨r, h1, h2⟩ := hr X o.hu o.calm
  exact pe_imp (pe_op h1 (ha X o) (hb X o)) fun σ H Q q => two h2 q
theorem se_add {a b o1 o2 pos} (ha : SO Γ Φ a o1) (hb : SO Γ Φ b o2) : SE Γ Φ (.BinOp a .Add b pos) (m2 o1 o2 addF) := se_bin (fun _ _ _ => bin_add) ha hb
theorem se_sub {a b o1 o2 pos} (ha : SO Γ Φ a o1) (hb : SO Γ Φ b o2) : SE Γ Φ (.BinOp a .Sub b pos) (m2 o1 o2 subF) := se_bin (fun _ _ _ => bin_sub) ha hb
theorem se_mul {a b o1 o2 pos} (ha : SO Γ Φ a o1) (hb : SO Γ Φ b o2) : SE Γ Φ (.BinOp a .Mult b pos) (m2 o1 o2 mulF) := se_bin (fun _ _ _ => bin_mul) ha hb
theorem se_fdiv {a b o1 o2 pos} (ha : SO Γ Φ a o1) (hb : SO Γ Φ b o2) : SE Γ Φ (.BinOp a .FloorDiv b pos) (m2 o1 o2 fdivF) := se_bin (fun _ _ _ => bin_fdiv) ha hb
theorem se_mod {a b o1 o2 pos} (ha : SO Γ Φ a o1) (hb : SO Γ Φ b o2) : SE Γ Φ (.BinOp a .Mod b pos) (m2 o1 o2 modF) := se_bin (fun _ _ _ => bin_mod) ha hb
theorem se_pow {a b o1 o2 pos} (ha : SO Γ Φ a o1) (hb : SO Γ Φ b o2) : SE Γ Φ (.BinOp a .Pow b pos) (m2 o1 o2 powF) := se_bin (fun _ _ _ => bin_pow) ha hb
def negF : D → Option D
  | .int i => some (.int (-i))
  | _ => none
theorem one {K : PySem.W.Frag} {o1 : Opd} {f : D → Option D} {r : V → Hp → VK → Prop} (hs : R1Snd K r f) {σ H Q} (q : rd K (m1 o1 f) σ H Q) : tUn r (rdO K o1) σ H Q := by
  obtain ⟨Fz, fp, st, C, d', st', e, k⟩ := q
  unfold m1 at e
  split at e
  · rename_i r1 s1 h1
    split at e
    · rename_i a ha
      split at e
      · rename_i z hz
        cases e
        refine rdO.run (P := []) (PV := []) C rfl h1 fun v H1 Fz1 fp1 T TV hT C1 g1 k1 => ?_
        obtain ⟨fa, ra, _⟩ := k1 _ _ _ [] [] _ _ rfl C1 ha
        exact hs (T := T) (TV := TV) hz hT C1 g1 ra k
      · cases e
    · cases e
  · cases e
theorem se_neg {a o1 pos} (ha : SO Γ Φ a o1) : SE Γ Φ (.UnaryOp .USub a pos) (m1 o1 negF) := fun X o => pe_imp (pe_un un_neg (ha X o)) fun σ H Q q => one (r := rU fun i => .int (-i)) (fun {Fz H fp σ s T TV Fz2 H2 fp2 a x fa z Q} e hl C g ra k => by
  unfold negF at e
  split at e
  · cases e; exact ⟨_, ra.inti, fin_atom k hl C g (.int _)⟩
  · cases e) q
end
end Va
namespace Va
open PySem PySem.Spec PyProof.Rows L2
def keyEq : D → D → Bool
  | .int i, .int j => i == j
  | .str x, .str y => x == y
  | _, _ => false
def lookD : List (D × D) → D → Option D
  | [], _ => none
  | (a, x) :: r, k => match keyEq a k with
    | true => some x
    | false => lookD r k
theorem keyEq_iff {a b : D} {k l : Key} (ha : keyD a = some k) (hb : keyD b = some l) : keyEq a b = decide (k = l) := by
  cases a <;> cases b <;> simp_all [keyD, keyEq] <;> subst ha <;> subst hb <;> simp
  · rename_i i j
    by_cases e : i = j <;> simp [e]
  · rename_i i j
    by_cases e : i = j <;> simp [e]
section
variable {K : PySem.W.Frag} {Fz : Addr → Prop} {H : Hp}
theorem RepK.look : ∀ {kvs ws f}, RepK K Fz H kvs ws f → ∀ {k kk}, keyD k = some kk → (lookD kvs k = none → valV ws kk = none) ∧ ∀ x, lookD kvs k = some x → ∃ v f', valV ws kk = some v ∧ Rep K Fz H x v f' ∧ ∀ a ∈ f', a ∈ f
  | _, _, _, .nil, _, _, _ => ⟨fun _ => rfl, fun x h => nomatch h⟩
  | _, _, _, .cons (k := a) (kk := ka) e r s, k, kk, hk => by
    have h := keyEq_iff e hk
    unfold lookD
    by_cases q : ka = kk
    · rw [h, decide_eq_true q]
      refine ⟨fun z => ?_, fun x z => ?_⟩
      · exact nomatch (show some _ = none from z)
      · have z' : some _ = some x := z
        cases z'
        exact ⟨_, _, valV_pos q, r, fun _ m => List.mem_append_left _ m⟩
    · rw [h, decide_eq_false q]
      rw [valV_neg q]
      obtain ⟨h1, h2⟩ := RepK.look s hk
      exact ⟨h1, fun x z => by obtain ⟨v, f', e1, e2, e3⟩ := h2 x z; exact ⟨v, f', e1, e2, fun a m => List.mem_append_right _ (e3 a m)⟩⟩
theorem RepK.length : ∀ {kvs ws f}, RepK K Fz H kvs ws f → kvs.length = ws.length
  | _, _, _, .nil => rfl
  | _, _, _, .cons e r s => by simp [RepK.length s]
theorem keyD_v {d : D} {k : Key} {v f} (h : keyD d = some k) (r : Rep K Fz H d v f) : v = kV k := by
  cases d <;> simp_all [keyD]
  · subst h; exact r.inti
  · subst h; exact r.stri
theorem Rep.dic {o kvs v f} (r : Rep K Fz H (.dic o kvs) v f) : ∃ a ws f', v = .ref a ∧ H a = some (.dK ws) ∧ RepK K Fz H kvs ws f' ∧ ∀ x ∈ f', x ∈ f := by
  cases r with
  | dicF q z r => exact ⟨_, _, _, rfl, q, r, fun _ h => nomatch h⟩
  | dicO q r => exact ⟨_, _, _, rfl, q, r, fun _ h => List.mem_cons_of_mem _ h⟩
theorem dget_of {o kvs v f k kk} (r : Rep K Fz H (.dic o kvs) v f) (hk : keyD k = some kk) : ∃ a ov, v = .ref a ∧ DGet H a (kV kk) ov ∧ ((lookD kvs k = none ∧ ov = none) ∨ ∃ x y f', lookD kvs k = some x ∧ ov = some y ∧ Rep K Fz H x y f' ∧ ∀ a ∈ f', a ∈ f) := by
  obtain ⟨a, ws, f', rfl, ha, r', hf⟩ := r.dic
  obtain ⟨h1, h2⟩ := r'.look hk
  refine ⟨a, valV ws kk, rfl, DGet.k ha, ?_⟩
  cases e : lookD kvs k with
  | none => exact .inl ⟨rfl, h1 e⟩
  | some x =>
    obtain ⟨v, f2, e1, e2, e3⟩ := h2 x e
    exact .inr ⟨x, v, f2, rfl, e1, e2, fun a m => hf a (e3 a m)⟩
end
def blO : Option Bool → Option D
  | some b => some (.bl b)
  | none => none
def eqcF (a b : D) : Option D := blO (eqD a b)
def necF (a b : D) : Option D := match eqD a b with
  | some c => some (.bl (!c))
  | none => none
def toInts : List D → Option (List Int)
  | [] => some []
  | .int i :: r => match toInts r with
    | some l => some (i :: l)
    | none => none
  | _ => none
def ltF : D → D → Option D
  | .int i, .int j => some (.bl (decide (i < j)))
  | .tup xs, .tup ys => match toInts xs, toInts ys with
    | some ns, some ms => some (.bl (HT.lexLt ns ms))
    | _, _ => none
  | _, _ => none
def leF := intF fun i j => some (.bl (decide (i ≤ j)))
def gtF := intF fun i j => some (.bl (decide (j < i)))
def geF := intF fun i j => some (.bl (decide (j ≤ i)))
def inB (a b : D) : Option Bool := match b with
  | .dic _ kvs => match keyD a with
    | some _ => some (lookD kvs a).isSome
    | none => none
  | .tup xs => if (flat a && xs.all flat) = true then some (xs.any fun y => eqF 1 y a) else none
  | .rol xs => if (flat a && xs.all flat) = true then some (xs.any fun y => eqF 1 y a) else none
  | .lst _ xs => if (flat a && xs.all flat) = true then some (xs.any fun y => eqF 1 y a)
      else if shp 59 a && shp 60 b then some (xs.any fun y => eqF 59 y a) else none
  | _ => none
def inF (a b : D) : Option D := blO (inB a b)
def ninF (a b : D) : Option D := match inB a b with
  | some c => some (.bl (!c))
  | none => none
def isB : D → D → Option Bool
  | .bl a, .bl b => some (decide (a = b))
  | .non, .non => some true
  | _, .non => some false
  | _, _ => none
def isF (a b : D) : Option D := blO (isB a b)
def nisF (a b : D) : Option D := match isB a b with
  | some c => some (.bl (!c))
  | none => none
theorem toInts_map {K : PySem.W.Frag} {Fz : Addr → Prop} {H : Hp} : ∀ {xs ns vs f}, toInts xs = some ns → RepL K Fz H xs vs f → vs = ns.map V.int
  | [], _, _, _, h, .nil => by cases h; rfl
  | x :: r, _, _, _, h, .cons rx s => by
    cases x with
    | int i =>
      simp only [toInts] at h
      split at h
      · rename_i l hl
        cases h
        rw [toInts_map hl s, rx.inti]; rfl
      · cases h
    | _ => simp [toInts] at h
theorem eqF_eqV {a b : D} (ha : flat a = true) (hb : flat b = true) : eqF 1 a b = eqV (d2v a) (d2v b) := by
  cases a <;> cases b <;> simp_all [flat, eqF, eqV, d2v, seqOf, b2i]
theorem any_map_in {a : D} (ha : flat a = true) : ∀ {xs : List D}, xs.all flat = true → (xs.any fun y => eqF 1 y a) = inV (d2v a) (xs.map d2v)
  | [], _ => rfl
  | x :: xs, h => by
    simp only [List.all_cons, Bool.and_eq_true] at h
    have := any_map_in ha h.2
    simp only [inV] at this ⊢
    simp [this, eqF_eqV h.1 ha]
section
variable {X : Cx}
theorem cmp_eq (hu : X.A.units + 100 < cLine) : ∃ r, OpR X (compareOp .Eq) r ∧ R2Snd X.K r eqcF := ⟨_, op_eqD (by omega), by
  intro Fz H fp σ s T TV Fz2 H2 fp2 a b x y fa fb z Q e hl C g ra rb k
  unfold eqcF eqD at e
  split at e
  · rename_i h
    simp only [Bool.and_eq_true] at h
    cases e
    rw [eqF_eqv 60 a b h.1 h.2] at k
    exact ⟨_, _, Rep.dp 60 ra h.1, Rep.dp 60 rb h.2, toP_shaped h.1, toP_shaped h.2, fin_atom k hl C g (.bl _)⟩
  · cases e⟩
theorem cmp_ne (hu : X.A.units + 100 < cLine) : ∃ r, OpR X (compareOp .NotEq) r ∧ R2Snd X.K r necF := ⟨_, op_neD (by omega), by
  intro Fz H fp σ s T TV Fz2 H2 fp2 a b x y fa fb z Q e hl C g ra rb k
  unfold necF eqD at e
  split at e
  · rename_i c hc
    split at hc
    · rename_i h
      simp only [Bool.and_eq_true] at h
      cases hc
      cases e
      rw [eqF_eqv 60 a b h.1 h.2] at k
      exact ⟨_, _, Rep.dp 60 ra h.1, Rep.dp 60 rb h.2, toP_shaped h.1, toP_shaped h.2, fin_atom k hl C g (.bl _)⟩
    · cases hc
  · cases e⟩
theorem cmp_le : ∃ r, OpR X (compareOp .LtE) r ∧ R2Snd X.K r leF := ⟨_, op_le, snd_int0 fun i j z e Fz H => by cases e; exact .bl _⟩
theorem cmp_gt : ∃ r, OpR X (compareOp .Gt) r ∧ R2Snd X.K r gtF := ⟨_, op_gt, snd_int0 fun i j z e Fz H => by cases e; exact .bl _⟩
theorem cmp_ge : ∃ r, OpR X (compareOp .GtE) r ∧ R2Snd X.K r geF := ⟨_, op_ge, snd_int0 fun i j z e Fz H => by cases e; exact .bl _⟩
theorem cmp_lt (hu : X.A.units + 100 < cLine) : ∃ r, OpR X (compareOp .Lt) r ∧ R2Snd X.K r ltF := ⟨_, op_lt.or (op_ltT (by omega)), by
  intro Fz H fp σ s T TV Fz2 H2 fp2 a b x y fa fb z Q e hl C g ra rb k
  unfold ltF at e
  split at e
  · cases e
    exact .inl ⟨_, _, ra.inti, rb.inti, fin_atom k hl C g (.bl _)⟩
  · split at e
    · rename_i h1 h2
      cases e
      obtain ⟨a, vs, rfl, ha, r1⟩ := ra.tupl
      obtain ⟨b, ws, rfl, hb, r2⟩ := rb.tupl
      have e1 := toInts_map h1 r1
      have e2 := toInts_map h2 r2
      subst e1 e2
      exact .inr ⟨a, b, _, _, rfl, rfl, .inl ha, .inl hb, fin_atom k hl C g (.bl _)⟩
    · cases e
  · cases e⟩
def rDin (neg : Bool) : R2 := fun y x H Q => ∃ a ov, x = .ref a ∧ DGet H a y ov ∧ Q (.bl (if neg then !ov.isSome else ov.isSome)) H
theorem op_din (hu : X.A.units + 1 < cLine) : OpR X (compareOp .In) (rDin false) := by
  intro pins s σ H y x u v Q I ry rx h
  obtain ⟨a, ov, rfl, g, q⟩ := h
  obtain rfl : v = Value.ref a := rx
  exact d_in hu I g ry fun s3 I3 => ⟨.bl ov.isSome, H, I3, rfl, q⟩
theorem op_dnotin (hu : X.A.units + 1 < cLine) : OpR X (compareOp .NotIn) (rDin true) := by
  intro pins s σ H y x u v Q I ry rx h
  obtain ⟨a, ov, rfl, g, q⟩ := h
  obtain rfl : v = Value.ref a := rx
  exact d_notIn hu I g ry fun s3 I3 => ⟨.bl (!ov.isSome), H, I3, rfl, q⟩
theorem any_eqv {n : Nat} {a : D} (ha : shp n a = true) : ∀ {xs : List D}, xs.all (shp n) = true → (xs.any fun y => eqF n y a) = ((xs.map (toP n)).any fun z => PyData.eqv z (toP n a))
  | [], _ => rfl
  | x :: xs, h => by
    simp only [List.all_cons, Bool.and_eq_true] at h
    simp [any_eqv ha h.2, eqF_eqv n x a h.1 ha]
/-- what «in» asks -/
theorem in_snd {K : PySem.W.Frag} (neg : Bool) {Fz : Addr → Prop} {H : Hp} {fp} {σ : List (Option V)} {s : S} {T TV Fz2 H2 fp2 a b x y fa fb c} {Q : VK} (e : inB a b = some c) (hl : T.length = TV.length) (C : Cfg K Fz2 H2 (T ++ s) (TV ++ σ) fp2)
    (g : Go Fz H fp Fz2 H2 fp2) (ra : Rep K Fz2 H2 a x fa) (rb : Rep K Fz2 H2 b y fb) (k : Fin1 K Fz H fp σ (.bl (if neg then !c else c)) s Q) :
    rIn K neg x y H2 Q ∨ rDin neg x y H2 Q ∨ (∃ d ds, Dp K H2 x d ∧ Dp K H2 y (.list ds) ∧ SeqAt.shaped d = true ∧ SeqAt.shaped (.list ds) = true ∧ Q (.bl (if neg then !ds.any fun z => PyData.eqv z d else ds.any fun z => PyData.eqv z d)) H2) := by
  have seqc : ∀ {xs vs f p}, (flat a && xs.all flat) = true → c = (xs.any fun y => eqF 1 y a) → y = .ref p → RepL K Fz2 H2 xs vs f → (SqL K H2 p vs ∨ SqT K H2 p vs) → rIn K neg x y H2 Q := fun {xs vs f p} h hc hy r hq => by
    simp only [Bool.and_eq_true] at h
    obtain ⟨e1, e2⟩ := r.flat h.2
    obtain ⟨e3, _, e4⟩ := ra.flat h.1
    subst hc hy e1 e3
    rw [any_map_in h.1 h.2] at k
    exact ⟨p, _, rfl, hq, e4, e2, fin_atom k hl C g (.bl _)⟩
  unfold inB at e
  split at e
  · rename_i o kvs
    split at e
    · rename_i kk hk
      cases e
      have e1 := keyD_v hk ra
      subst e1
      obtain ⟨p, ov, rfl, dg, h⟩ := dget_of rb hk
      refine .inr (.inl ⟨p, ov, rfl, dg, ?_⟩)
      have e2 : (lookD kvs a).isSome = ov.isSome := by
        rcases h with ⟨h1, h2⟩ | ⟨x, y, _, h1, h2, _⟩ <;> rw [h1, h2] <;> rfl
      rw [e2] at k
      exact fin_atom k hl C g (.bl _)
    · cases e
  · split at e
    · rename_i xs h
      cases e
      obtain ⟨p, vs, e1, hp, r⟩ := rb.tupl
      exact .inl (seqc h rfl e1 r (.inr (.inl hp)))
    · cases e
  · split at e
    · rename_i xs h
      cases e
      cases rb with
      | rol q r => exact .inl (seqc h rfl rfl r (.inl q.sq))
    · cases e
  · split at e
    · rename_i o xs h
      cases e
      obtain ⟨p, vs, f', e1, hp, r, _⟩ := rb.lst
      exact .inl (seqc h rfl e1 r (.inl (.inl (.inl hp))))
    · split at e
      · rename_i o xs _ h
        cases e
        simp only [Bool.and_eq_true] at h
        have hx : xs.all (shp 59) = true := by simpa [shp] using h.2
        have s2 := toP_shaped h.2
        have d2 := Rep.dp 60 rb h.2
        have dp : (toP 59 a).depth ≤ 59 := toP_depth 59 a
        rw [any_eqv h.1 hx] at k
        exact .inr (.inr ⟨_, _, Rep.dp 59 ra h.1, d2, by
          simp only [SeqAt.shaped, toP_lay 59 a h.1, Bool.true_and, decide_eq_true_eq]; omega, s2, fin_atom k hl C g (.bl _)⟩)
      · cases e
  · cases e
theorem cmp_in (hu : X.A.units + 100 < cLine) : ∃ r, OpR X (compareOp .In) r ∧ R2Snd X.K r inF := ⟨_, op_in_seq.or ((op_din (by omega)).or (op_inD (by omega))), by
  intro Fz H fp σ s T TV Fz2 H2 fp2 a b x y fa fb z Q e hl C g ra rb k
  unfold inF blO at e
  split at e
  · rename_i c hc
    cases e
    exact in_snd false hc hl C g ra rb k
  · cases e⟩
theorem cmp_nin (hu : X.A.units + 100 < cLine) : ∃ r, OpR X (compareOp .NotIn) r ∧ R2Snd X.K r ninF := ⟨_, op_notIn_seq.or ((op_dnotin (by omega)).or (op_notInD (by omega))), by
  intro Fz H fp σ s T TV Fz2 H2 fp2 a b x y fa fb z Q e hl C g ra rb k
  unfold ninF at e
  split at e
  · rename_i c hc
    cases e
    exact in_snd true hc hl C g ra rb k
  · cases e⟩
theorem is_snd {K : PySem.W.Frag} (neg : Bool) {Fz : Addr → Prop} {H : Hp} {fp} {σ : List (Option V)} {s : S} {T TV Fz2 H2 fp2 a b x y fa fb c} {Q : VK} (e : isB a b = some c) (hl : T.length = TV.length) (C : Cfg K Fz2 H2 (T ++ s) (TV ++ σ) fp2)
    (g : Go Fz H fp Fz2 H2 fp2) (ra : Rep K Fz2 H2 a x fa) (rb : Rep K Fz2 H2 b y fb) (k : Fin1 K Fz H fp σ (.bl (if neg then !c else c)) s Q) :
    (∃ p q : Bool, x = .bl p ∧ y = .bl q ∧ Q (.bl (if neg then !decide (p = q) else decide (p = q))) H2) ∨ (y = .non ∧ Q (.bl (if neg then !decide (x = .non) else decide (x = .non))) H2) := by
  unfold isB at e
  split at e
  · cases e
    exact .inl ⟨_, _, ra.bli, rb.bli, fin_atom k hl C g (.bl _)⟩
  · cases e
    refine .inr ⟨rb.noni, ?_⟩
    rw [ra.noni]
    exact fin_atom k hl C g (by cases neg <;> exact .bl _)
  · rename_i h1
    cases e
    refine .inr ⟨rb.noni, ?_⟩
    have nx : x ≠ .non := by
      rintro rfl
      cases ra
      exact h1 rfl
    rw [decide_eq_false nx]
    exact fin_atom k hl C g (by cases neg <;> exact .bl _)
  · cases e
theorem cmp_is : ∃ r, OpR X (compareOp .Is) r ∧ R2Snd X.K r isF := ⟨_, op_isBl.or op_isN, by
  intro Fz H fp σ s T TV Fz2 H2 fp2 a b x y fa fb z Q e hl C g ra rb k
  unfold isF blO at e
  split at e
  · rename_i c hc
    cases e
    exact is_snd false hc hl C g ra rb k
  · cases e⟩
theorem cmp_nis : ∃ r, OpR X (compareOp .IsNot) r ∧ R2Snd X.K r nisF := ⟨_, op_notBl.or op_notN, by
  intro Fz H fp σ s T TV Fz2 H2 fp2 a b x y fa fb z Q e hl C g ra rb k
  unfold nisF at e
  split at e
  · rename_i c hc
    cases e
    exact is_snd true hc hl C g ra rb k
  · cases e⟩
end
def cmpF : CmpOp → D → D → Option D
  | .Eq => eqcF | .NotEq => necF | .Lt => ltF | .LtE => leF | .Gt => gtF | .GtE => geF | .Is => isF | .IsNot => nisF | .In => inF | .NotIn => ninF
theorem cmp_all {X : Cx} (hu : X.A.units + 100 < cLine) : ∀ op, ∃ r, OpR X (compareOp op) r ∧ R2Snd X.K r (cmpF op)
  | .Eq => cmp_eq hu | .NotEq => cmp_ne hu | .Lt => cmp_lt hu | .LtE => cmp_le | .Gt => cmp_gt | .GtE => cmp_ge | .Is => cmp_is | .IsNot => cmp_nis | .In => cmp_in hu | .NotIn => cmp_nin hu
/-- a value that is a bool -/
def mB (m : M D) : M Bool := fun st => match m st with
  | some (.bl b, s) => some (b, s)
  | _ => none
def mD (m : M Bool) : M D := fun st => match m st with
  | some (b, s) => some (.bl b, s)
  | _ => none
def mAnd (a b : M Bool) : M Bool := fun st => match a st with
  | some (true, s) => b s
  | some (false, s) => some (false, s)
  | none => none
def mOr (a b : M Bool) : M Bool := fun st => match a st with
  | some (true, s) => some (true, s)
  | some (false, s) => b s
  | none => none
def mNot (a : M Bool) : M Bool := fun st => match a st with
  | some (b, s) => some (!b, s)
  | none => none
def mIte (c : M Bool) (a b : M D) : M D := fun st => match c st with
  | some (true, s) => a s
  | some (false, s) => b s
  | none => none
/-- truth -/
def truD : D → Option Bool
  | .bl b => some b
  | .non => some false
  | .int i => some (i != 0)
  | _ => none
def mTru (m : M D) : M Bool := fun st => match m st with
  | some (d, s) => match truD d with
    | some b => some (b, s)
    | none => none
  | none => none
section
variable {Γ : Gam} {Φ : GCx → Prop} {a b c : Expr} {pos : Pos}
theorem rd_mB {K : PySem.W.Frag} {m : M D} {σ H} {Q : Bool → Hp → Prop} (q : rdT K (mB m) σ H Q) : tTest (rd K m) σ H Q := by
  obtain ⟨Fz, fp, st, C, b, st', e, k⟩ := q
  unfold mB at e
  split at e
  · rename_i b s hm
    cases e
    refine ⟨Fz, fp, st, C, _, _, hm, fun v H' Fz' fp' C' g => ?_⟩
    obtain ⟨v', f, e', r, _⟩ := C'.head
    cases e'
    obtain ⟨f2, C2, h2⟩ := C'.drop
    exact ⟨b, r.bli, k _ _ _ C2 (g.sub h2)⟩
  · cases e
theorem rd_mTru {K : PySem.W.Frag} {m : M D} {σ H} {Q : Bool → Hp → Prop} (q : rdT K (mTru m) σ H Q) : rd K m σ H fun x H' => ∃ k, TruV K x H' k ∧ Q k H' := by
  obtain ⟨Fz, fp, st, C, b, st', e, k⟩ := q
  unfold mTru at e
  split at e
  · rename_i d s hm
    split at e
    · rename_i bb hb
      cases e
      refine ⟨Fz, fp, st, C, _, _, hm, fun v H' Fz' fp' C' g => ?_⟩
      obtain ⟨v', f, e', r, _⟩ := C'.head
      cases e'
      obtain ⟨f2, C2, h2⟩ := C'.drop
      refine ⟨b, ?_, k _ _ _ C2 (g.sub h2)⟩
      cases r <;> simp_all [truD, TruV]
    · cases e
  · cases e
/-- the truth of a value: he by rfl -/
theorem st_tru {m : M D} (h : SE Γ Φ a m) (he : ∀ X whole, isTrue a (Cx.env X) whole = (do let v ← whole; standAt a.pos; holding [v] (truthy v)) := by intro _ _; rfl) : ST Γ Φ a (mTru m) := fun X o => pt_imp (pt_truth (h X o) (he X)) fun σ H Q q => rd_mTru q
theorem se_cmp {op : CmpOp} {o1 o2 : Opd} (ha : SO Γ Φ a o1) (hb : SO Γ Φ b o2) (hm : behindInMarks op b = false := by rfl) : SE Γ Φ (.Compare a [op] [b] pos) (m2 o1 o2 (cmpF op)) := fun X o => by
  obtain ⟨r, h1, h2⟩ := cmp_all o.hu op
  exact pe_imp (pe_cmpR h1 (ha X o) (hb X o) hm) fun σ H Q q => two h2 q
theorem st_cmp {op : CmpOp} {o1 o2 : Opd} (ha : SO Γ Φ a o1) (hb : SO Γ Φ b o2) (hm : behindInMarks op b = false := by rfl) : ST Γ Φ (.Compare a [op] [b] pos) (mB (m2 o1 o2 (cmpF op))) := fun X o => by
  obtain ⟨r, h1, h2⟩ := cmp_all o.hu op
  exact pt_imp (pt_cmpR h1 (ha X o) (hb X o) hm) fun σ H Q q => by
    have := rd_mB q
    exact two h2 this
theorem SW.st {m : M Bool} (h : SW Γ Φ a m) : ST Γ Φ a m := fun X o => (h X o).pt
theorem sw_and1 {m : M Bool} (h : ST Γ Φ a m) : SW Γ Φ (.BoolOp .And [a] pos) m := fun X o => pw_and1 (h X o)
theorem sw_or1 {m : M Bool} (h : ST Γ Φ a m) : SW Γ Φ (.BoolOp .Or [a] pos) m := fun X o => pw_or1 (h X o)
theorem sw_and {rest : List Expr} {m n : M Bool} (ha : ST Γ Φ a m) (hb : SW Γ Φ (.BoolOp .And (b :: rest) pos) n) : SW Γ Φ (.BoolOp .And (a :: b :: rest) pos) (mAnd m n) := fun X o => pw_imp (pw_and (ha X o) (hb X o)) fun σ H Q q => by
  obtain ⟨Fz, fp, st, C, d, st', e, k⟩ := q
  unfold mAnd at e
  split at e
  · rename_i s hm
    refine ⟨Fz, fp, st, C, _, _, hm, fun H' Fz' fp' C' g => ?_⟩
    exact iteT (⟨Fz', fp', s, C', d, st', e, fun H2 F2 f2 C2 g2 => k _ _ _ C2 (g.trans g2)⟩)
  · rename_i s hm
    cases e
    refine ⟨Fz, fp, st, C, _, _, hm, fun H' Fz' fp' C' g => ?_⟩
    exact iteF (k _ _ _ C' g)
  · cases e
theorem sw_or {rest : List Expr} {m n : M Bool} (ha : ST Γ Φ a m) (hb : SW Γ Φ (.BoolOp .Or (b :: rest) pos) n) : SW Γ Φ (.BoolOp .Or (a :: b :: rest) pos) (mOr m n) := fun X o => pw_imp (pw_or (ha X o) (hb X o)) fun σ H Q q => by
  obtain ⟨Fz, fp, st, C, d, st', e, k⟩ := q
  unfold mOr at e
  split at e
  · rename_i s hm
    cases e
    refine ⟨Fz, fp, st, C, _, _, hm, fun H' Fz' fp' C' g => ?_⟩
    exact iteT (k _ _ _ C' g)
  · rename_i s hm
    refine ⟨Fz, fp, st, C, _, _, hm, fun H' Fz' fp' C' g => ?_⟩
    exact iteF (⟨Fz', fp', s, C', d, st', e, fun H2 F2 f2 C2 g2 => k _ _ _ C2 (g.trans g2)⟩)
  · cases e
theorem st_not {m : M Bool} (ha : ST Γ Φ a m) : ST Γ Φ (.UnaryOp .Not a pos) (mNot m) := fun X o => pt_imp (pt_not (ha X o)) fun σ H Q q => by
  obtain ⟨Fz, fp, st, C, d, st', e, k⟩ := q
  unfold mNot at e
  split at e
  · rename_i b s hm
    cases e
    exact ⟨Fz, fp, st, C, _, _, hm, fun H' Fz' fp' C' g => k _ _ _ C' g⟩
  · cases e
/-- bools as values -/
def SV (Γ : Gam) (Φ : GCx → Prop) (e : Expr) (m : M Bool) : Prop := SE Γ Φ e (mD m)
theorem rd_mD {K : PySem.W.Frag} {m : M Bool} {σ H} {Q : VK} (q : rd K (mD m) σ H Q) : ∃ Fz fp st, Cfg K Fz H st σ fp ∧ ∃ b st', m st = some (b, st') ∧ ∀ H' Fz' fp', Cfg K Fz' H' st' σ fp' → Go Fz H fp Fz' H' fp' → Q (.bl b) H' := by
  obtain ⟨Fz, fp, st, C, d, st', e, k⟩ := q
  unfold mD at e
  split at e
  · rename_i b s hm
    cases e
    exact ⟨Fz, fp, st, C, b, _, hm, fun H' Fz' fp' C' g => k _ _ _ _ (C'.atom (.bl b)) g⟩
  · cases e
theorem mk_mD {K : PySem.W.Frag} {m : M Bool} {σ H} {Q : VK} (q : ∃ Fz fp st, Cfg K Fz H st σ fp ∧ ∃ b st', m st = some (b, st') ∧ ∀ H' Fz' fp', Cfg K Fz' H' st' σ fp' → Go Fz H fp Fz' H' fp' → Q (.bl b) H') : rd K (mD m) σ H Q := by
  obtain ⟨Fz, fp, st, C, b, st', e, k⟩ := q
  refine ⟨Fz, fp, st, C, .bl b, st', by unfold mD; rw [e], fun v H' Fz' fp' C' g => ?_⟩
  obtain ⟨v', f, e', r, _⟩ := C'.head
  cases e'
  obtain ⟨f2, C2, h2⟩ := C'.drop
  rw [r.bli]
  exact k _ _ _ C2 (g.sub h2)
/-- a value that is a bool, as a bool -/
theorem sv_e {m : M D} (h : SE Γ Φ a m) : SV Γ Φ a (mB m) := fun X o => pe_imp (h X o) fun σ H Q q => by
  obtain ⟨Fz, fp, st, C, b, st', e, k⟩ := rd_mD q
  unfold mB at e
  split at e
  · rename_i b s hm
    cases e
    refine ⟨Fz, fp, st, C, _, _, hm, fun v H' Fz' fp' C' g => ?_⟩
    obtain ⟨v', f, e', r, _⟩ := C'.head
    cases e'
    obtain ⟨f2, C2, h2⟩ := C'.drop
    rw [r.bli]
    exact k _ _ _ C2 (g.sub h2)
  · cases e
theorem sv_and1 {m : M Bool} {op} (h : SV Γ Φ a m) : SV Γ Φ (.BoolOp op [a] pos) m := fun X o => pe_one (h X o)
theorem sv_and {rest : List Expr} {m n : M Bool} (ha : SV Γ Φ a m) (hb : SV Γ Φ (.BoolOp .And (b :: rest) pos) n) : SV Γ Φ (.BoolOp .And (a :: b :: rest) pos) (mAnd m n) := fun X o => pe_imp (pe_and (ha X o) (hb X o)) fun σ H Q q => by
  obtain ⟨Fz, fp, st, C, d, st', e, k⟩ := rd_mD q
  unfold mAnd at e
  split at e
  · rename_i s hm
    refine mk_mD ⟨Fz, fp, st, C, _, _, hm, fun H' Fz' fp' C' g => ⟨true, rfl, ?_⟩⟩
    exact iteT (mk_mD ⟨Fz', fp', s, C', d, st', e, fun H2 F2 f2 C2 g2 => k _ _ _ C2 (g.trans g2)⟩)
  · rename_i s hm
    cases e
    refine mk_mD ⟨Fz, fp, st, C, _, _, hm, fun H' Fz' fp' C' g => ⟨false, rfl, ?_⟩⟩
    exact iteF (k _ _ _ C' g)
  · cases e
/-- not x, by truth -/
theorem sv_not {m : M Bool} (ha : SV Γ Φ a m) : SV Γ Φ (.UnaryOp .Not a pos) (mNot m) := fun X o => pe_imp (pe_not (ha X o)) fun σ H Q q => by
  obtain ⟨Fz, fp, st, C, d, st', e, k⟩ := rd_mD q
  unfold mNot at e
  split at e
  · rename_i b s hm
    cases e
    exact mk_mD ⟨Fz, fp, st, C, _, _, hm, fun H' Fz' fp' C' g => ⟨b, rfl, k _ _ _ C' g⟩⟩
  · cases e
/-- a < b < c -/
def mChain (op op' : CmpOp) (a b c : Opd) : M D := fun st => match a.run st with
  | some (r1, s1) => match b.run s1 with
    | some (r2, s2) => match a.val r1 s2, b.val r2 s2 with
      | some x, some y => match cmpF op x y with
        | some (.bl false) => some (.bl false, s2)
        | some (.bl true) => match c.run s2 with
          | some (r3, s3) => match b.val r2 s3, c.val r3 s3 with
            | some y', some z => match cmpF op' y' z with
              | some w => some (w, s3)
              | none => none
            | _, _ => none
          | none => none
        | _ => none
      | _, _ => none
    | none => none
  | none => none
end
end Va
namespace Va
open PySem PySem.Spec PyProof.Rows L2
/-- ints (0), tuples of such with an item at least (1), .. -/
def lvl : Nat → D → Bool
  | 0, .int _ => true
  | k + 1, .tup xs => !xs.isEmpty && xs.all (lvl k)
  | _, _ => false
def ltLs (e f : D → D → Bool) : List D → List D → Bool
  | [], [] => false
  | [], _ :: _ => true
  | _ :: _, [] => false
  | x :: xs, y :: ys => match e x y with
    | true => ltLs e f xs ys
    | false => f x y
def ltD : Nat → D → D → Bool
  | 0, .int i, .int j => decide (i < j)
  | k + 1, .tup xs, .tup ys => ltLs (eqF (k + 1)) (ltD k) xs ys
  | _, _, _ => false
/-- into an ascending list -/
def insD (lt : D → D → Bool) (x : D) : List D → List D
  | [] => [x]
  | y :: ys => match lt y x with
    | true => y :: insD lt x ys
    | false => x :: y :: ys
def isort (lt : D → D → Bool) : List D → List D
  | [] => []
  | x :: xs => insD lt x (isort lt xs)
theorem lvl_shp : ∀ (k : Nat) (d : D), lvl k d = true → shp (k + 1) d = true
  | 0, .int _, _ => rfl
  | k + 1, .tup xs, h => by
    have h' : xs.all (lvl k) = true := by simp [lvl] at h; simpa using h.2
    simp only [shp]
    rw [List.all_eq_true] at h' ⊢
    exact fun x hx => lvl_shp k x (h' x hx)
theorem lvl_alike : ∀ (k : Nat) (d e : D), lvl k d = true → lvl k e = true → PySem.W.alike (toP (k + 1) d) (toP (k + 1) e) = true
  | 0, .int _, .int _, _, _ => by simp [toP, PySem.W.alike]
  | k + 1, .tup xs, .tup ys, h, h' => by
    have hx : xs.all (lvl k) = true := by simp [lvl] at h; simpa using h.2
    have hy : ys.all (lvl k) = true := by simp [lvl] at h'; simpa using h'.2
    have L : ∀ xs ys : List D, xs.all (lvl k) = true → ys.all (lvl k) = true → PySem.W.alikeAll (xs.map (toP (k + 1))) (ys.map (toP (k + 1))) = true := fun xs => by
      induction xs with
      | nil => intro ys _ _; simp [PySem.W.alikeAll]
      | cons x xs ih =>
        intro ys hx hy
        cases ys with
        | nil => simp [PySem.W.alikeAll]
        | cons y ys =>
          simp only [List.all_cons, Bool.and_eq_true] at hx hy
          simp only [List.map_cons, PySem.W.alikeAll, lvl_alike k x y hx.1 hy.1, ih ys hx.2 hy.2, Bool.and_self]
    show PySem.W.alike (toP (k + 1 + 1) (.tup xs)) (toP (k + 1 + 1) (.tup ys)) = true
    simp only [toP, PySem.W.alike]
    exact L xs ys hx hy
theorem ltLs_lex {k : Nat} (ih : ∀ d e, lvl k d = true → lvl k e = true → ltD k d e = PySem.W.dataLt (toP (k + 1) d) (toP (k + 1) e)) : ∀ xs ys : List D, xs.all (lvl k) = true → ys.all (lvl k) = true →
    ltLs (eqF (k + 1)) (ltD k) xs ys = PyProof.Rows.lexLt itemOrd (PySem.W.keyToksAll (xs.map (toP (k + 1)))) (PySem.W.keyToksAll (ys.map (toP (k + 1))))
  | [], [], _, _ => rfl
  | [], y :: ys, _, _ => by
    simp only [List.map_nil, List.map_cons, PySem.W.keyToksAll, ltLs]
    rw [PyProof.Rows.lex_cons]
    rfl
  | x :: xs, [], _, _ => by
    simp only [List.map_nil, List.map_cons, PySem.W.keyToksAll, ltLs]
    rw [PyProof.Rows.lex_cons]
    rfl
  | x :: xs, y :: ys, hx, hy => by
    simp only [List.all_cons, Bool.and_eq_true] at hx hy
    have al := lvl_alike k x y hx.1 hy.1
    have ee := eqF_eqv (k + 1) x y (lvl_shp k x hx.1) (lvl_shp k y hy.1)
    simp only [List.map_cons, ltLs]
    cases q : eqF (k + 1) x y with
    | true =>
      rw [PySem.W.dataLt_all_yes al (by rw [← ee]; exact q)]
      exact ltLs_lex ih xs ys hx.2 hy.2
    | false =>
      rw [PySem.W.dataLt_all_no al (by rw [← ee]; exact q)]
      exact ih x y hx.1 hy.1
theorem ltD_data : ∀ (k : Nat) (d e : D), lvl k d = true → lvl k e = true → ltD k d e = PySem.W.dataLt (toP (k + 1) d) (toP (k + 1) e)
  | 0, .int i, .int j, _, _ => by simp only [toP, ltD, PySem.W.dataLt_int]
  | k + 1, .tup xs, .tup ys, h, h' => by
    have hx : xs.all (lvl k) = true := by simp [lvl] at h; simpa using h.2
    have hy : ys.all (lvl k) = true := by simp [lvl] at h'; simpa using h'.2
    show ltD (k + 1) (.tup xs) (.tup ys) = PySem.W.dataLt (toP (k + 1 + 1) (.tup xs)) (toP (k + 1 + 1) (.tup ys))
    simp only [toP, PySem.W.dataLt_tuple, ltD]
    exact ltLs_lex (ltD_data k) xs ys hx hy
/-- such data are one if neither is below -/
theorem eqF_eq : ∀ (k : Nat) (d e : D), lvl k d = true → lvl k e = true → eqF (k + 1) d e = true → d = e
  | 0, .int i, .int j, _, _, h => by simp [eqF] at h; rw [h]
  | k + 1, .tup xs, .tup ys, h, h', q => by
    have hx : xs.all (lvl k) = true := by simp [lvl] at h; simpa using h.2
    have hy : ys.all (lvl k) = true := by simp [lvl] at h'; simpa using h'.2
    have L : ∀ xs ys : List D, xs.all (lvl k) = true → ys.all (lvl k) = true → eqL (eqF (k + 1)) xs ys = true → xs = ys := fun xs => by
      induction xs with
      | nil => intro ys _ _ q; cases ys with
        | nil => rfl
        | cons y ys => simp [eqL] at q
      | cons x xs ih =>
        intro ys hx hy q
        cases ys with
        | nil => simp [eqL] at q
        | cons y ys =>
          simp only [List.all_cons, Bool.and_eq_true] at hx hy
          simp only [eqL, Bool.and_eq_true] at q
          rw [eqF_eq k x y hx.1 hy.1 q.1, ih ys hx.2 hy.2 q.2]
    have q' : eqL (eqF (k + 1)) xs ys = true := by
      have : eqF (k + 1 + 1) (.tup xs) (.tup ys) = eqL (eqF (k + 1)) xs ys := by simp [eqF, seqOf]
      rw [← this]; exact q
    rw [L xs ys hx hy q']
theorem eqF_self : ∀ (k : Nat) (d : D), lvl k d = true → eqF (k + 1) d d = true
  | 0, .int i, _ => by simp [eqF]
  | k + 1, .tup xs, h => by
    have hx : xs.all (lvl k) = true := by simp [lvl] at h; simpa using h.2
    have L : ∀ xs : List D, xs.all (lvl k) = true → eqL (eqF (k + 1)) xs xs = true := fun xs => by
      induction xs with
      | nil => intro _; rfl
      | cons x xs ih =>
        intro hx
        simp only [List.all_cons, Bool.and_eq_true] at hx
        simp only [eqL, eqF_self k x hx.1, ih hx.2, Bool.and_self]
    have : eqF (k + 1 + 1) (.tup xs) (.tup xs) = eqL (eqF (k + 1)) xs xs := by simp [eqF, seqOf]
    show eqF (k + 1 + 1) (.tup xs) (.tup xs) = true
    rw [this]; exact L xs hx
theorem ltD_tri : ∀ (k : Nat) (d e : D), lvl k d = true → lvl k e = true → ltD k d e = false → ltD k e d = false → d = e
  | 0, .int i, .int j, _, _, h, h' => by simp [ltD] at h h'; rw [Int.le_antisymm h' h]
  | k + 1, .tup xs, .tup ys, h, h', q, q' => by
    have hx : xs.all (lvl k) = true := by simp [lvl] at h; simpa using h.2
    have hy : ys.all (lvl k) = true := by simp [lvl] at h'; simpa using h'.2
    have L : ∀ xs ys : List D, xs.all (lvl k) = true → ys.all (lvl k) = true → ltLs (eqF (k + 1)) (ltD k) xs ys = false → ltLs (eqF (k + 1)) (ltD k) ys xs = false → xs = ys := fun xs => by
      induction xs with
      | nil => intro ys _ _ q _; cases ys with
        | nil => rfl
        | cons y ys => simp [ltLs] at q
      | cons x xs ih =>
        intro ys hx hy q q'
        cases ys with
        | nil => simp [ltLs] at q'
        | cons y ys =>
          simp only [List.all_cons, Bool.and_eq_true] at hx hy
          simp only [ltLs] at q q'
          cases e : eqF (k + 1) x y with
          | true =>
            have exy := eqF_eq k x y hx.1 hy.1 e
            subst exy
            rw [e] at q q'
            rw [ih ys hx.2 hy.2 q q']
          | false =>
            have e2 : eqF (k + 1) y x = false := by
              cases e2 : eqF (k + 1) y x with
              | false => rfl
              | true =>
                have := eqF_eq k y x hy.1 hx.1 e2
                subst this
                rw [e2] at e; cases e
            rw [e] at q
            rw [e2] at q'
            have := ltD_tri k x y hx.1 hy.1 q q'
            subst this
            rw [eqF_self k x hx.1] at e; cases e
    rw [L xs ys hx hy q q']
theorem insD_perm (lt : D → D → Bool) (x : D) : ∀ ys : List D, (insD lt x ys).Perm (x :: ys)
  | [] => .refl _
  | y :: ys => by
    unfold insD
    split
    · exact ((insD_perm lt x ys).cons y).trans (.swap x y ys)
    · exact .refl _
theorem isort_perm (lt : D → D → Bool) : ∀ ys : List D, (isort lt ys).Perm ys
  | [] => .refl _
  | y :: ys => (insD_perm lt y _).trans ((isort_perm lt ys).cons y)
theorem insD_mem {lt : D → D → Bool} {x y : D} {ys : List D} (h : y ∈ insD lt x ys) : y = x ∨ y ∈ ys := by
  have := (insD_perm lt x ys).mem_iff.mp h
  simpa using this
/-- the ordered list -/
theorem isort_sorted {lt : D → D → Bool} {P : D → Prop} (asym : ∀ a b, P a → P b → lt a b = true → lt b a = false) (tr : ∀ a b c, P a → P b → P c → lt b a = false → lt c b = false → lt c a = false) : ∀ xs : List D, (∀ x ∈ xs, P x) → (isort lt xs).Pairwise fun a b => lt b a = false := by
  have ins : ∀ (x : D) (ys : List D), P x → (∀ y ∈ ys, P y) → ys.Pairwise (fun a b => lt b a = false) → (insD lt x ys).Pairwise fun a b => lt b a = false := fun x ys => by
    induction ys with
    | nil => intro _ _ _; simp [insD]
    | cons y ys ih =>
      intro hx hy h
      rw [List.pairwise_cons] at h
      unfold insD
      have hy0 := hy y (List.mem_cons_self ..)
      split
      · rename_i e
        rw [List.pairwise_cons]
        refine ⟨fun z hz => ?_, ih hx (fun z hz => hy z (List.mem_cons_of_mem _ hz)) h.2⟩
        rcases insD_mem hz with rfl | hz
        · exact asym _ _ hy0 hx e
        · exact h.1 z hz
      · rename_i e
        rw [List.pairwise_cons, List.pairwise_cons]
        refine ⟨fun z hz => ?_, h⟩
        rcases List.mem_cons.mp hz with rfl | hz'
        · exact e
        · exact tr x y z hx hy0 (hy z (List.mem_cons_of_mem _ hz')) e (h.1 z hz')
  intro xs
  induction xs with
  | nil => intro _; exact List.Pairwise.nil
  | cons x xs ih =>
    intro h
    refine ins x _ (h x (List.mem_cons_self ..)) (fun y hy => ?_) (ih fun y hy => h y (List.mem_cons_of_mem _ hy))
    exact h y (List.mem_cons_of_mem _ ((isort_perm lt xs).mem_iff.mp hy))
/-- the sort of data by the library's order is ours -/
theorem sort_is {k : Nat} {β : Type} (enc : β → D) (bs : List β) (h : ∀ b ∈ bs, lvl k (enc b) = true) :
    (bs.mergeSort (PySem.W.dataLe false fun b => toP (k + 1) (enc b))).map enc = isort (ltD k) (bs.map enc) := by
  have T := PySem.W.sortLe_total (listOrd itemOrd) false fun b => PySem.W.keyToks (toP (k + 1) (enc b))
  have hle : ∀ a ∈ bs, ∀ b ∈ bs, PySem.W.dataLe false (fun b => toP (k + 1) (enc b)) a b = !ltD k (enc b) (enc a) := fun a ha b hb => by
    rw [ltD_data k _ _ (h b hb) (h a ha)]; rfl
  have P1 : (bs.mergeSort (PySem.W.dataLe false fun b => toP (k + 1) (enc b))).Perm bs := List.mergeSort_perm ..
  have hd : ∀ d ∈ bs.map enc, lvl k d = true := fun d hd => by
    obtain ⟨b, hb, rfl⟩ := List.mem_map.mp hd
    exact h b hb
  have S1 : ((bs.mergeSort (PySem.W.dataLe false fun b => toP (k + 1) (enc b))).map enc).Pairwise fun a b => ltD k b a = false := by
    rw [List.pairwise_map]
    have := List.pairwise_mergeSort (le := PySem.W.dataLe false fun b => toP (k + 1) (enc b)) (fun a b c h1 h2 => T.trans a b c h1 h2) (fun a b => by
      rcases T.total a b with z | z
      · rw [show PySem.W.dataLe false (fun b => toP (k + 1) (enc b)) a b = true from z]; rfl
      · rw [show PySem.W.dataLe false (fun b => toP (k + 1) (enc b)) b a = true from z]; exact Bool.or_true _) bs
    refine this.imp_of_mem fun {a b} ha hb q => ?_
    have ha' := P1.mem_iff.mp ha
    have hb' := P1.mem_iff.mp hb
    rw [hle a ha' b hb'] at q
    simpa using q
  have lt_tr : ∀ a b c : D, lvl k a = true → lvl k b = true → lvl k c = true → ltD k b a = false → ltD k c b = false → ltD k c a = false := fun a b c ha hb hc h1 h2 => by
    rw [ltD_data k _ _ hb ha] at h1
    rw [ltD_data k _ _ hc hb] at h2
    rw [ltD_data k _ _ hc ha]
    exact KeyOrd.kle_trans (O := listOrd itemOrd) h1 h2
  have lt_as : ∀ a b : D, lvl k a = true → lvl k b = true → ltD k a b = true → ltD k b a = false := fun a b ha hb h1 => by
    rw [ltD_data k _ _ ha hb] at h1
    rw [ltD_data k _ _ hb ha]
    exact KeyOrd.klt_asymm (O := listOrd itemOrd) h1
  have S2 := isort_sorted (lt := ltD k) (P := fun d => lvl k d = true) lt_as lt_tr (bs.map enc) hd
  refine List.Perm.eq_of_pairwise (fun a b ha hb h1 h2 => ?_) S1 S2 ((P1.map enc).trans (isort_perm _ _).symm)
  have ha' := hd a ((P1.map enc).mem_iff.mp ha)
  have hb' := hd b ((isort_perm _ _).mem_iff.mp hb)
  exact ltD_tri k a b ha' hb' h2 h1
/-- the level of all -/
def lvlOf (xs : List D) : Option Nat :=
  if xs.all (lvl 0) then some 0 else if xs.all (lvl 1) then some 1 else if xs.all (lvl 2) then some 2 else if xs.all (lvl 3) then some 3 else none
theorem lvlOf_all {xs : List D} {k : Nat} (h : lvlOf xs = some k) : xs.all (lvl k) = true ∧ k ≤ 3 := by
  unfold lvlOf at h
  split at h
  · cases h; exact ⟨by assumption, by omega⟩
  · split at h
    · cases h; exact ⟨by assumption, by omega⟩
    · split at h
      · cases h; exact ⟨by assumption, by omega⟩
      · split at h
        · cases h; exact ⟨by assumption, by omega⟩
        · cases h
theorem lvl_imm : ∀ {k : Nat} {d : D}, lvl k d = true → imm d = true
  | 0, .int _, _ => rfl
  | _ + 1, .tup _, _ => rfl
/-- sorted(xs) of alike data -/
def rSortD (K : PySem.W.Frag) : List V → Hp → VK → Prop := fun vs H Q => ∃ (a : Addr) (k : Nat) (bs : List (V × D)), vs = [V.ref a] ∧ k ≤ 3 ∧ SqL K H a (bs.map (·.1)) ∧ (∀ b ∈ bs, lvl k b.2 = true ∧ Dp K H b.1 (toP (k + 1) b.2)) ∧
  ∀ (cs : List (V × D)) (p : Addr), cs.Perm bs → cs.map (·.2) = isort (ltD k) (bs.map (·.2)) → H p = none → Q (.ref p) (upd H p (.lst (cs.map (·.1))))
theorem EachIs_vals {R : Value → V × D → Prop} (h : ∀ u b, R u b → RelV b.1 u) : ∀ {us : List Value} {bs : List (V × D)}, PySem.W.EachIs R us bs → Vals (bs.map (·.1)) us
  | _, _, .nil => .nil
  | _, _, .cons r t => .cons (h _ _ r) (EachIs_vals h t)
theorem Vals_each {bs : List (V × D)} : ∀ {us : List Value}, Vals (bs.map (·.1)) us → PySem.W.EachIs (fun u (b : V × D) => b ∈ bs ∧ RelV b.1 u) us bs := by
  have L : ∀ (cs : List (V × D)) (us : List Value), (∀ c ∈ cs, c ∈ bs) → Vals (cs.map (·.1)) us → PySem.W.EachIs (fun u (b : V × D) => b ∈ bs ∧ RelV b.1 u) us cs := fun cs => by
    induction cs with
    | nil => intro us _ h; cases h; exact .nil
    | cons c cs ih =>
      intro us hm h
      cases h with
      | cons r t => exact .cons ⟨hm c (List.mem_cons_self ..), r⟩ (ih _ (fun x hx => hm x (List.mem_cons_of_mem _ hx)) t)
  exact fun {us} h => L bs us (fun _ h => h) h
theorem EachIs_imp {α β : Type} {R R' : α → β → Prop} (h : ∀ a b, R a b → R' a b) : ∀ {xs : List α} {ys : List β}, PySem.W.EachIs R xs ys → PySem.W.EachIs R' xs ys
  | _, _, .nil => .nil
  | _, _, .cons r t => .cons (h _ _ r) (EachIs_imp h t)
section
variable {X : Cx}
theorem cr_sortD (hu : X.A.units + 100 < cLine) : CallR X (.builtin "sorted") (rSortD X.K) := by
  intro pins s σ H vs us Q I r h
  obtain ⟨a, k, bs, rfl, hk3, hs, hb, q⟩ := h
  obtain ⟨its, rv, hl, hz⟩ := I.list hs
  rw [Vals.ref1 r]
  have e1 := Vals_each rv
  have hlen : bs.length ≤ sizeLine := by rw [List.length_map] at hz; exact hz
  have hal : PySem.W.AllAlike (bs.map fun b => toP (k + 1) b.2) := fun d hd d' hd' => by
    obtain ⟨b, hb1, rfl⟩ := List.mem_map.mp hd
    obtain ⟨b', hb2, rfl⟩ := List.mem_map.mp hd'
    exact lvl_alike k _ _ (hb b hb1).1 (hb b' hb2).1
  have hsb : PySem.W.Sortable (bs.map fun b => toP (k + 1) b.2) := by
    cases k with
    | zero =>
      refine .inr fun d hd => ?_
      obtain ⟨b, hb1, rfl⟩ := List.mem_map.mp hd
      have := (hb b hb1).1
      cases hb2 : b.2 <;> rw [hb2] at this <;> simp [lvl] at this
      exact ⟨by simp [toP], fun xs => by simp [toP]⟩
    | succ k =>
      refine .inl fun d hd => ?_
      obtain ⟨b, hb1, rfl⟩ := List.mem_map.mp hd
      have := (hb b hb1).1
      cases hb2 : b.2 <;> rw [hb2] at this <;> simp [lvl] at this
      rename_i xs
      cases xs with
      | nil => simp at this
      | cons x xs => exact ⟨toP (k + 1) x, xs.map (toP (k + 1)), by simp only [toP, List.map_cons]⟩
  refine PySem.W.sorted_data (R := fun u (b : V × D) => RelV b.1 u) (enc := fun b => toP (k + 1) b.2) hl.isList (EachIs_imp (fun _ _ h => h.2) e1) (EachIs_imp (fun u b h => Dp.reads I _ _ _ (hb b h.1).2 h.2) e1) hal hsb hlen (fun b hb1 => ?_) fun out ho eo => ?_
  · have := toP_depth (k + 1) b.2
    omega
  · have P1 : (bs.mergeSort (PySem.W.dataLe false fun b => toP (k + 1) b.2)).Perm bs := List.mergeSort_perm ..
    obtain ⟨ep, he'⟩ := PyProof.Rows.sortedAll_at s.heap its out.toArray
    have hlen2 : ((bs.mergeSort (PySem.W.dataLe false fun b => toP (k + 1) b.2)).map (·.1)).length ≤ sizeLine := by rw [List.length_map, P1.length_eq]; exact hlen
    have ev := EachIs_vals (fun _ _ h => h) eo
    exact ⟨.ref _, upd H (s.heap.objs.size + 1) (.lst ((bs.mergeSort (PySem.W.dataLe false fun b => toP (k + 1) b.2)).map (·.1))), I.laid (t' := s.toks) (fun _ _ => PyProof.Rows.sortedAll_old) (Nat.le_succ _) ⟨hlen2, out, ep, ev, he'⟩, rfl,
      q _ _ P1 (sort_is (fun b : V × D => b.2) bs fun b h => (hb b h).1) (I.hok.fresh (Nat.le_succ _))⟩
end
theorem RepL.zipd {K : PySem.W.Frag} {Fz : Addr → Prop} {H : Hp} : ∀ {xs vs f}, RepL K Fz H xs vs f → ∃ bs : List (V × D), bs.map (·.1) = vs ∧ bs.map (·.2) = xs ∧ ∀ b ∈ bs, ∃ g, Rep K Fz H b.2 b.1 g ∧ ∀ a ∈ g, a ∈ f
  | _, _, _, .nil => ⟨[], rfl, rfl, fun _ h => nomatch h⟩
  | _, _, _, .cons (x := x) (v := v) r s => by
    obtain ⟨bs, h1, h2, h3⟩ := RepL.zipd s
    refine ⟨(v, x) :: bs, by rw [← h1]; rfl, by rw [← h2]; rfl, fun b hb => ?_⟩
    rcases List.mem_cons.mp hb with rfl | hb
    · exact ⟨_, r, fun a h => List.mem_append_left _ h⟩
    · obtain ⟨g, h4, h5⟩ := h3 b hb
      exact ⟨g, h4, fun a h => List.mem_append_right _ (h5 a h)⟩
theorem RepL.of_pairs {K : PySem.W.Frag} {Fz : Addr → Prop} {H : Hp} : ∀ {bs : List (V × D)}, (∀ b ∈ bs, Rep K Fz H b.2 b.1 []) → RepL K Fz H (bs.map (·.2)) (bs.map (·.1)) []
  | [], _ => .nil
  | b :: bs, h => .cons (f := []) (g := []) (h b (List.mem_cons_self ..)) (RepL.of_pairs fun c hc => h c (List.mem_cons_of_mem _ hc))
/-- a list alone -/
def sortLF (d : D) : Option D := match seqOf d with
  | some (false, xs) => match lvlOf xs with
    | some k => some (.lst true (isort (ltD k) xs))
    | none => none
  | _ => none
theorem snd_sort {K : PySem.W.Frag} : R1Snd K (fun x H Q => rSortD K [x] H Q) sortLF := by
  intro Fz H fp σ s T TV Fz2 H2 fp2 a x fa z Q e hl C g ra k
  unfold sortLF at e
  split at e
  · rename_i xs hq
    split at e
    · rename_i kk hk
      cases e
      obtain ⟨hall, hk3⟩ := lvlOf_all hk
      have hi : xs.all imm = true := by
        rw [List.all_eq_true] at hall ⊢
        exact fun x hx => lvl_imm (hall x hx)
      obtain ⟨p, vs, rfl, rl, sq⟩ := ra.seq hq hi
      obtain ⟨bs, h1, h2, h3⟩ := rl.zipd
      have rep0 : ∀ b ∈ bs, Rep K Fz2 H2 b.2 b.1 [] := fun b hb => by
        obtain ⟨g, r, hg⟩ := h3 b hb
        cases g with
        | nil => exact r
        | cons y ys => exact absurd (hg y (List.mem_cons_self ..)) (by simp)
      have hl2 : ∀ b ∈ bs, lvl kk b.2 = true := fun b hb => by
        rw [List.all_eq_true] at hall
        exact hall _ (by rw [← h2]; exact List.mem_map.mpr ⟨b, hb, rfl⟩)
      refine ⟨p, kk, bs, rfl, hk3, by rw [h1]; exact sq, fun b hb => ⟨hl2 b hb, Rep.dp _ (rep0 b hb) (lvl_shp kk _ (hl2 b hb))⟩, fun cs q hp he hq => ?_⟩
      rw [h2] at he
      rw [← he] at k
      exact fin_lst k hl C g (RepL.of_pairs fun c hc => rep0 c (hp.mem_iff.mp hc)) q hq
    · cases e
  · cases e
end Va
namespace Va
open PySem PySem.Spec PyProof.Rows L2
/-- an expression that is no starred one -/
def NoStar (e : Expr) : Prop := ∀ (es : List Expr) (env : Env), starEach (e :: es) env = (false, eval e env) :: starEach es env
section
variable {Γ : Gam} {Φ : GCx → Prop}
def mNil : M (List D) := fun st => some ([], st)
def mCons (m : M D) (r : M (List D)) : M (List D) := fun st => match m st with
  | some (d, s) => match r s with
    | some (ds, s') => some (d :: ds, s')
    | none => none
  | none => none
theorem sa_nil : SA Γ Φ [] mNil := fun X o => pa_imp pa_nil fun σ H Q q => by
  obtain ⟨Fz, fp, st, C, ds, st', e, k⟩ := q
  cases e
  exact k [] H Fz fp rfl C .refl
theorem sa_cons {e : Expr} {es : List Expr} {m : M D} {r : M (List D)} (h : SE Γ Φ e m) (hr : SA Γ Φ es r) (ns : NoStar e := by intro _ _; rfl) : SA Γ Φ (e :: es) (mCons m r) := fun X o => pa_imp (pa_cons (h X o) (hr X o) (ns _ _)) fun σ H Q q => by
  obtain ⟨Fz, fp, st, C, ds, st', e, k⟩ := q
  unfold mCons at e
  split at e
  · rename_i d s hm
    split at e
    · rename_i ds' s' hr
      cases e
      refine ⟨Fz, fp, st, C, _, _, hm, fun v H1 Fz1 fp1 C1 g1 => ?_⟩
      refine rdA.run (P := [some d]) (PV := [some v]) C1 rfl hr fun vs H2 Fz2 fp2 hl C2 g2 => ?_
      obtain ⟨f3, C3, p3⟩ := C2.float (x := some d) (y := some v) (P := ds'.map some) (PV := vs.map some) (by simp [hl])
      exact k (v :: vs) H2 Fz2 f3 (by simp [hl]) C3 ((g1.trans g2).sub fun a h => p3.mem_iff.mp h)
    · cases e
  · cases e
/-- *e, then the rest -/
def mStar (m : M D) (r : M (List D)) : M (List D) := fun st => match m st with
  | some (d, s) => match seqOf d with
    | some (_, xs) => match xs.all imm with
      | true => match r s with
        | some (ds, s') => some (xs ++ ds, s')
        | none => none
      | false => none
    | none => none
  | none => none
def frzA (d : D) : D := match imm d with
  | true => d
  | false => frz d
def mTup (m : M (List D)) : M D := fun st => match m st with
  | some (ds, s) => match Nat.ble ds.length LN with
    | true => some (.tup (ds.map frzA), s)
    | false => none
  | none => none
def mLst (m : M (List D)) : M D := fun st => match m st with
  | some (ds, s) => match Nat.ble ds.length LN with
    | true => some (.lst true ds, s)
    | false => none
  | none => none
theorem Rep.frzA {K : PySem.W.Frag} {Fz Fz' : Addr → Prop} {H : Hp} (m : ∀ a, Fz a → Fz' a) {d v f} (r : Rep K Fz H d v f) (h : ∀ a ∈ f, Fz' a) : Rep K Fz' H (Va.frzA d) v [] := by
  unfold Va.frzA
  split
  · rename_i hi
    have := r.imm hi
    subst this
    exact r.keep m (fun _ _ _ h => h) fun _ _ h => nomatch h
  · exact r.frz m h
theorem temps_rep {K : PySem.W.Frag} {Fz : Addr → Prop} {H : Hp} : ∀ {ds : List D} {vs : List V} {f}, vs.length = ds.length → RepS K Fz H (ds.map some) (vs.map some) f → RepL K Fz H ds vs f
  | [], [], _, _, h => by cases h; exact .nil
  | d :: ds, v :: vs, _, hl, h => by
    cases h with
    | cons r s => cases r with
      | som r => exact .cons r (temps_rep (by simpa using hl) s)
theorem RepL.frzA {K : PySem.W.Frag} {Fz Fz' : Addr → Prop} {H : Hp} (m : ∀ a, Fz a → Fz' a) : ∀ {ds vs f}, RepL K Fz H ds vs f → (∀ a ∈ f, Fz' a) → RepL K Fz' H (ds.map Va.frzA) vs []
  | _, _, _, .nil, _ => .nil
  | _, _, _, .cons r s, h => .cons (f := []) (g := []) (r.frzA m fun a q => h a (List.mem_append_left _ q)) (RepL.frzA m s fun a q => h a (List.mem_append_right _ q))
/-- the temporaries are frozen, all of them -/
theorem Cfg.frzTemps {K : PySem.W.Frag} {Fz : Addr → Prop} {H : Hp} {ds : List D} {vs : List V} {s : S} {σ : List (Option V)} {fp : List Addr} (hl : vs.length = ds.length) (C : Cfg K Fz H (ds.map some ++ s) (vs.map some ++ σ) fp) :
    ∃ Fz' f, Cfg K Fz' H s σ f ∧ RepL K Fz' H (ds.map Va.frzA) vs [] ∧ Go Fz H fp Fz' H f := by
  obtain ⟨f1, f2, rfl, a, b⟩ := C.rep.split (by simp [hl])
  have nd := List.nodup_append.mp C.nd
  have rl := temps_rep hl a
  refine ⟨fun x => Fz x ∨ x ∈ f1, f2, ⟨b.keep (fun _ h => .inl h) (fun _ _ _ h => h) fun _ _ _ h => h, nd.2.1, fun x h z => ?_, fun x z => ?_⟩, rl.frzA (fun _ h => .inl h) fun x h => .inr h, ⟨fun _ _ h _ => h, fun _ h => h, fun _ h => .inl h, fun x z => ?_, fun x h => .inl (List.mem_append_right _ h)⟩⟩
  · rcases z with z | z
    · exact C.fz x (List.mem_append_right _ h) z
    · exact nd.2.2 x z x h rfl
  · rcases z with z | z
    · exact C.ft x z
    · exact a.there x z
  · rcases z with z | z
    · exact .inl z
    · exact .inr (.inl (List.mem_append_left _ z))
theorem se_tup {es : List Expr} {m : M (List D)} {k pos} (h : SA Γ Φ es m) : SE Γ Φ (.Tuple es k pos) (mTup m) := fun X o => pe_imp (pe_tupZ (h X o)) fun σ H Q q => by
  obtain ⟨Fz, fp, st, C, d, st', e, k⟩ := q
  unfold mTup at e
  split at e
  · rename_i ds s hm
    split at e
    · rename_i hz
      cases e
      refine ⟨Fz, fp, st, C, _, _, hm, fun vs H1 Fz1 fp1 hl C1 g1 => ⟨by rw [hl, ← LN_eq]; exact Nat.le_of_ble_eq_true hz, ?_⟩⟩
      obtain ⟨F2, f2, C2, r2, g2⟩ := C1.frzTemps hl
      exact fin_tup (T := []) (TV := []) k rfl C2 (g1.trans g2) r2
    · cases e
  · cases e
theorem se_lst {es : List Expr} {m : M (List D)} {pos} (h : SA Γ Φ es m) : SE Γ Φ (.List es pos) (mLst m) := fun X o => pe_imp (pe_lst (h X o)) fun σ H Q q => by
  obtain ⟨Fz, fp, st, C, d, st', e, k⟩ := q
  unfold mLst at e
  split at e
  · rename_i ds s hm
    split at e
    · rename_i hz
      cases e
      refine ⟨Fz, fp, st, C, _, _, hm, fun vs H1 Fz1 fp1 hl C1 g1 => ⟨by rw [hl, ← LN_eq]; exact Nat.le_of_ble_eq_true hz, fun p hp => ?_⟩⟩
      obtain ⟨f1, f2, rfl, a, b⟩ := C1.rep.split (by simp [hl])
      have rl := temps_rep hl a
      have kk : ∀ {a u}, H1 a = some u → upd H1 p (.lst vs) a = some u := fun {a u} e => by rw [upd_ne (ne_of_none e hp)]; exact e
      have np : p ∉ f1 ++ f2 := fun q => C1.there p q hp
      refine k (.ref p) _ Fz1 (p :: (f1 ++ f2)) ⟨?_, List.nodup_cons.mpr ⟨np, C1.nd⟩, fun a h z => ?_, fun a z => ?_⟩ (g1.trans ⟨fun a u e _ => kk e, fun a e => ?_, fun _ h => h, fun _ h => .inl h, fun a h => ?_⟩)
      · exact RepS.cons (f := p :: f1) (.som (.lstO upd_same (rl.keep (fun _ h => h) (fun _ _ _ e => kk e) fun _ _ _ e => kk e))) (b.keep (fun _ h => h) (fun _ _ _ e => kk e) fun _ _ _ e => kk e)
      · rcases List.mem_cons.mp h with rfl | h
        · exact C1.ft _ z hp
        · exact C1.fz a h z
      · by_cases e : a = p
        · subst e; exact absurd hp (C1.ft _ z)
        · rw [upd_ne e]; exact C1.ft a z
      · by_cases e' : a = p
        · rw [e']; exact hp
        · rw [upd_ne e'] at e; exact e
      · rcases List.mem_cons.mp h with rfl | h
        · exact .inr hp
        · exact .inl h
    · cases e
  · cases e
theorem se_b1 {x : Str} {id : String} {e : Expr} {o1 : Opd} {f : D → Option D} {p pos : Pos} (hr : ∀ X : Cx, X.A.units + 100 < cLine → X.calm = true → ∃ r, CallR X (.builtin id) r ∧ R1Snd X.K (fun x H Q => r [x] H Q) f) (hv : bootBuiltins x = some (.builtin id))
    (hb : ∀ g, Φ g → g.mg x = none) (he : SO Γ Φ e o1) (hg : gGl Γ.sc x = true := by rfl) (ns : NoStar e := by intro _ _; rfl) (hn : x ≠ "__name__" := by decide) (hd : (x == ("__debug__" : Str)) = false := by decide) : SE Γ Φ (.Call (.Name x p) [e] [] pos) (m1 o1 f) := fun X o => by
  obtain ⟨r, h1, h2⟩ := hr X o.hu o.calm
  exact pe_imp (pe_callB h1 (o.gl hg) (hb _ o.phi) hv (pa_cons (he X o) pa_nil (ns _ _)) hn hd (ns _ _)) fun σ H Q q => one (r := fun x H Q => r [x] H Q) h2 q
theorem se_t1 {x : Str} {T : String} {e : Expr} {o1 : Opd} {f : D → Option D} {p pos : Pos} (hr : ∀ X : Cx, X.A.units + 100 < cLine → X.calm = true → ∃ r, CallR X (.type T) r ∧ R1Snd X.K (fun x H Q => r [x] H Q) f) (hv : bootBuiltins x = some (.type T))
    (hb : ∀ g, Φ g → g.mg x = none) (he : SO Γ Φ e o1) (hg : gGl Γ.sc x = true := by rfl) (ns : NoStar e := by intro _ _; rfl) (hn : x ≠ "__name__" := by decide) (hd : (x == ("__debug__" : Str)) = false := by decide) : SE Γ Φ (.Call (.Name x p) [e] [] pos) (m1 o1 f) := fun X o => by
  obtain ⟨r, h1, h2⟩ := hr X o.hu o.calm
  exact pe_imp (pe_callTy h1 (o.gl hg) (hb _ o.phi) hv (pa_cons (he X o) pa_nil (ns _ _)) hn hd (ns _ _)) fun σ H Q q => one (r := fun x H Q => r [x] H Q) h2 q
end
def lenF : D → Option D
  | .tup xs => some (.int xs.length)
  | .rol xs => some (.int xs.length)
  | .lst _ xs => some (.int xs.length)
  | .dic _ xs => some (.int xs.length)
  | _ => none
theorem callr_or {X : Cx} {f : Value} {r r' : List V → Hp → VK → Prop} (h : CallR X f r) (h' : CallR X f r') : CallR X f (fun xs H Q => r xs H Q ∨ r' xs H Q) := fun pins s σ H xs us Q I rv q => q.elim (fun q => h pins s σ H xs us Q I rv q) fun q => h' pins s σ H xs us Q I rv q
theorem b_len {X : Cx} : ∃ r, CallR X (.builtin "len") r ∧ R1Snd X.K (fun x H Q => r [x] H Q) lenF := ⟨_, callr_or call_len L2.call_lenD, by
  intro Fz H fp σ s T TV Fz2 H2 fp2 a x fa z Q e hl C g ra k
  unfold lenF at e
  split at e
  · cases e
    obtain ⟨p, vs, rfl, hp, r⟩ := ra.tupl
    rw [r.length] at k
    exact .inl ⟨_, vs.length, rfl, .inr ⟨vs, .inl hp, rfl⟩, fin_atom k hl C g (.int _)⟩
  · cases e
    cases ra with
    | rol q r =>
      rw [r.length] at k
      exact .inl ⟨_, _, rfl, .inl ⟨_, q.sq, rfl⟩, fin_atom k hl C g (.int _)⟩
  · cases e
    obtain ⟨p, vs, f', rfl, hp, r, _⟩ := ra.lst
    rw [r.length] at k
    exact .inl ⟨_, _, rfl, .inl ⟨_, .inl (.inl hp), rfl⟩, fin_atom k hl C g (.int _)⟩
  · cases e
    obtain ⟨p, vs, f', rfl, hp, r, _⟩ := ra.dic
    rw [r.length] at k
    exact .inr ⟨_, _, rfl, hp, fin_atom k hl C g (.int _)⟩
  · cases e⟩
end Va
namespace Va
open PySem PySem.Spec PyProof.Rows L2
def toBools : List D → Option (List Bool)
  | [] => some []
  | .bl i :: r => match toBools r with
    | some l => some (i :: l)
    | none => none
  | _ => none
theorem toBools_map {K : PySem.W.Frag} {Fz : Addr → Prop} {H : Hp} : ∀ {xs ns vs f}, toBools xs = some ns → RepL K Fz H xs vs f → vs = ns.map V.bl
  | [], _, _, _, h, .nil => by cases h; rfl
  | x :: r, _, _, _, h, .cons rx s => by
    cases x with
    | bl i =>
      simp only [toBools] at h
      split at h
      · rename_i l hl
        cases h
        rw [toBools_map hl s, rx.bli]; rfl
      · cases h
    | _ => simp [toBools] at h
/-- a list's items (a list alone) -/
def lstOf : D → Option (List D)
  | .rol xs => some xs
  | .lst _ xs => some xs
  | _ => none
theorem Rep.lstOf {K : PySem.W.Frag} {Fz : Addr → Prop} {H : Hp} {d v f xs} (r : Rep K Fz H d v f) (h : Va.lstOf d = some xs) : ∃ a vs f', v = .ref a ∧ SqL K H a vs ∧ RepL K Fz H xs vs f' ∧ ∀ x ∈ f', x ∈ f := by
  cases r <;> simp [Va.lstOf] at h
  · subst h; rename_i q r; exact ⟨_, _, _, rfl, q.sq, r, fun _ h => h⟩
  · subst h; rename_i q z r; exact ⟨_, _, _, rfl, .inl (.inl q), r, fun _ h => nomatch h⟩
  · subst h; rename_i q r; exact ⟨_, _, _, rfl, .inl (.inl q), r, fun _ h => List.mem_cons_of_mem _ h⟩
def isum : List Int → Int
  | [] => 0
  | x :: xs => x + isum xs
theorem isum_sum : ∀ ns : List Int, isum ns = ns.sum
  | [] => rfl
  | x :: xs => by rw [isum, isum_sum xs, List.sum_cons]
def imax (x : Int) : List Int → Int
  | [] => x
  | y :: ys => imax (if x < y then y else x) ys
theorem imax_spec : ∀ (ys : List Int) (x : Int), imax x ys ∈ x :: ys ∧ ∀ y ∈ x :: ys, y ≤ imax x ys
  | [], x => by simp [imax]
  | y :: ys, x => by
    unfold imax
    by_cases h : x < y
    · rw [if_pos h]
      obtain ⟨h1, h2⟩ := imax_spec ys y
      have h3 := h2 _ (List.mem_cons_self ..)
      exact ⟨List.mem_cons_of_mem _ h1, fun z hz => (List.mem_cons.mp hz).elim (fun e => by rw [e]; omega) (h2 z)⟩
    · rw [if_neg h]
      obtain ⟨h1, h2⟩ := imax_spec ys x
      have h3 := h2 _ (List.mem_cons_self ..)
      refine ⟨?_, fun z hz => ?_⟩
      · rcases List.mem_cons.mp h1 with e | e
        · rw [e]; exact List.mem_cons_self ..
        · exact List.mem_cons_of_mem _ (List.mem_cons_of_mem _ e)
      · rcases List.mem_cons.mp hz with e | e
        · rw [e]; exact h3
        · rcases List.mem_cons.mp e with e | e
          · rw [e]; omega
          · exact h2 z (List.mem_cons_of_mem _ e)
def intsF (f : List Int → Option D) (d : D) : Option D := match lstOf d with
  | some xs => match toInts xs with
    | some ns => f ns
    | none => none
  | none => none
def boolsF (f : List Bool → D) (d : D) : Option D := match lstOf d with
  | some xs => match toBools xs with
    | some ns => some (f ns)
    | none => none
  | none => none
def sumF := intsF fun ns => some (.int (isum ns))
def maxF := intsF fun | [] => none | n :: ns => some (.int (imax n ns))
def allF := boolsF fun bs => .bl (bs.all id)
def anyF := boolsF fun bs => .bl (bs.any id)
theorem snd_ints {K : PySem.W.Frag} {r : List V → Hp → VK → Prop} {f : List Int → Option D} (h : ∀ {H a ns z Q}, f ns = some z → SqL K H a (ns.map V.int) → (∀ v, (∀ Fz, Rep K Fz H z v []) → Q v H) → r [.ref a] H Q) : R1Snd K (fun x H Q => r [x] H Q) (intsF f) := by
  intro Fz H fp σ s T TV Fz2 H2 fp2 a x fa z Q e hl C g ra k
  unfold intsF at e
  split at e
  · rename_i xs hx
    split at e
    · rename_i ns hn
      obtain ⟨p, vs, f', rfl, sq, rl, _⟩ := ra.lstOf hx
      have := toInts_map hn rl
      subst this
      exact h e sq fun v rv => fin_atom k hl C g (rv _)
    · cases e
  · cases e
theorem snd_bools {K : PySem.W.Frag} {r : List V → Hp → VK → Prop} {f : List Bool → D} (h : ∀ {H a ns Q}, SqL K H a (ns.map V.bl) → (∀ v, (∀ Fz, Rep K Fz H (f ns) v []) → Q v H) → r [.ref a] H Q) : R1Snd K (fun x H Q => r [x] H Q) (boolsF f) := by
  intro Fz H fp σ s T TV Fz2 H2 fp2 a x fa z Q e hl C g ra k
  unfold boolsF at e
  split at e
  · rename_i xs hx
    split at e
    · rename_i ns hn
      cases e
      obtain ⟨p, vs, f', rfl, sq, rl, _⟩ := ra.lstOf hx
      have := toBools_map hn rl
      subst this
      exact h sq fun v rv => fin_atom k hl C g (rv _)
    · cases e
  · cases e
section
variable {X : Cx}
theorem b_sum (hc : X.calm = true) : ∃ r, CallR X (.builtin "sum") r ∧ R1Snd X.K (fun x H Q => r [x] H Q) sumF := ⟨_, cr_sum hc, snd_ints fun {H a ns z Q} e sq k => by
  cases e
  refine ⟨a, ns, rfl, sq, ?_⟩
  rw [← isum_sum]
  exact k _ fun _ => .int _⟩
theorem b_max (hc : X.calm = true) : ∃ r, CallR X (.builtin "max") r ∧ R1Snd X.K (fun x H Q => r [x] H Q) maxF := ⟨_, cr_max hc, snd_ints fun {H a ns z Q} e sq k => by
  cases ns with
  | nil => cases e
  | cons n ns =>
    cases e
    refine ⟨a, n :: ns, rfl, sq, by simp, fun m hm hb => ?_⟩
    obtain ⟨h1, h2⟩ := imax_spec ns n
    have : m = imax n ns := Int.le_antisymm (h2 m hm) (hb _ h1)
    subst this
    exact k _ fun _ => .int _⟩
theorem b_all (hc : X.calm = true) : ∃ r, CallR X (.builtin "all") r ∧ R1Snd X.K (fun x H Q => r [x] H Q) allF := ⟨_, cr_all hc, snd_bools fun {H a ns Q} sq k => ⟨a, ns, rfl, sq, k _ fun _ => .bl _⟩⟩
theorem b_any (hc : X.calm = true) : ∃ r, CallR X (.builtin "any") r ∧ R1Snd X.K (fun x H Q => r [x] H Q) anyF := ⟨_, cr_any hc, snd_bools fun {H a ns Q} sq k => ⟨a, ns, rfl, sq, k _ fun _ => .bl _⟩⟩
theorem b_sorted (hu : X.A.units + 100 < cLine) : ∃ r, CallR X (.builtin "sorted") r ∧ R1Snd X.K (fun x H Q => r [x] H Q) sortLF := ⟨_, cr_sortD hu, snd_sort⟩
def absF : D → Option D
  | .int i => some (.int (if i < 0 then -i else i))
  | _ => none
theorem b_abs : ∃ r, CallR X (.builtin "abs") r ∧ R1Snd X.K (fun x H Q => r [x] H Q) absF := ⟨_, call_abs, by
  intro Fz H fp σ s T TV Fz2 H2 fp2 a x fa z Q e hl C g ra k
  unfold absF at e
  split at e
  · cases e; exact ⟨_, by rw [ra.inti], fin_atom k hl C g (.int _)⟩
  · cases e⟩
def intcF : D → Option D
  | .int i => some (.int i)
  | .bl b => some (.int (if b then 1 else 0))
  | _ => none
theorem b_int : ∃ r, CallR X (.type "int") r ∧ R1Snd X.K (fun x H Q => r [x] H Q) intcF := ⟨_, call_int1, by
  intro Fz H fp σ s T TV Fz2 H2 fp2 a x fa z Q e hl C g ra k
  unfold intcF at e
  split at e
  · cases e; exact .inl ⟨_, by rw [ra.inti], fin_atom k hl C g (.int _)⟩
  · cases e; exact .inr ⟨_, by rw [ra.bli], fin_atom k hl C g (.int _)⟩
  · cases e⟩
def tupcF : D → Option D
  | .tup xs => some (.tup xs)
  | .rol xs => some (.tup xs)
  | .lst _ xs => match xs.all imm with
    | true => some (.tup xs)
    | false => none
  | _ => none
def lstcF (d : D) : Option D := match seqOf d with
  | some (_, xs) => match xs.all imm with
    | true => some (.lst true xs)
    | false => none
  | none => none
theorem b_tuple : ∃ r, CallR X (.type "tuple") r ∧ R1Snd X.K (fun x H Q => r [x] H Q) tupcF := ⟨_, call_tupleZ, by
  intro Fz H fp σ s T TV Fz2 H2 fp2 a x fa z Q e hl C g ra k
  unfold tupcF at e
  split at e
  · cases e
    obtain ⟨p, vs, rfl, hp, r⟩ := ra.tupl
    exact ⟨p, vs, rfl, .inr ⟨.inl hp, fin_atom k hl C g ra.fz0⟩⟩
  · cases e
    cases ra with
    | rol q r => exact ⟨_, _, rfl, .inl ⟨q.sq, fin_tup k hl C g r⟩⟩
  · split at e
    · rename_i hi
      cases e
      obtain ⟨p, vs, f', rfl, hp, r, _⟩ := ra.lst
      have := r.imm hi
      subst this
      exact ⟨_, _, rfl, .inl ⟨.inl (.inl hp), fin_tup k hl C g r⟩⟩
    · cases e
  · cases e⟩
theorem b_list : ∃ r, CallR X (.type "list") r ∧ R1Snd X.K (fun x H Q => r [x] H Q) lstcF := ⟨_, call_list_of, by
  intro Fz H fp σ s T TV Fz2 H2 fp2 a x fa z Q e hl C g ra k
  unfold lstcF at e
  split at e
  · rename_i b xs hq
    split at e
    · rename_i hi
      cases e
      obtain ⟨p, vs, rfl, r, sq⟩ := ra.seq hq hi
      exact ⟨p, vs, rfl, by cases b; exact .inl sq; exact .inr sq, fin_lst k hl C g r⟩
    · cases e
  · cases e⟩
end
def rgD (a b : Int) : List D := (List.range (b - a).toNat).map fun i => .int (a + (i : Nat))
theorem rgD_rep {K : PySem.W.Frag} {Fz : Addr → Prop} {H : Hp} (a b : Int) : RepL K Fz H (rgD a b) (rgV a b) [] := by
  unfold rgD rgV
  generalize List.range (b - a).toNat = l
  induction l with
  | nil => exact .nil
  | cons x l ih => exact .cons (f := []) (g := []) (.int _) ih
def rgOk : Int → Int → Bool
  | .ofNat x, .ofNat y => Nat.ble x 16777216 && Nat.ble y 16777216
  | _, _ => false
theorem rgOk_and {a b : Int} (h : rgOk a b = true) : 0 ≤ a ∧ b ≤ 16777216 ∧ a ≤ 16777216 ∧ 0 ≤ b := by
  unfold rgOk at h
  split at h
  · simp only [Bool.and_eq_true] at h
    have h1 := Nat.le_of_ble_eq_true h.1
    have h2 := Nat.le_of_ble_eq_true h.2
    simp only [Int.ofNat_eq_natCast]
    omega
  · cases h
theorem rgOk_of {n : Int} (h : 0 ≤ n) (h2 : n ≤ 16777216) : rgOk 0 n = true := by
  cases n with
  | ofNat n =>
    simp only [Int.ofNat_eq_natCast] at h2
    show (Nat.ble 0 16777216 && Nat.ble n 16777216) = true
    rw [Nat.ble_eq_true_of_le (by omega), Nat.ble_eq_true_of_le (by omega)]
    rfl
  | negSucc n => omega
theorem rgOk_ok {a b : Int} (h : rgOk a b = true) : RgOk a b := by
  have := rgOk_and h
  exact RgOk.of_le this.1 this.2.1 this.2.2.1 this.2.2.2
def rg1F (mk : List D → D) : D → Option D
  | .int n => match rgOk 0 n with
    | true => some (mk (rgD 0 n))
    | false => none
  | _ => none
section
variable {Γ : Gam} {Φ : GCx → Prop}
theorem se_lstRg {e : Expr} {o1 : Opd} {p pos p2 pos2 : Pos} (he : SO Γ Φ e o1) (hb : ∀ g, Φ g → g.mg "list" = none) (hb2 : ∀ g, Φ g → g.mg "range" = none) (hg : gGl Γ.sc "list" = true := by rfl) (hg2 : gGl Γ.sc "range" = true := by rfl) (ns : NoStar e := by intro _ _; rfl) :
    SE Γ Φ (.Call (.Name "list" p) [.Call (.Name "range" p2) [e] [] pos2] [] pos) (m1 o1 (rg1F (.lst true))) := fun X o =>
  pe_imp (pe_listRg o.calm (o.gl hg) (hb _ o.phi) (prg_1 (o.gl hg2) (hb2 _ o.phi) (he X o) (ns _ _)) rfl) fun σ H Q q => one (r := fun x H Q => ∃ n, x = .int n ∧ RgOk 0 n ∧ ∀ q, H q = none → Q (.ref q) (upd H q (.lst (rgV 0 n)))) (fun {Fz H fp σ s T TV Fz2 H2 fp2 a x fa z Q} e hl C g ra k => by
    unfold rg1F at e
    split at e
    · split at e
      · rename_i n _ hn
        cases e
        exact ⟨n, ra.inti, rgOk_ok hn, fin_lst k hl C g (rgD_rep 0 n)⟩
      · cases e
    · cases e) q
def immO : Option D → Option D
  | some d => match imm d with
    | true => some d
    | false => none
  | none => none
def isDic : D → Bool
  | .dic _ _ => true
  | _ => false
def ixS (d k : D) : Option D := match seqOf d, k with
  | some (_, xs), .int i => immO (atI xs i)
  | _, _ => none
def ixK (d k : D) : Option D := match d with
  | .dic _ kvs => match keyD k with
    | some _ => immO (lookD kvs k)
    | none => none
  | _ => none
def ixF (d k : D) : Option D := match isDic d with
  | true => ixK d k
  | false => ixS d k
theorem RepL.get {K : PySem.W.Frag} {Fz : Addr → Prop} {H : Hp} : ∀ {xs vs f} {j : Nat} {x : D}, RepL K Fz H xs vs f → xs[j]? = some x → ∃ y g, vs[j]? = some y ∧ Rep K Fz H x y g ∧ ∀ a ∈ g, a ∈ f
  | [], _, _, _, _, _, h => by simp at h
  | _ :: _, _, _, 0, _, .cons r s, h => by simp at h; subst h; exact ⟨_, _, rfl, r, fun a h => List.mem_append_left _ h⟩
  | _ :: _, _, _, j + 1, _, .cons r s, h => by
    obtain ⟨y, g, e, r', hg⟩ := RepL.get (j := j) s (by simpa using h)
    exact ⟨y, g, by simpa using e, r', fun a h => List.mem_append_right _ (hg a h)⟩
theorem atI_rep {K : PySem.W.Frag} {Fz : Addr → Prop} {H : Hp} {xs vs f} (r : RepL K Fz H xs vs f) {i : Int} {x : D} (h : atI xs i = some x) : ∃ y g, atI vs i = some y ∧ Rep K Fz H x y g ∧ ∀ a ∈ g, a ∈ f := by
  unfold atI at h ⊢
  rw [← r.length]
  cases hj : ixN xs.length i with
  | none => rw [hj] at h; cases h
  | some j =>
    rw [hj] at h
    have h : xs[j]? = some x := h
    show ∃ y g, vs[j]? = some y ∧ _
    exact r.get h
theorem immO_some {o : Option D} {d : D} (h : immO o = some d) : o = some d ∧ imm d = true := by
  unfold immO at h
  split at h
  · split at h
    · cases h; exact ⟨rfl, by assumption⟩
    · cases h
  · cases h
theorem snd_ixK {K : PySem.W.Frag} {Fz : Addr → Prop} {H : Hp} {fp} {σ : List (Option V)} {s : S} {T TV Fz2 H2 fp2 a b x y fa fb z} {Q : VK} (e : ixK a b = some z) (hl : T.length = TV.length) (C : Cfg K Fz2 H2 (T ++ s) (TV ++ σ) fp2)
    (g : Go Fz H fp Fz2 H2 fp2) (ra : Rep K Fz2 H2 a x fa) (rb : Rep K Fz2 H2 b y fb) (k : Fin1 K Fz H fp σ z s Q) : ∃ p v, x = .ref p ∧ DGet H2 p y (some v) ∧ Q v H2 := by
  unfold ixK at e
  split at e
  · split at e
    · rename_i kk hk
      obtain ⟨e1, e2⟩ := immO_some e
      have e3 := keyD_v hk rb
      subst e3
      obtain ⟨p, ov, rfl, dg, h⟩ := dget_of ra hk
      rcases h with ⟨h1, _⟩ | ⟨x, v, f', h1, h2, r, _⟩
      · rw [h1] at e1; cases e1
      · rw [h1] at e1
        cases e1
        have := r.imm e2
        subst this
        subst h2
        exact ⟨p, v, rfl, dg, fin_atom k hl C g r⟩
    · cases e
  · cases e
theorem snd_ixS {K : PySem.W.Frag} : R2Snd K (fun x y H Q => rIxL K x y H Q ∨ rIxT K x y H Q) ixS := by
  intro Fz H fp σ s T TV Fz2 H2 fp2 a b x y fa fb z Q e hl C g ra rb k
  unfold ixS at e
  split at e
  · rename_i b xs i hq
    obtain ⟨e1, e2⟩ := immO_some e
    have e3 := rb.inti
    subst e3
    have fin : ∀ {p vs f}, x = .ref p → RepL K Fz2 H2 xs vs f → (SqL K H2 p vs ∨ SqT K H2 p vs) → rIxL K x (.int i) H2 Q ∨ rIxT K x (.int i) H2 Q := fun {p vs f} ex rl sq => by
      obtain ⟨v, g', ev, rv, _⟩ := atI_rep rl e1
      have := rv.imm e2
      subst this
      rcases sq with sq | sq
      · exact .inl ⟨p, vs, i, v, ex, rfl, sq, ev, fin_atom k hl C g rv⟩
      · exact .inr ⟨p, vs, i, v, ex, rfl, sq, ev, fin_atom k hl C g rv⟩
    cases ra with
    | tup q z r => simp [seqOf] at hq; obtain ⟨_, rfl⟩ := hq; exact fin rfl r (.inr q.sq)
    | rol q r => simp [seqOf] at hq; obtain ⟨_, rfl⟩ := hq; exact fin rfl r (.inl q.sq)
    | lstF q z r => simp [seqOf] at hq; obtain ⟨_, rfl⟩ := hq; exact fin rfl r (.inl (.inl (.inl q)))
    | lstO q r => simp [seqOf] at hq; obtain ⟨_, rfl⟩ := hq; exact fin rfl r (.inl (.inl (.inl q)))
    | _ => simp [seqOf] at hq
  · cases e
theorem pe_or {X : Cx} {e : Expr} {t t' : TE} (h : PE X e t) (h' : PE X e t') : PE X e (fun σ H Q => t σ H Q ∨ t' σ H Q) := ⟨fun pins s σ H Q I q => q.elim (h.run pins s σ H Q I) (h'.run pins s σ H Q I)⟩
/-- what a two-operand evaluation comes to, whatever the readings are -/
theorem two' {K : PySem.W.Frag} {o1 o2 : Opd} {f : D → D → Option D} {R : V → V → Hp → Prop} {σ H}
    {Fz : Addr → Prop} {fp : List Addr} {st : S} (C : Cfg K Fz H st σ fp) {d : D} {st' : S} (e : m2 o1 o2 f st = some (d, st')) (hs : ∀ {T TV Fz2 H2 fp2 a b x y fa fb}, f a b = some d → T.length = TV.length → Cfg K Fz2 H2 (T ++ st') (TV ++ σ) fp2 → Go Fz H fp Fz2 H2 fp2 → Rep K Fz2 H2 a x fa → Rep K Fz2 H2 b y fb → R x y H2) :
    rdO K o1 σ H fun x H1 => rdO K o2 σ H1 fun y H2 => R x y H2 := by
  unfold m2 at e
  split at e
  · rename_i r1 s1 h1
    split at e
    · rename_i r2 s2 h2
      split at e
      · rename_i a ha
        split at e
        · rename_i b hb
          split at e
          · rename_i z hz
            cases e
            refine rdO.run (P := []) (PV := []) C rfl h1 fun v H1 Fz1 fp1 T TV hT C1 g1 k1 => ?_
            refine rdO.run (P := T) (PV := TV) C1 hT h2 fun u H2 Fz2 fp2 T2 TV2 hT2 C2 g2 k2 => ?_
            obtain ⟨fa, ra, _⟩ := k1 _ _ _ T2 TV2 _ _ hT2 C2 ha
            obtain ⟨fb, rb, _⟩ := k2 _ _ _ [] [] _ _ rfl C2 hb
            refine hs (T := T2 ++ T) (TV := TV2 ++ TV) hz (by simp [hT, hT2]) ?_ (g1.trans g2) ra rb
            rw [List.append_assoc, List.append_assoc]
            exact C2
          · cases e
        · cases e
      · cases e
    · cases e
  · cases e
theorem m2_split {o1 o2 : Opd} {f : D → D → Option D} {p : D → Bool} {st : S} {d : D} {st' : S} (e : m2 o1 o2 f st = some (d, st')) : m2 o1 o2 (fun a b => match p a with | true => f a b | false => none) st = some (d, st') ∨ m2 o1 o2 (fun a b => match p a with | true => none | false => f a b) st = some (d, st') := by
  unfold m2 at e ⊢
  split at e
  · rename_i r1 s1 h1
    split at e
    · rename_i r2 s2 h2
      split at e
      · rename_i a ha
        split at e
        · rename_i b hb
          split at e
          · rename_i z hz
            cases e
            cases q : p a
            · right; simp [q, hz, h1, h2, ha, hb]
            · left; simp [q, hz, h1, h2, ha, hb]
          · cases e
        · cases e
      · cases e
    · cases e
  · cases e
theorem se_ix {a b : Expr} {o1 o2 : Opd} {pos : Pos} (ha : SO Γ Φ a o1) (hb : SO Γ Φ b o2) (hs : PlainIx b := by intro _ _; rfl) (hs2 : NoSl b := by intro _ _; rfl) : SE Γ Φ (.Subscript a b pos) (m2 o1 o2 ixF) := fun X o =>
  pe_imp (pe_or (pe_ix (ix_list.or ix_tup) (ha X o) (hb X o) hs) (pe_dget (by have := o.hu; omega) (ha X o) (hb X o) hs2)) fun σ H Q q => by
    obtain ⟨Fz, fp, st, C, d, st', e, k⟩ := q
    rcases m2_split (p := isDic) e with e | e
    · right
      refine two' C e fun {T TV Fz2 H2 fp2 a b x y fa fb} ef hT C2 g2 ra rb => ?_
      cases hd : isDic a <;> simp [hd, ixF] at ef
      exact snd_ixK ef hT C2 g2 ra rb k
    · left
      refine two' C e fun {T TV Fz2 H2 fp2 a b x y fa fb} ef hT C2 g2 ra rb => ?_
      cases hd : isDic a <;> simp [hd, ixF] at ef
      exact snd_ixS ef hT C2 g2 ra rb k
end
end Va
namespace Va
open PySem PySem.Spec PyProof.Rows L2
def cutD (xs : List D) (lo hi : Option Int) : List D := (xs.drop (HT.sIx xs.length 0 lo)).take (HT.sIx xs.length xs.length hi - HT.sIx xs.length 0 lo)
def slF (lo hi : Option Int) : D → Option D
  | .tup xs => some (.tup (cutD xs lo hi))
  | .rol xs => some (.lst true (cutD xs lo hi))
  | .lst _ xs => match xs.all imm with
    | true => some (.lst true (cutD xs lo hi))
    | false => none
  | _ => none
/-- a part of a slice -/
def mPart (m : Option (M D)) : M (Option Int) := fun st => match m with
  | none => some (none, st)
  | some m => match m st with
    | some (.int i, s) => some (some i, s)
    | _ => none
def mSl (o1 : Opd) (lo hi : Option (M D)) : M D := fun st => match o1.run st with
  | some (r1, s1) => match mPart lo s1 with
    | some (l, s2) => match mPart hi s2 with
      | some (h, s3) => match o1.val r1 s3 with
        | some a => match slF l h a with
          | some z => some (z, s3)
          | none => none
        | none => none
      | none => none
    | none => none
  | none => none
def rdP (K : PySem.W.Frag) : Option (M D) → TO
  | none => tNoPart
  | some m => tPart (rd K m)
def SP (Γ : Gam) (Φ : GCx → Prop) (e : Option Expr) (m : Option (M D)) : Prop := ∀ X, On Γ Φ X → PO X e (rdP X.K m)
section
variable {K : PySem.W.Frag} {Fz : Addr → Prop} {H : Hp} {st st' P : S} {σ PV : List (Option V)} {fp : List Addr}
theorem rdP.run {m : Option (M D)} {l : Option Int} {Q : Option Int → Hp → Prop} (C : Cfg K Fz H (P ++ st) (PV ++ σ) fp) (hl : P.length = PV.length) (hm : mPart m st = some (l, st'))
    (k : ∀ H' Fz' fp', Cfg K Fz' H' (P ++ st') (PV ++ σ) fp' → Go Fz H fp Fz' H' fp' → Q l H') : rdP K m σ H Q := by
  unfold mPart at hm
  split at hm
  · cases hm
    exact k H Fz fp C .refl
  · rename_i m
    split at hm
    · rename_i i s e
      cases hm
      refine rd.run C hl e fun v H' Fz' fp' C' g => ?_
      obtain ⟨v', f, e', r, _⟩ := C'.head
      cases e'
      obtain ⟨f2, C2, h2⟩ := C'.drop
      exact ⟨i, r.inti, k H' Fz' f2 C2 (g.sub h2)⟩
    · cases hm
theorem RepL.cut {xs vs} (r : RepL K Fz H xs vs []) (lo hi : Option Int) : RepL K Fz H (cutD xs lo hi) (cutV vs lo hi) [] := by
  unfold cutD cutV
  rw [← r.length]
  exact RepL.take0 _ (RepL.drop0 _ r)
end
section
variable {Γ : Gam} {Φ : GCx → Prop}
theorem sp_none : SP Γ Φ none none := fun _ _ => po_none
theorem sp_some {e : Expr} {m : M D} (h : SE Γ Φ e m) : SP Γ Φ (some e) (some m) := fun X o => po_some (h X o)
theorem cut_whole {xs : List D} {lo hi : Option Int} (h : HT.sIx xs.length 0 lo = 0 ∧ HT.sIx xs.length xs.length hi = xs.length) : cutD xs lo hi = xs := by
  unfold cutD
  rw [h.1, h.2]
  simp
theorem se_sl {e : Expr} {lo hi : Option Expr} {o1 : Opd} {ml mh : Option (M D)} {pos p2 : Pos} (he : SO Γ Φ e o1) (hl : SP Γ Φ lo ml) (hh : SP Γ Φ hi mh) : SE Γ Φ (.Subscript e (.Slice lo hi none p2) pos) (mSl o1 ml mh) := fun X o =>
  pe_imp (pe_slice (sl_tupZ.or sl_list) (he X o) (hl X o) (hh X o)) fun σ H Q q => by
    obtain ⟨Fz, fp, st, C, d, st', e, k⟩ := q
    unfold mSl at e
    split at e
    · rename_i r1 s1 h1
      split at e
      · rename_i l s2 h2
        split at e
        · rename_i hh s3 h3
          split at e
          · rename_i a ha
            split at e
            · rename_i z hz
              cases e
              refine rdO.run (P := []) (PV := []) C rfl h1 fun v H1 Fz1 fp1 T TV hT C1 g1 k1 => ?_
              refine rdP.run (P := T) (PV := TV) C1 hT h2 fun H2 Fz2 fp2 C2 g2 => ?_
              refine rdP.run (P := T) (PV := TV) C2 hT h3 fun H3 Fz3 fp3 C3 g3 => ?_
              obtain ⟨fa, ra, _⟩ := k1 _ _ _ [] [] _ _ rfl C3 ha
              have g := (g1.trans g2).trans g3
              unfold slF at hz
              split at hz
              · rename_i xs
                cases hz
                obtain ⟨p, vs, rfl, hp, r⟩ := ra.tupl
                refine .inl ⟨p, vs, rfl, .inl hp, fun hw => ?_, fun _ => fin_tup k hT C3 g (r.cut l hh)⟩
                rw [← r.length] at hw
                rw [cut_whole hw] at k
                exact fin_atom k hT C3 g ra.fz0
              · cases hz
                cases ra with
                | rol q r => exact .inr ⟨_, _, rfl, q.sq, fin_lst k hT C3 g (r.cut l hh)⟩
              · split at hz
                · rename_i hi
                  cases hz
                  obtain ⟨p, vs, f', rfl, hp, r, _⟩ := ra.lst
                  have := r.imm hi
                  subst this
                  exact .inr ⟨p, vs, rfl, .inl (.inl hp), fin_lst k hT C3 g (r.cut l hh)⟩
                · cases hz
              · cases hz
            · cases e
          · cases e
        · cases e
      · cases e
    · cases e
inductive Ty where
  | int | bool | str | tuple | list | dict
  deriving DecidableEq
def Ty.name : Ty → String
  | .int => "int" | .bool => "bool" | .str => "str" | .tuple => "tuple" | .list => "list" | .dict => "dict"
def tyName : D → String
  | .non => "NoneType" | .bl _ => "bool" | .int _ => "int" | .str _ => "str" | .tup _ => "tuple" | .rol _ => "list" | .lst _ _ => "list" | .dic _ _ => "dict" | .nd _ _ => "dict" | .ld _ => "dict"
def isOne (T : Ty) : D → Bool
  | .non => false
  | .bl _ => T = .bool ∨ T = .int
  | .int _ => T = .int
  | .str _ => T = .str
  | .tup _ => T = .tuple
  | .rol _ => T = .list
  | .lst _ _ => T = .list
  | .dic _ _ => T = .dict
  | .nd _ _ => T = .dict
  | .ld _ => T = .dict
theorem kit_non : ∀ T : Ty, kitB "NoneType" T.name = some false := by intro T; cases T <;> decide +kernel
theorem kit_bool : ∀ T : Ty, kitB "bool" T.name = some (decide (T = .bool ∨ T = .int)) := by intro T; cases T <;> decide +kernel
theorem kit_int : ∀ T : Ty, kitB "int" T.name = some (decide (T = .int)) := by intro T; cases T <;> decide +kernel
theorem kit_str : ∀ T : Ty, kitB "str" T.name = some (decide (T = .str)) := by intro T; cases T <;> decide +kernel
theorem kit_tup : ∀ T : Ty, kitB "tuple" T.name = some (decide (T = .tuple)) := by intro T; cases T <;> decide +kernel
theorem kit_lst : ∀ T : Ty, kitB "list" T.name = some (decide (T = .list)) := by intro T; cases T <;> decide +kernel
theorem kit_dic : ∀ T : Ty, kitB "dict" T.name = some (decide (T = .dict)) := by intro T; cases T <;> decide +kernel
theorem isOne_kit {K : PySem.W.Frag} (T : Ty) (d : D) : PySem.W.kitOne K (.type (tyName d)) (.type T.name) = some (isOne T d) := by
  apply kit_ty
  cases d
  · exact kit_non T
  · exact kit_bool T
  · exact kit_int T
  · exact kit_str T
  · exact kit_tup T
  · exact kit_lst T
  · exact kit_lst T
  · exact kit_dic T
  · exact kit_dic T
  · exact kit_dic T
def isNd : D → Bool
  | .nd _ _ => true
  | .ld _ => true
  | _ => false
theorem Rep.ty {K : PySem.W.Frag} {Fz : Addr → Prop} {H : Hp} {d v f} (r : Rep K Fz H d v f) (hn : isNd d = false) : TyX K H v (.type (tyName d)) := by
  cases r with
  | non => exact .base .non
  | bl b => exact .base (.bl b)
  | int i => exact .base (.int i)
  | str x => exact .base (.str x)
  | tup q z r => obtain ⟨o, q, _⟩ := q; exact .fTuple q
  | rol q r =>
    rcases q with ⟨q | ⟨o, q⟩, _⟩ | ⟨o, its, n, hk, hc, _⟩
    · exact .base (.lst q)
    · exact .base (.frz q)
    · exact .kList hk hc
  | lstF q z r => exact .base (.lst q)
  | lstO q r => exact .base (.lst q)
  | dicF q z r => exact .base (.dK q)
  | dicO q r => exact .base (.dK q)
  | ndF q z r => cases hn
  | ndO q r => cases hn
  | ldF q z r => cases hn
def isiF (T : Ty) : D → Option D
  | .nd _ _ => none
  | .ld _ => none
  | d => some (.bl (isOne T d))
theorem isiF_is {T : Ty} {d z : D} (h : isiF T d = some z) : isNd d = false ∧ z = .bl (isOne T d) := by
  cases d <;> simp only [isiF, Option.some.injEq, reduceCtorEq] at h <;> exact ⟨rfl, h.symm⟩
theorem Ty.boot : ∀ T : Ty, bootBuiltins (Str.ofString T.name) = some (.type T.name) := by
  intro T
  cases T <;> decide +kernel
theorem se_isi {T : Ty} {x : Str} {e : Expr} {o1 : Opd} {p p1 pos : Pos} (he : SO Γ Φ e o1) (hx : x = Str.ofString T.name) (hb : ∀ g, Φ g → g.mg "isinstance" = none) (hb2 : ∀ g, Φ g → g.mg x = none) (hg : gGl Γ.sc "isinstance" = true := by rfl) (hg2 : gGl Γ.sc x = true := by rfl) (ns : NoStar e := by intro _ _; rfl)
    (hn : x ≠ "__name__" := by decide) (hd : (x == ("__debug__" : Str)) = false := by decide) : SE Γ Φ (.Call (.Name "isinstance" p) [e, .Name x p1] [] pos) (m1 o1 (isiF T)) := fun X o => by
  subst hx
  refine pe_imp (pe_callB call_isi (o.gl hg) (hb _ o.phi) PyProof.Rows.boot_isinstance (pa_cons (he X o) (pa_cons (pe_bltn (v := .ty T.name) (o.gl hg2) (hb2 _ o.phi) T.boot rfl hn hd) pa_nil) (ns _ _)) (by decide) (by decide) (ns _ _)) fun σ H Q q => ?_
  refine one (r := fun x H Q => rIsi X.K [x, .ty T.name] H Q) ?_ q
  intro Fz H fp σ s T' TV Fz2 H2 fp2 a x fa z Q e hl C g ra k
  obtain ⟨en, rfl⟩ := isiF_is e
  exact ⟨x, _, _, _, _, rfl, .ty _, ra.ty en, isOne_kit T a, fin_atom k hl C g (.bl _)⟩
end
section
variable {Γ : Gam} {Φ : GCx → Prop}
theorem two3 {K : PySem.W.Frag} {a b c : Opd} {op op' : CmpOp} {r r' : R2} (h : R2Snd K r (cmpF op)) (h' : R2Snd K r' (cmpF op')) {σ H Q} (q : rd K (mChain op op' a b c) σ H Q) : tChain r r' (rdO K a) (rdO K b) (rdO K c) σ H Q := by
  obtain ⟨Fz, fp, st, C, d', st', e, k⟩ := q
  unfold mChain at e
  split at e
  · rename_i r1 s1 h1
    split at e
    · rename_i r2 s2 h2
      split at e
      · rename_i x y hx hy
        have go : ∀ w, cmpF op x y = some w → (∀ {T TV Fz2 H2 fp2 u}, T.length = TV.length → Cfg K Fz2 H2 (T ++ s2) (TV ++ σ) fp2 → Go Fz H fp Fz2 H2 fp2 → (∀ Fz3 H3 f3 P2 P2V s3 d, P2.length = P2V.length → Cfg K Fz3 H3 (P2 ++ (T ++ s3)) (P2V ++ (TV ++ σ)) f3 → b.val r2 s3 = some d → ∃ f, Rep K Fz3 H3 d u f ∧ ∀ a ∈ f, a ∈ f3) →
            ∀ z H3, (∃ f3 Fz3, Cfg K Fz3 H3 (some w :: (T ++ s2)) (some z :: (TV ++ σ)) f3 ∧ Go Fz H fp Fz3 H3 f3) → ∃ kk, z = .bl kk ∧ if kk = true then rdO K c σ H3 fun w' H4 => r' u w' H4 Q else Q (.bl false) H3) → tChain r r' (rdO K a) (rdO K b) (rdO K c) σ H Q := fun w hw hk => by
          refine rdO.run (P := []) (PV := []) C rfl h1 fun v H1 Fz1 fp1 T TV hT C1 g1 k1 => ?_
          refine rdO.run (P := T) (PV := TV) C1 hT h2 fun u H2 Fz2 fp2 T2 TV2 hT2 C2 g2 k2 => ?_
          obtain ⟨fa, ra, _⟩ := k1 _ _ _ T2 TV2 _ _ hT2 C2 hx
          obtain ⟨fb, rb, _⟩ := k2 _ _ _ [] [] _ _ rfl C2 hy
          have C2' : Cfg K Fz2 H2 ([] ++ (T2 ++ (T ++ s2))) ([] ++ (TV2 ++ (TV ++ σ))) fp2 := C2
          refine h (Fz := Fz2) (H := H2) (fp := fp2) (σ := TV2 ++ (TV ++ σ)) (s := T2 ++ (T ++ s2)) (T := []) (TV := []) hw rfl C2' .refl ra rb fun z H3 Fz3 f3 C3 g3 => ?_
          refine hk (T := T2 ++ T) (TV := TV2 ++ TV) (by simp [hT, hT2]) (by simpa using C2) (g1.trans g2) (fun Fz3 H3 f3 P2 P2V s3 d hp C3 e3 => ?_) z H3 ⟨f3, Fz3, by simpa using C3, (g1.trans g2).trans g3⟩
          exact k2 _ _ _ P2 P2V _ _ hp (by simpa using C3) e3
        split at e
        · rename_i hw
          cases e
          refine go _ hw fun {T TV Fz2 H2 fp2 u} hT C2 g2 k2 z H3 ⟨f3, Fz3, C3, g3⟩ => ?_
          obtain ⟨v', f, e', rv, _⟩ := C3.head
          cases e'
          refine ⟨false, rv.bli, iteF ?_⟩
          obtain ⟨f4, C4, h4⟩ := C3.drop
          exact fin_atom k hT C4 (g3.sub h4) (.bl _)
        · rename_i hw
          split at e
          · rename_i r3 s3 h3
            split at e
            · rename_i y' z' hy' hz'
              split at e
              · rename_i w hw'
                cases e
                refine go _ hw fun {T TV Fz2 H2 fp2 u} hT C2 g2 k2 z H3 ⟨f3, Fz3, C3, g3⟩ => ?_
                obtain ⟨v', f, e', rv, _⟩ := C3.head
                cases e'
                refine ⟨true, rv.bli, iteT ?_⟩
                obtain ⟨f4, C4, h4⟩ := C3.drop
                refine rdO.run (P := T) (PV := TV) C4 hT h3 fun v4 H4 Fz4 fp4 T4 TV4 hT4 C5 g5 k5 => ?_
                obtain ⟨fb, rb, _⟩ := k2 _ _ _ T4 TV4 _ _ hT4 C5 hy'
                obtain ⟨fc, rc, _⟩ := k5 _ _ _ [] [] _ _ rfl C5 hz'
                refine h' (T := T4 ++ T) (TV := TV4 ++ TV) hw' (by simp [hT, hT4]) (by simpa using C5) ((g3.sub h4).trans g5) rb rc k
              · cases e
            · cases e
          · cases e
        · cases e
      · cases e
    · cases e
  · cases e
theorem se_chain {a b c : Expr} {o1 o2 o3 : Opd} {op op' : CmpOp} {pos : Pos} (ha : SO Γ Φ a o1) (hb : SO Γ Φ b o2) (hc : SO Γ Φ c o3) (hm : lastMarks [op, op'] [b, c] = false := by with_unfolding_all rfl) : SE Γ Φ (.Compare a [op, op'] [b, c] pos) (mChain op op' o1 o2 o3) := fun X o => by
  obtain ⟨r, h1, h2⟩ := cmp_all o.hu op
  obtain ⟨r', h1', h2'⟩ := cmp_all o.hu op'
  exact pe_imp (pe_chain h1 h1' (ha X o) (hb X o) (hc X o) hm) fun σ H Q q => two3 h2 h2' q
end
end Va
namespace Va
open PySem PySem.Spec PyProof.Rows L2
def envS (sc : Scope) : Env := { scope := sc, locals := 0, globals := 0, cells := [] }
theorem sws_scope {ts : List Expr} {v : Expr} {env env' : Env} (h : env.scope = env'.scope) : swappedStores ts v env = swappedStores ts v env' := by
  have h1 : env.blockKind = env'.blockKind := by unfold Env.blockKind; rw [h]
  have h2 : env.kindOf = env'.kindOf := by funext x; unfold Env.kindOf; rw [h]
  unfold swappedStores
  rw [h1, h2]
theorem swp_scope {v : Expr} {t : Option Expr} {l : Nat} {env env' : Env} (h : env.scope = env'.scope) : swapsWith v t l env = swapsWith v t l env' := by
  have h1 : env.blockKind = env'.blockKind := by unfold Env.blockKind; rw [h]
  have h2 : env.kindOf = env'.kindOf := by funext x; unfold Env.kindOf; rw [h]
  unfold swapsWith
  rw [h1, h2, h]
def mTake (i : Nat) : M D := fun st => match st[i]? with
  | some (some d) => match imm d with
    | true => some (d, st)
    | false => some (d, st.set i none)
  | _ => none
section
variable {K : PySem.W.Frag} {Fz : Addr → Prop} {H : Hp} {st st' P : S} {σ PV : List (Option V)} {fp : List Addr}
theorem set_same {i : Nat} {v : Option V} (h : σ[i]? = some v) : σ.set i v = σ := by
  apply List.ext_getElem?
  intro j
  rw [List.getElem?_set]
  split
  · rename_i e; subst e
    split
    · exact h.symm
    · rename_i h2; rw [List.getElem?_eq_none (by omega)] at h; cases h
  · rfl
/-- a slot's datum is moved to the front -/
theorem Cfg.take {i : Nat} {d : D} {st' : S} (C : Cfg K Fz H st σ fp) (h : mTake i st = some (d, st')) : ∃ v fp', σ[i]? = some (some v) ∧ Cfg K Fz H (some d :: st') (some v :: σ) fp' ∧ ∀ a ∈ fp', a ∈ fp := by
  unfold mTake at h
  split at h
  · rename_i d' hd
    split at h
    · rename_i hi
      cases h
      obtain ⟨v, f, e, r, _⟩ := C.get hd
      have := r.imm hi
      subst this
      exact ⟨v, fp, e, C.atom r, fun _ h => h⟩
    · cases h
      obtain ⟨y, f, g, ey, ro, p, put⟩ := C.rep.at hd
      cases ro with
      | @som _ v _ r =>
        obtain ⟨fp', R, p'⟩ := put (Fz' := Fz) (H' := H) (fun {e w kk} _ ro => ro) (x' := none) (y' := some v) .skip
        rw [set_same ey] at R
        refine ⟨v, f ++ fp', ey, C.perm (.cons (.som r) R) ?_, fun a h => ?_⟩
        · exact ((p'.append_left f).trans (by simpa using List.Perm.refl _)).trans p.symm
        · exact p.mem_iff.mpr ((p'.append_left f).mem_iff.mp h)
  · cases h
/-- a temporary goes into its slot -/
theorem Cfg.putback {x : Option D} {v : V} {i : Nat} (hl : P.length = PV.length) (C : Cfg K Fz H (x :: (P ++ st)) (some v :: (PV ++ σ)) fp) (h : σ[i]? = some (some v)) : ∃ fp', Cfg K Fz H (P ++ st.set i x) (PV ++ σ) fp' ∧ ∀ a ∈ fp', a ∈ fp := by
  obtain ⟨R, nd, fz, ft⟩ := C
  cases R with
  | @cons _ _ f g _ _ rx s =>
    have hlen := s.length
    have hi : i < st.length := by
      have := (List.getElem?_eq_some_iff.mp h).1
      simp only [List.length_append] at hlen
      omega
    have e1 : (P ++ st)[P.length + i]? = some (st[i]) := by
      rw [List.getElem?_append_right (by omega)]
      simp [hi]
    obtain ⟨y, f1, g1, ey, ro, p, put⟩ := s.at e1
    have ey' : y = some v := by
      have : (PV ++ σ)[P.length + i]? = some (some v) := by
        rw [hl, List.getElem?_append_right (by omega)]
        simpa using h
      rw [this] at ey
      exact (Option.some.inj ey).symm
    subst ey'
    obtain ⟨fp', R, p'⟩ := put (Fz' := Fz) (H' := H) (fun {e w kk} _ ro => ro) rx
    rw [set_same ey] at R
    have e2 : (P ++ st).set (P.length + i) x = P ++ st.set i x := by
      rw [List.set_append_right _ _ (by omega)]
      simp
    rw [e2] at R
    have nd1 : (f ++ (f1 ++ g1)).Nodup := (p.append_left f).nodup_iff.mp nd
    have sub : ∀ a ∈ fp', a ∈ f ++ g := fun a h => by
      rcases List.mem_append.mp (p'.mem_iff.mp h) with q | q
      · exact List.mem_append_left _ q
      · exact List.mem_append_right _ (p.mem_iff.mpr (List.mem_append_right _ q))
    refine ⟨fp', ⟨R, p'.nodup_iff.mpr ?_, fun a h => fz a (sub a h), ft⟩, sub⟩
    have := List.nodup_append.mp nd1
    have n2 := List.nodup_append.mp this.2.1
    exact List.nodup_append.mpr ⟨this.1, n2.2.1, fun a ha b hb => this.2.2 a ha b (List.mem_append_right _ hb)⟩
end
/-- which arguments are names -/
abbrev Back := List (Option Nat)
def Links (b : List (Option Nat)) (vs : List V) (σ : List (Option V)) : Prop := ∀ (j i : Nat), b[j]? = some (some i) → ∃ v, σ[i]? = some (some v) ∧ vs[j]? = some v
def rdL (K : PySem.W.Frag) (m : M (List D)) (b : Back) : TA := fun σ H Q => ∃ Fz fp st, Cfg K Fz H st σ fp ∧ ∃ ds st', m st = some (ds, st') ∧
  ∀ vs H' Fz' fp', vs.length = ds.length → ds.length = b.length → Links b vs σ → Cfg K Fz' H' (ds.map some ++ st') (vs.map some ++ σ) fp' → Go Fz H fp Fz' H' fp' → Q vs H'
def SL (Γ : Gam) (Φ : GCx → Prop) (es : List Expr) (m : M (List D)) (b : Back) : Prop := ∀ X, On Γ Φ X → PA X es (rdL X.K m b)
section
variable {Γ : Gam} {Φ : GCx → Prop}
theorem sl_nil : SL Γ Φ [] mNil [] := fun X o => pa_imp pa_nil fun σ H Q q => by
  obtain ⟨Fz, fp, st, C, ds, st', e, k⟩ := q
  cases e
  exact k [] H Fz fp rfl rfl (fun j i h => by simp at h) C .refl
theorem rdL_run {K : PySem.W.Frag} {Fz : Addr → Prop} {H : Hp} {st st' P : S} {σ PV : List (Option V)} {fp : List Addr} {m : M (List D)} {b : Back} {ds : List D} {Q : List V → Hp → Prop} (C : Cfg K Fz H (P ++ st) (PV ++ σ) fp) (hl : P.length = PV.length) (hm : m st = some (ds, st'))
    (k : ∀ vs H' Fz' fp', vs.length = ds.length → ds.length = b.length → Links b vs σ → Cfg K Fz' H' (ds.map some ++ (P ++ st')) (vs.map some ++ (PV ++ σ)) fp' → Go Fz H fp Fz' H' fp' → Q vs H') : rdL K m b σ H Q := by
  obtain ⟨fP, f, C0, fr⟩ := C.frame hl
  refine ⟨Fz, f, st, C0, ds, st', hm, fun vs H' Fz' fp' hv hb hL C' g => ?_⟩
  obtain ⟨fp2, C2, g2, e⟩ := fr C' g
  obtain ⟨fp3, C3, p⟩ := Cfg.rot hl (by simp [hv]) C2
  exact k vs H' Fz' fp3 hv hb hL C3 (g2.sub fun a h => p.mem_iff.mp h)
theorem Links.cons {b : Back} {vs : List V} {σ : List (Option V)} {v : V} {o : Option Nat} (h : Links b vs σ) (ho : ∀ i, o = some i → σ[i]? = some (some v)) : Links (o :: b) (v :: vs) σ := fun j i e => by
  cases j with
  | zero => simp at e; exact ⟨v, ho i e, rfl⟩
  | succ j => obtain ⟨w, h1, h2⟩ := h j i (by simpa using e); exact ⟨w, h1, by simpa using h2⟩
theorem sl_e {e : Expr} {es : List Expr} {m : M D} {r : M (List D)} {b : Back} (h : SE Γ Φ e m) (hr : SL Γ Φ es r b) (ns : NoStar e := by intro _ _; rfl) : SL Γ Φ (e :: es) (mCons m r) (none :: b) := fun X o => pa_imp (pa_cons (h X o) (hr X o) (ns _ _)) fun σ H Q q => by
  obtain ⟨Fz, fp, st, C, ds, st', e, k⟩ := q
  unfold mCons at e
  split at e
  · rename_i d s hm
    split at e
    · rename_i ds' s' hr
      cases e
      refine ⟨Fz, fp, st, C, _, _, hm, fun v H1 Fz1 fp1 C1 g1 => ?_⟩
      refine rdL_run (P := [some d]) (PV := [some v]) C1 rfl hr fun vs H2 Fz2 fp2 hl hb hL C2 g2 => ?_
      obtain ⟨f3, C3, p3⟩ := C2.float (x := some d) (y := some v) (P := ds'.map some) (PV := vs.map some) (by simp [hl])
      exact k (v :: vs) H2 Fz2 f3 (by simp [hl]) (by simp [hb]) (Links.cons (fun j i h => hL j i h) fun i h => nomatch h) C3 ((g1.trans g2).sub fun a h => p3.mem_iff.mp h)
    · cases e
  · cases e
theorem sl_v (i : Nat) {x : Str} {pos : Pos} {es : List Expr} {r : M (List D)} {b : Back} (hr : SL Γ Φ es r b) (hN : Γ.N[i]? = some x := by rfl) (hv : gVis Γ.sc x = true := by rfl) (hd : (x == ("__debug__" : Str)) = false := by decide) (hcd : (x == ("__classdict__" : Str)) = false := by decide) :
    SL Γ Φ (.Name x pos :: es) (mCons (mTake i) r) (some i :: b) := fun X o => pa_imp (pa_cons (pe_var (o.slot hN) (o.vis hv) hd hcd) (hr X o) (by rfl)) fun σ H Q q => by
  obtain ⟨Fz, fp, st, C, ds, st', e, k⟩ := q
  unfold mCons at e
  split at e
  · rename_i d s hm
    split at e
    · rename_i ds' s' hr
      cases e
      obtain ⟨v, f1, ev, C1, h1⟩ := C.take hm
      refine ⟨v, ev, ?_⟩
      refine rdL_run (P := [some d]) (PV := [some v]) C1 rfl hr fun vs H2 Fz2 fp2 hl hb hL C2 g2 => ?_
      obtain ⟨f3, C3, p3⟩ := C2.float (x := some d) (y := some v) (P := ds'.map some) (PV := vs.map some) (by simp [hl])
      exact k (v :: vs) H2 Fz2 f3 (by simp [hl]) (by simp [hb]) (Links.cons (fun j i h => hL j i h) fun i' h => by cases h; exact ev) C3 ((g2.frame h1 fun a h => .inl h).sub fun a h => p3.mem_iff.mp h)
    · cases e
  · cases e
end
/-- what a def computes: its value, and what its parameters hold at the end (where that is told) -/
abbrev Fn := List D → Option (D × List (Option D))
def spF (K : PySem.W.Frag) (n : Nat) (φ : Fn) : Sp := fun vs H Q _ => ∃ Fz fp ds, ds.length = n ∧ vs.length = n ∧ Cfg K Fz H (ds.map some) (vs.map some) fp ∧ ∃ d outs, φ ds = some (d, outs) ∧ outs.length = n ∧
  ∀ v H' Fz' fp', Cfg K Fz' H' (some d :: outs) (some v :: vs.map some) fp' → Go Fz H fp Fz' H' fp' → Q v H'
/-- a def may be called -/
structure CallOk (g : GCx) (x : Str) (n : Nat) (φ : Fn) : Prop where
  len : ∀ (ds : List D) (d : D) (outs : List (Option D)), φ ds = some (d, outs) → outs.length = n
  ex : ∃ (f : Addr) (fd : FuncData) (ps : List Str) (k : Nat), FnOk g.prog g.w g.K g.mg g.base CX0 k f fd ps (spF g.K n φ) ∧ Room k g.A ∧ g.mg x = some (.ref f) ∧ PySem.W.keepIn g.K (.ref f) = true ∧ Binds g.K fd ps []
def restore : Back → List D → List (Option D) → S → S
  | some i :: b, d :: ds, o :: outs, s => match imm d with
    | true => restore b ds outs s
    | false => restore b ds outs (s.set i o)
  | none :: b, _ :: ds, _ :: outs, s => restore b ds outs s
  | _, _, _, s => s
def mCall (φ : Fn) (m : M (List D)) (b : Back) : M D := fun st => match m st with
  | some (ds, s) => match φ ds with
    | some (d, outs) => some (d, restore b ds outs s)
    | none => none
  | none => none
theorem restore_cfg {K : PySem.W.Frag} {Fz : Addr → Prop} {H : Hp} {σ : List (Option V)} {d : D} {v : V} : ∀ {b : Back} {ds : List D} {outs : List (Option D)} {vs : List V} {s : S} {fp}, vs.length = outs.length → ds.length = outs.length → b.length = outs.length → Links b vs σ → Cfg K Fz H (some d :: (outs ++ s)) (some v :: (vs.map some ++ σ)) fp →
    ∃ fp', Cfg K Fz H (some d :: restore b ds outs s) (some v :: σ) fp' ∧ ∀ a ∈ fp', a ∈ fp
  | [], ds, [], [], s, fp, _, _, _, _, C => ⟨fp, by
      have : restore [] ds [] s = s := by cases ds <;> rfl
      rw [this]; exact C, fun _ h => h⟩
  | _ :: _, [], outs, vs, s, fp, _, h2, h3, _, C => by simp at h2 h3; omega
  | none :: b, _ :: ds, x :: outs, w :: vs, s, fp, h1, h2, h3, hL, C => by
    obtain ⟨f1, C1, p1⟩ := Cfg.float (P := [some d]) (PV := [some v]) rfl C
    obtain ⟨f2, C2, q2⟩ := C1.drop
    obtain ⟨f3, C3, q3⟩ := restore_cfg (b := b) (ds := ds) (outs := outs) (vs := vs) (by simpa using h1) (by simpa using h2) (by simpa using h3) (fun j i e => by obtain ⟨w, a, b⟩ := hL (j + 1) i (by simpa using e); exact ⟨w, a, by simpa using b⟩) C2
    exact ⟨f3, C3, fun a h => p1.mem_iff.mp (q2 a (q3 a h))⟩
  | some i :: b, e :: ds, x :: outs, w :: vs, s, fp, h1, h2, h3, hL, C => by
    have hL' : Links b vs σ := fun j i e => by obtain ⟨w, a, b⟩ := hL (j + 1) i (by simpa using e); exact ⟨w, a, by simpa using b⟩
    obtain ⟨w', hw, hw2⟩ := hL 0 i rfl
    have : w' = w := by simpa using hw2.symm
    subst this
    obtain ⟨f1, C1, p1⟩ := Cfg.float (P := [some d]) (PV := [some v]) rfl C
    unfold restore
    split
    · obtain ⟨f2, C2, q2⟩ := C1.drop
      obtain ⟨f3, C3, q3⟩ := restore_cfg (b := b) (ds := ds) (outs := outs) (vs := vs) (by simpa using h1) (by simpa using h2) (by simpa using h3) hL' C2
      exact ⟨f3, C3, fun a h => p1.mem_iff.mp (q2 a (q3 a h))⟩
    · obtain ⟨f2, C2, q2⟩ := Cfg.putback (P := some d :: outs) (PV := some v :: vs.map some) (st := s) (σ := σ) (by simpa using h1.symm) C1 hw
      obtain ⟨f3, C3, q3⟩ := restore_cfg (b := b) (ds := ds) (outs := outs) (vs := vs) (by simpa using h1) (by simpa using h2) (by simpa using h3) hL' C2
      exact ⟨f3, C3, fun a h => p1.mem_iff.mp (q2 a (q3 a h))⟩
section
variable {Γ : Gam} {Φ : GCx → Prop}
/-- f(..) -/
theorem se_call {x : Str} {n : Nat} {φ : Fn} {e : Expr} {es : List Expr} {m : M (List D)} {b : Back} {p pos : Pos} (hc : ∀ g, Φ g → CallOk g x n φ) (ha : SL Γ Φ (e :: es) m b) (hn : b.length = n := by rfl) (hg : gGl Γ.sc x = true := by rfl) (hd : (x == ("__debug__" : Str)) = false := by decide)
    (ns : NoStar e := by intro _ _; rfl) (hpl : ∀ env : Env, (backTo pos (starEach es env)).any (·.1) = false := by intro _; rfl) : SE Γ Φ (.Call (.Name x p) (e :: es) [] pos) (mCall φ m b) := fun X o => by
  obtain ⟨f, fd, ps, k, F, hr, hm, hk, hb⟩ := (hc _ o.phi).ex
  have hlen := (hc _ o.phi).len
  refine pe_imp (pe_call F hr (o.gl hg) hm hk hb .nil pass0 (ha X o) hd (ns _ _) (hpl _)) fun σ H Q q => ?_
  obtain ⟨Fz, fp, st, C, d, st', e, kk⟩ := q
  unfold mCall at e
  split at e
  · rename_i ds s hm
    split at e
    · rename_i d' outs hφ
      cases e
      refine ⟨Fz, fp, st, C, ds, s, hm, fun vs H1 Fz1 fp1 hl hbl hL C1 g1 => ?_⟩
      have C1' : Cfg X.K Fz1 H1 (ds.map some ++ (s ++ [])) (vs.map some ++ (σ ++ [])) fp1 := by simpa using C1
      have hsl : s.length = σ.length := by
        have := C1.rep.length
        simp [hl] at this
        exact this
      obtain ⟨f2, C2, p2⟩ := Cfg.rot (by simp [hl]) hsl C1'
      obtain ⟨fP, f, C0, fr⟩ := C2.frame hsl
      have ho := hlen _ _ _ hφ
      show spF X.K n φ (vs ++ []) H1 Q E0
      rw [List.append_nil]
      refine ⟨Fz1, f, ds, by omega, by omega, by simpa using C0, d, outs, hφ, ho, fun v H2 Fz2 fp2 C3 g3 => ?_⟩
      obtain ⟨f4, C4, g4, _⟩ := fr (by simpa using C3) (by simpa using g3)
      have C4' : Cfg X.K Fz2 H2 (s ++ ((some d :: outs) ++ [])) (σ ++ ((some v :: vs.map some) ++ [])) f4 := by simpa using C4
      obtain ⟨f5, C5, p5⟩ := Cfg.rot hsl (by simp; omega) C4'
      obtain ⟨f6, C6, q6⟩ := restore_cfg (b := b) (ds := ds) (outs := outs) (vs := vs) (s := s) (by omega) (by omega) (by omega) hL (by simpa using C5)
      refine kk v H2 Fz2 f6 C6 ((g1.trans (g4.frame (fun a h => p2.mem_iff.mp h) fun a h => .inl h)).sub fun a h => p5.mem_iff.mp (q6 a h))
    · cases e
  · cases e
end
end Va
namespace Va
open PySem PySem.Spec PyProof.Rows L2
inductive Fl where
  | nx | ret (d : D) | bk | ct
/-- what is wanted behind a statement, at its way out -/
def Out (K : PySem.W.Frag) (D' : Ends) (fl : Fl) (st' : S) (σ' : L2.St) (H' : Hp) (Fz' : Addr → Prop) (fp' : List Addr) : Prop := match fl with
  | .nx => Cfg K Fz' H' st' σ' fp' → D'.nx σ' H'
  | .bk => Cfg K Fz' H' st' σ' fp' → D'.bk σ' H'
  | .ct => Cfg K Fz' H' st' σ' fp' → D'.ct σ' H'
  | .ret d => ∀ v, Cfg K Fz' H' (some d :: st') (some v :: σ') fp' → D'.rt v H'
def rdS (K : PySem.W.Frag) (RO : Nat → Bool) (m : M Fl) : TS := fun D' σ H => ∃ Fz fp st, Cfg K Fz H st σ fp ∧ ∃ fl st', m st = some (fl, st') ∧
  ∀ σ' H' Fz' fp', (∀ i, RO i = true → σ'[i]? = σ[i]?) → Go Fz H fp Fz' H' fp' → Out K D' fl st' σ' H' Fz' fp'
/-- the frame's static part: which slots are not stored -/
def ST1 (Γ : Gam) (Φ : GCx → Prop) (RO : Nat → Bool) (st : Stmt) (m : M Fl) : Prop := ∀ X, On Γ Φ X → PassesOwn (model X.prog X.w) X.A X.env X.xe → PS X st (rdS X.K RO m)
def SS (Γ : Gam) (Φ : GCx → Prop) (RO : Nat → Bool) (st : List Stmt) (m : M Fl) : Prop := ∀ X, On Γ Φ X → PassesOwn (model X.prog X.w) X.A X.env X.xe → PSs X st (rdS X.K RO m)
theorem Out.mono {K : PySem.W.Frag} {D' D2 : Ends} {fl : Fl} {st' : S} {σ' : L2.St} {H' Fz' fp'} (h : Out K D' fl st' σ' H' Fz' fp') (h1 : ∀ σ H, fl = .nx → D'.nx σ H → D2.nx σ H) (h2 : D'.rt = D2.rt) (h3 : D'.bk = D2.bk) (h4 : D'.ct = D2.ct) : Out K D2 fl st' σ' H' Fz' fp' := by
  cases fl with
  | nx => exact fun C => h1 _ _ rfl (h C)
  | bk => exact fun C => by rw [← h3]; exact h C
  | ct => exact fun C => by rw [← h4]; exact h C
  | ret d => exact fun v C => by rw [← h2]; exact h v C
def mNx : M Fl := fun st => some (.nx, st)
def mSeq (a b : M Fl) : M Fl := fun st => match a st with
  | some (.nx, s) => b s
  | r => r
section
variable {Γ : Gam} {Φ : GCx → Prop} {RO : Nat → Bool}
theorem ss_nil : SS Γ Φ RO [] mNx := fun X o hp => pss_imp pss_nil fun D' σ H q => by
  obtain ⟨Fz, fp, st, C, fl, st', e, k⟩ := q
  cases e
  exact k σ H Fz fp (fun _ _ => rfl) .refl C
theorem ss_cons {st : Stmt} {sts : List Stmt} {a b : M Fl} (h : ST1 Γ Φ RO st a) (hr : SS Γ Φ RO sts b) : SS Γ Φ RO (st :: sts) (mSeq a b) := fun X o hp => pss_imp (pss_cons (h X o hp) (hr X o hp)) fun D' σ H q => by
  obtain ⟨Fz, fp, st, C, fl, st', e, k⟩ := q
  show rdS X.K RO a { D' with nx := rdS X.K RO b D' } σ H
  unfold mSeq at e
  split at e
  · rename_i s hm
    refine ⟨Fz, fp, st, C, .nx, s, hm, fun σ1 H1 Fz1 fp1 r1 g1 C1 => ?_⟩
    exact ⟨Fz1, fp1, s, C1, fl, st', e, fun σ2 H2 Fz2 fp2 r2 g2 => k σ2 H2 Fz2 fp2 (fun i hi => (r2 i hi).trans (r1 i hi)) (g1.trans g2)⟩
  · rename_i hne
    refine ⟨Fz, fp, st, C, fl, st', e, fun σ1 H1 Fz1 fp1 r1 g1 => ?_⟩
    exact (k σ1 H1 Fz1 fp1 r1 g1).mono (fun σ H hn => by subst hn; exact absurd e (hne st')) rfl rfl rfl
theorem ss_one {st : Stmt} {a : M Fl} (h : ST1 Γ Φ RO st a) : SS Γ Φ RO [st] a := fun X o hp => pss_one (h X o hp)
/-- a statement that is never come to -/
theorem s_no {st : Stmt} : ST1 Γ Φ RO st (fun _ => none) := fun X o hp => ⟨fun pins s σ H D' I q => by
  obtain ⟨Fz, fp, st, C, fl, st', e, k⟩ := q
  cases e⟩
def mDo (m : M D) : M Fl := fun st => match m st with
  | some (_, s) => some (.nx, s)
  | none => none
theorem s_expr {e : Expr} {m : M D} {pos : Pos} (h : SE Γ Φ e m) (hs : ∀ env : Env, swapsWith e none pos.line env = pure false := by intro _; rfl) : ST1 Γ Φ RO (.Expr e pos) (mDo m) := fun X o hp => ps_imp (ps_expr (h X o) (hs _)) fun D' σ H q => by
  obtain ⟨Fz, fp, st, C, fl, st', e, k⟩ := q
  unfold mDo at e
  split at e
  · rename_i d s hm
    cases e
    refine ⟨Fz, fp, st, C, _, _, hm, fun v H1 Fz1 fp1 C1 g1 => ?_⟩
    obtain ⟨f2, C2, h2⟩ := C1.drop
    exact k σ H1 Fz1 f2 (fun _ _ => rfl) (g1.sub h2) C2
  · cases e
def mRet (m : M D) : M Fl := fun st => match m st with
  | some (d, s) => some (.ret d, s)
  | none => none
theorem s_ret {e : Expr} {m : M D} {pos : Pos} (h : SE Γ Φ e m) : ST1 Γ Φ RO (.Return (some e) pos) (mRet m) := fun X o hp => ps_imp (ps_ret (h X o)) fun D' σ H q => by
  obtain ⟨Fz, fp, st, C, fl, st', e, k⟩ := q
  unfold mRet at e
  split at e
  · rename_i d s hm
    cases e
    exact ⟨Fz, fp, st, C, _, _, hm, fun v H1 Fz1 fp1 C1 g1 => k σ H1 Fz1 fp1 (fun _ _ => rfl) g1 v C1⟩
  · cases e
/-- return of a name: its datum goes out -/
theorem s_retV (i : Nat) {x : Str} {p pos : Pos} (hN : Γ.N[i]? = some x := by rfl) (hv : gVis Γ.sc x = true := by rfl) (hd : (x == ("__debug__" : Str)) = false := by decide) (hcd : (x == ("__classdict__" : Str)) = false := by decide) :
    ST1 Γ Φ RO (.Return (some (.Name x p)) pos) (mRet (mTake i)) := fun X o hp => ps_imp (ps_ret (pe_var (o.slot hN) (o.vis hv) hd hcd)) fun D' σ H q => by
  obtain ⟨Fz, fp, st, C, fl, st', e, k⟩ := q
  unfold mRet at e
  split at e
  · rename_i d s hm
    cases e
    obtain ⟨v, f1, ev, C1, h1⟩ := C.take hm
    exact ⟨v, ev, k σ H Fz f1 (fun _ _ => rfl) (Go.refl.sub h1) v C1⟩
  · cases e
def mIf (c : M Bool) (a b : M Fl) : M Fl := fun st => match c st with
  | some (true, s) => a s
  | some (false, s) => b s
  | none => none
theorem s_if {c : Expr} {a b : List Stmt} {mc : M Bool} {ma mb : M Fl} {pos : Pos} (hc : ST Γ Φ c mc) (ha : SS Γ Φ RO a ma) (hb : SS Γ Φ RO b mb) : ST1 Γ Φ RO (.If c a b pos) (mIf mc ma mb) := fun X o hp => ps_imp (ps_if (hc X o) (ha X o hp) (hb X o hp)) fun D' σ H q => by
  obtain ⟨Fz, fp, st, C, fl, st', e, k⟩ := q
  unfold mIf at e
  split at e
  · rename_i s hm
    exact ⟨Fz, fp, st, C, _, _, hm, fun H1 Fz1 fp1 C1 g1 => iteT ⟨Fz1, fp1, s, C1, fl, st', e, fun σ2 H2 Fz2 fp2 r2 g2 => k σ2 H2 Fz2 fp2 r2 (g1.trans g2)⟩⟩
  · rename_i s hm
    exact ⟨Fz, fp, st, C, _, _, hm, fun H1 Fz1 fp1 C1 g1 => iteF ⟨Fz1, fp1, s, C1, fl, st', e, fun σ2 H2 Fz2 fp2 r2 g2 => k σ2 H2 Fz2 fp2 r2 (g1.trans g2)⟩⟩
  · cases e
theorem Cfg.store {K : PySem.W.Frag} {Fz : Addr → Prop} {H : Hp} {s : S} {σ : L2.St} {fp : List Addr} {d : D} {v : V} {i : Nat} (C : Cfg K Fz H (some d :: s) (some v :: σ) fp) : ∃ fp', Cfg K Fz H (s.set i (some d)) (σ.set i (some v)) fp' ∧ ∀ a ∈ fp', a ∈ fp := by
  by_cases hi : i < s.length
  · obtain ⟨R, nd, fz, ft⟩ := C
    cases R with
    | @cons _ _ f g _ _ rx rs =>
      obtain ⟨y, f1, g1, ey, ro, p, put⟩ := rs.at (i := i) (List.getElem?_eq_getElem hi)
      obtain ⟨fp', R, p'⟩ := put (Fz' := Fz) (H' := H) (fun {e w kk} _ ro => ro) rx
      have nd1 : (f ++ (f1 ++ g1)).Nodup := (p.append_left f).nodup_iff.mp nd
      have sub : ∀ a ∈ fp', a ∈ f ++ g := fun a h => by
        rcases List.mem_append.mp (p'.mem_iff.mp h) with q | q
        · exact List.mem_append_left _ q
        · exact List.mem_append_right _ (p.mem_iff.mpr (List.mem_append_right _ q))
      have h1 := List.nodup_append.mp nd1
      have h2 := List.nodup_append.mp h1.2.1
      exact ⟨fp', ⟨R, p'.nodup_iff.mpr (List.nodup_append.mpr ⟨h1.1, h2.2.1, fun a ha b hb => h1.2.2 a ha b (List.mem_append_right _ hb)⟩), fun a h => fz a (sub a h), ft⟩, sub⟩
  · obtain ⟨f2, C2, h2⟩ := C.drop
    have hl := C2.rep.length
    rw [List.set_eq_of_length_le (by omega), List.set_eq_of_length_le (by omega)]
    exact ⟨f2, C2, h2⟩
def mSet (i : Nat) (m : M D) : M Fl := fun st => match m st with
  | some (d, s) => some (.nx, s.set i (some d))
  | none => none
def gLoc (Γ : Gam) (x : Str) : Bool := match Γ.sc.names.lookup x with
  | some .local => true | some .cell => Γ.fnm x | _ => false
theorem gLoc_loc {Γ : Gam} {x : Str} (h : gLoc Γ x = true) : Γ.sc.names.lookup x = some .local ∨ (Γ.sc.names.lookup x = some .cell ∧ Γ.fnm x = true) := by
  unfold gLoc at h
  split at h <;> simp_all
theorem On.loc {X : Cx} (o : On Γ Φ X) {x : Str} (h : gLoc Γ x = true) : Loc X.env.scope x := by
  rw [o.sc]
  rcases gLoc_loc h with e | e
  · exact .inl e
  · exact .inr e.1
theorem On.fnl {X : Cx} (o : On Γ Φ X) {x : Str} (h : gLoc Γ x = true) : X.fn x = true ∨ X.env.scope.names.lookup x = some .local := by
  rcases gLoc_loc h with e | e
  · exact .inr (by rw [o.sc]; exact e)
  · exact .inl (o.fn x e.2)
theorem ro_set {RO : Nat → Bool} {i : Nat} (h : RO i = false) {σ : L2.St} {v : Option V} : ∀ j, RO j = true → (σ.set i v)[j]? = σ[j]? := fun j hj => by
  have : i ≠ j := by rintro rfl; rw [h] at hj; cases hj
  rw [List.getElem?_set_ne this]
theorem s_set (i : Nat) {x : Str} {e : Expr} {m : M D} {p pos : Pos} (h : SE Γ Φ e m) (hN : Γ.N[i]? = some x := by rfl) (hl : gLoc Γ x = true := by rfl) (hr : RO i = false := by rfl) (hs : ∀ env : Env, swapsWith e (some (.Name x p)) pos.line env = pure false := by intro _; rfl) :
    ST1 Γ Φ RO (.Assign [.Name x p] e pos) (mSet i m) := fun X o hp => ps_imp (ps_set o.nd (o.slot hN) (o.loc hl) (h X o) (hs _) (o.fnl hl)) fun D' σ H q => by
  obtain ⟨Fz, fp, st, C, fl, st', e, k⟩ := q
  unfold mSet at e
  split at e
  · rename_i d s hm
    cases e
    refine ⟨Fz, fp, st, C, _, _, hm, fun v H1 Fz1 fp1 C1 g1 => ?_⟩
    obtain ⟨f2, C2, h2⟩ := C1.store (i := i)
    exact k _ H1 Fz1 f2 (ro_set hr) (g1.sub h2) C2
  · cases e
/-- a, b = x, y: the items keep what is theirs -/
def mSet2 (i j : Nat) (m : M (List D)) : M Fl := fun st => match m st with
  | some ([d, e], s) => some (.nx, (s.set i (some d)).set j (some e))
  | _ => none
theorem s_set2 (i j : Nat) {x y : Str} {a b : Expr} {m : M (List D)} {px py pt pos : Pos} {kt k2 : Nat} {pt2 : Pos} (h : SA Γ Φ [a, b] m) (hN : Γ.N[i]? = some x := by rfl) (hN2 : Γ.N[j]? = some y := by rfl) (hl : Γ.sc.names.lookup x = some .local := by rfl) (hl2 : Γ.sc.names.lookup y = some .local := by rfl)
    (hr : RO i = false := by rfl) (hr2 : RO j = false := by rfl) (hij : i ≠ j := by decide) (hw : swappedStores [.Tuple [.Name x px, .Name y py] kt pt] (.Tuple [a, b] k2 pt2) (envS Γ.sc) = pure (some [x, y]) := by rfl)
    (hs : ∀ env : Env, swapsWithSole [.Tuple [.Name x px, .Name y py] kt pt] (.Tuple [a, b] k2 pt2) pos.line env = pure false := by intro _; rfl) :
    ST1 Γ Φ RO (.Assign [.Tuple [.Name x px, .Name y py] kt pt] (.Tuple [a, b] k2 pt2) pos) (mSet2 i j m) := fun X o hp =>
  ps_imp (ps_par o.calm o.nd (o.slot hN) (o.slot hN2) hij (by rw [o.sc]; exact hl) (by rw [o.sc]; exact hl2) (h X o) ((sws_scope (env' := envS Γ.sc) o.sc).trans hw) (hs _)) fun D' σ H q => by
  obtain ⟨Fz, fp, st, C, fl, st', e, k⟩ := q
  unfold mSet2 at e
  split at e
  · rename_i d e' s hm
    cases e
    refine ⟨Fz, fp, st, C, _, _, hm, fun vs H1 Fz1 fp1 hl C1 g1 => ?_⟩
    match vs, hl with
    | [v, w], _ =>
      refine ⟨v, w, rfl, ?_⟩
      obtain ⟨f1, C1', p1⟩ := Cfg.float (P := [some d]) (PV := [some v]) (x := some e') (y := some w) rfl C1
      -- first the one, then the other
      have C1'' : Cfg X.K Fz1 H1 (some d :: (some e' :: s)) (some v :: (some w :: σ)) fp1 := C1
      obtain ⟨f2, C2, h2⟩ := Cfg.store (i := i + 1) C1''
      obtain ⟨f3, C3, h3⟩ := Cfg.store (i := j) (s := s.set i (some d)) (σ := σ.set i (some v)) C2
      refine k _ H1 Fz1 f3 (fun l hl' => (ro_set hr2 l hl').trans (ro_set hr l hl')) (g1.sub fun a h => h2 a (h3 a h)) C3
  · cases e
/-- n bounds the turns -/
def mWhile (c : M Bool) (b : M Fl) : Nat → M Fl
  | 0 => fun _ => none
  | n + 1 => fun st => match c st with
    | some (false, s) => some (.nx, s)
    | some (true, s) => match b s with
      | some (.nx, s') => mWhile c b n s'
      | some (.ct, s') => mWhile c b n s'
      | some (.bk, s') => some (.nx, s')
      | some (.ret d, s') => some (.ret d, s')
      | none => none
    | none => none
theorem s_while (n : Nat) {c : Expr} {body : List Stmt} {mc : M Bool} {mb : M Fl} {pos : Pos} (hc : ST Γ Φ c mc) (hb : SS Γ Φ RO body mb) : ST1 Γ Φ RO (.While c body [] pos) (mWhile mc mb n) := fun X o hp => ps_imp (ps_while hp (hc X o) (hb X o hp)) fun D' σ0 H0 q => by
  obtain ⟨Fz0, fp0, st0, C0, fl, st', e0, k0⟩ := q
  refine ⟨fun m σ H => ∃ Fz fp st, Cfg X.K Fz H st σ fp ∧ mWhile mc mb m st = some (fl, st') ∧ (∀ i, RO i = true → σ[i]? = σ0[i]?) ∧ Go Fz0 H0 fp0 Fz H fp, ⟨n, Fz0, fp0, st0, C0, e0, fun _ _ => rfl, .refl⟩, ?_⟩
  rintro m σ H ⟨Fz, fp, st, C, e, ro, g⟩
  cases m with
  | zero => cases e
  | succ m =>
    unfold mWhile at e
    split at e
    · rename_i s hm
      cases e
      exact ⟨Fz, fp, st, C, _, _, hm, fun H1 Fz1 fp1 C1 g1 => iteF (k0 σ H1 Fz1 fp1 ro (g.trans g1) C1)⟩
    · rename_i s hm
      refine ⟨Fz, fp, st, C, _, _, hm, fun H1 Fz1 fp1 C1 g1 => iteT ⟨fun σ' H' => ∃ Fz fp st, Cfg X.K Fz H' st σ' fp ∧ mWhile mc mb m st = some (fl, st') ∧ (∀ i, RO i = true → σ'[i]? = σ0[i]?) ∧ Go Fz0 H0 fp0 Fz H' fp, fun σ' H' h => ⟨m, Nat.lt_succ_self m, h⟩, ?_⟩⟩
      have gg := g.trans g1
      split at e
      · rename_i s' hm'
        exact ⟨Fz1, fp1, s, C1, .nx, s', hm', fun σ2 H2 Fz2 fp2 r2 g2 C2 => ⟨Fz2, fp2, s', C2, e, fun i hi => (r2 i hi).trans (ro i hi), gg.trans g2⟩⟩
      · rename_i s' hm'
        exact ⟨Fz1, fp1, s, C1, .ct, s', hm', fun σ2 H2 Fz2 fp2 r2 g2 C2 => ⟨Fz2, fp2, s', C2, e, fun i hi => (r2 i hi).trans (ro i hi), gg.trans g2⟩⟩
      · rename_i s' hm'
        cases e
        exact ⟨Fz1, fp1, s, C1, .bk, _, hm', fun σ2 H2 Fz2 fp2 r2 g2 C2 => k0 σ2 H2 Fz2 fp2 (fun i hi => (r2 i hi).trans (ro i hi)) (gg.trans g2) C2⟩
      · rename_i d s' hm'
        cases e
        exact ⟨Fz1, fp1, s, C1, .ret d, _, hm', fun σ2 H2 Fz2 fp2 r2 g2 v C2 => k0 σ2 H2 Fz2 fp2 (fun i hi => (r2 i hi).trans (ro i hi)) (gg.trans g2) v C2⟩
      · cases e
    · cases e
end
end Va
namespace Va
open PySem PySem.Spec PyProof.Rows L2
/-- the tuple's own iterator is what enumerate keeps -/
theorem enumTup_new (t : Addr) (items : Array Value) :
    Meets (Builtin.«enumerate.__new__» ⟨[.type "enumerate", .ref t], []⟩)
      (fun _ R s => s.heap.IsTuple t items ∧
        R (.ok (.ret (.ref (s.heap.push { cls := .type "tuple_iterator", data := .fields #[.ref t, .int 0 0] }).objs.size)))
          { s with heap := (s.heap.push { cls := .type "tuple_iterator", data := .fields #[.ref t, .int 0 0] }).push { cls := .type "enumerate", data := .fields #[.none, .bool false, .ref s.heap.objs.size, rawInt 0, .none, .none] } }) :=
  .of_wp fun prog w A R s h => by
    obtain ⟨hp, g, d, tk, os⟩ := s
    obtain ⟨hT, h⟩ := h
    have hsub := sub_enumerate
    have hT' : Heap.IsTuple (Shared.heap ⟨hp, g, d, tk, os⟩) t items := hT
    wp_walk
    refine wpAny_stack_any fun st => wpAny_pure ?_
    split
    · rename_i c _ _ _ _ _
      cases (c == Value.type "enumerate")
      · wp_walk using wpAny_pyIter_tuple hT'
        exact ⟨_, rfl, h⟩
      · wp_walk using wpAny_pyIter_tuple hT'
        exact ⟨_, rfl, h⟩
    · wp_walk using wpAny_pyIter_tuple hT'
      exact ⟨_, rfl, h⟩
section
variable {prog : Program} {w : World} {A : Around} {E : Value → Shared → Prop} {s : Shared}
theorem enumTup_call {l : Addr} {items : Array Value} {Q : Value → Shared → Prop} (hL : s.heap.IsTuple l items)
    (h : ∀ h', IsEnum h' (s.heap.objs.size + 1) s.heap.objs.size 0 .none → h'.IsTupleIter s.heap.objs.size l 0 → h'.objs.size = s.heap.objs.size + 2 →
      (∀ b o, s.heap.get? b = some o → h'.get? b = some o) → Q (.ref (s.heap.objs.size + 1)) { s with heap := h' }) :
    wpAny (model prog w) A (call (.type "enumerate") [.ref l]) Q E s := by
  refine callType_new F.called_enumerate (by decide) (F.typeCall_enumerate_1 _) (F.newCall_enumerate_1 _) (fun obj => F.args_object_init_2 obj _) F.entry_enumerate_new (enumTup_new l items) ⟨hL, ?_⟩
  have sz1 : (s.heap.push { cls := .type "tuple_iterator", data := .fields #[.ref l, .int 0 0] }).objs.size = s.heap.objs.size + 1 := Heap.size_push ..
  rw [sz1]
  have he := Heap.get?_push_size (s.heap.push { cls := .type "tuple_iterator", data := .fields #[.ref l, .int 0 0] }) (o := { cls := .type "enumerate", data := .fields #[.none, .bool false, .ref s.heap.objs.size, rawInt 0, .none, .none] }) rfl
  rw [sz1] at he
  have he2 : IsEnum ((s.heap.push { cls := .type "tuple_iterator", data := .fields #[.ref l, .int 0 0] }).push { cls := .type "enumerate", data := .fields #[.none, .bool false, .ref s.heap.objs.size, rawInt 0, .none, .none] }) (s.heap.objs.size + 1) s.heap.objs.size 0 .none := he
  exact ⟨⟨_, he2, rfl⟩, h _ he2 ⟨_, Heap.get?_push_of_some _ (Heap.get?_push_size _ rfl), rfl, rfl⟩ (by rw [Heap.size_push, sz1]) fun b o x => Heap.get?_push_of_some _ (Heap.get?_push_of_some _ x)⟩
end
theorem drawsTup {prog : Program} {w : World} {A : Around} (hh : A.handled = none) (it l : Addr) (hne : l ≠ it) (items : Array Value) :
    Draws prog w A it [it, l] items.size (fun i v => items[i]? = some v) (fun i h => h.IsTupleIter it l i ∧ h.IsTuple l items) where
  live := fun _ _ st => let ⟨o, ho, _⟩ := st.1; ⟨o, ho⟩
  frame := fun _ _ _ st hk => ⟨st.1.at fun o e => hk it (by simp) o e, by obtain ⟨o, ho, r⟩ := st.2; exact ⟨o, hk l (by simp) o ho, r⟩⟩
  item := fun i s Q E hi st hQ => by
    refine RZ.nextOf_tuple_item st.1 st.2 (x := items[i]) (by simp [hi]) fun h' hit' hs' => ?_
    exact hQ _ h' s.toks (by simp [hi]) ⟨hit', by obtain ⟨o, ho, r⟩ := st.2; exact ⟨o, (hs'.2 l hne).trans ho, r⟩⟩ hs'
  done := fun s Q E st hE => RZ.nextOf_tuple_end hh st.1 st.2 (by simp) hE
/-- the object of a new pair -/
abbrev pairO (u v : Value) : Obj := { cls := .type "tuple", data := .seq #[u, v] }
/-- the tuple at a, each item in a new pair -/
def IteT (K : PySem.W.Frag) (a : Addr) : It :=
  ⟨fun i H => ∃ (xs : List V) (x : V), SqT K H a xs ∧ xs[i]? = some x, fun i H v H' => ∃ T x, v = .ref T ∧ H T = none ∧ (∃ o : Obj, H' = upd H T (.frz o (.tup [.int (i : Nat), x])) ∧ o.dict = none) ∧ ∀ xs, SqT K H a xs → xs[i]? = some x, fun i H => ∃ xs : List V, SqT K H a xs ∧ xs.length ≤ i⟩
theorem turn_enumT {P : Program} {w : World} {K : PySem.W.Frag} {elts : List Expr} {kk : Nat} {tpos : Pos} (a e it : Addr) :
    Turn P w K (.Tuple elts kk tpos) (IteT K a) [e, it] e (fun i h => (∃ old, IsEnum h e it ((i : Nat) : Int) old) ∧ h.IsTupleIter it a i ∧ e ≠ it) where
  mem := by simp
  obj := fun i h st b hb => by
    obtain ⟨⟨old, he⟩, ⟨o, ho, hc, hd⟩, _⟩ := st
    rcases List.mem_cons.mp hb with z | z
    · rw [z]; exact ⟨_, he, fun v q => nomatch q⟩
    · have z' : b = it := by simpa using z
      rw [z']; exact ⟨o, ho, fun v q => by rw [hd] at q; cases q⟩
  keep := fun i h h' st k => let ⟨⟨old, he⟩, hi, hne⟩ := st; ⟨⟨old, k e (by simp) _ he⟩, hi.at fun o q => k it (by simp) o q, hne⟩
  item := by
    intro X hP hw hK hc i pins s σ H E I hf st hg
    subst hP hw hK
    obtain ⟨⟨old, he⟩, hit, hne⟩ := st
    obtain ⟨xs, x, hq, hx⟩ := hg
    obtain ⟨its, rv, p, hz⟩ := I.tuple hq
    obtain ⟨u, hu, ru⟩ := rv.get hx
    obtain ⟨oi, hoi, hci, hdi⟩ := id hit
    obtain ⟨oa, hoa, hca, na, hda⟩ := id p
    have hel : e < s.heap.objs.size := Heap.lt_size he
    have hil : it < s.heap.objs.size := Heap.lt_size hoi
    have nai : a ≠ it := by
      intro z; subst z
      rw [hoa] at hoi; cases hoi
      rw [hca] at hci; exact absurd hci (by decide)
    have nae : e ≠ a := by
      intro z; subst z
      have he' : s.heap.get? e = some _ := he
      rw [hoa] at he'; cases he'
      exact absurd (show Value.type "enumerate" = Value.type "tuple" from hca) (by decide)
    have hlt : i < its.toArray.size := by
      have h1 := (List.getElem?_eq_some_iff.mp hu).1
      simpa using h1
    refine wpAny_pyNext_enum_itemD (drawsTup (A := X.A.in1) (I.ok.hd hc) it a nai its.toArray) he ⟨hit, p⟩ hlt hne (by simp [hne, nae]) fun y h' tk hy ho hst' hT hsz hk => ?_
    have ey : y = u := by
      have h1 : its[i]? = some y := by simpa using hy
      rw [hu] at h1; exact (Option.some.inj h1).symm
    subst ey
    obtain ⟨hit', _⟩ := hst'
    refine ⟨_, rfl, wpAny_letOwnedTupleGo_enum (s := { s with heap := h', toks := tk + 1 }) ho fun h'' he' sb => ?_⟩
    have hT2 : h''.get? s.heap.objs.size = some { cls := .type "tuple", data := .seq #[.int i tk, y] } := (sb.2 _ (Nat.ne_of_gt hel)).trans hT
    have new : ObjOk X.prog X.w (upd H s.heap.objs.size (.frz (pairO (.int i tk) y) (.tup [.int (i : Nat), x]))) h'' s.heap.objs.size (.frz (pairO (.int i tk) y) (.tup [.int (i : Nat), x])) :=
      ⟨hT2, by show 2 ≤ sizeLine; rw [sizeLine_eq]; decide, [.int i tk, y], .cons ⟨_, rfl⟩ (.cons ru .nil), ⟨_, hT2, rfl, _, rfl⟩⟩
    have I1 : Inv X pins σ (upd H s.heap.objs.size (.frz (pairO (.int i tk) y) (.tup [.int (i : Nat), x]))) { s with heap := h'', toks := tk + 1 } :=
      I.turnedNew (ch := [e, it]) (fun b ob hb q => (sb.2 b fun z => hb (by simp [z])).trans (hk b ob (fun z => hb (by simp [z])) (fun z => hb (by simp [z])) q)) hf (Nat.le_refl _) new
    refine ⟨.ref s.heap.objs.size, _, I1, rfl, ⟨_, x, rfl, I.hok.fresh (Nat.le_refl _), ⟨_, rfl, rfl⟩, fun ys hy => by rw [I.tuple_inj hy hq]; exact hx⟩, ⟨⟨y, ?_⟩, hit'.at fun o q => (sb.2 it (Ne.symm hne)).trans q, hne⟩, fun b hb => ?_⟩
    · have e1 : ((i + 1 : Nat) : Int) = (i : Int) + 1 := by omega
      rw [e1]; exact he'
    · have hb' : b < s.heap.objs.size := by
        rcases List.mem_cons.mp hb with z | z
        · rw [z]; exact hel
        · have z' : b = it := by simpa using z
          rw [z']; exact hil
      rw [upd_ne (Nat.ne_of_lt hb')]
      exact (hf b hb).1
  done := by
    intro X hP hw hK hc i pins s σ H E I hf st hg
    subst hP hw hK
    obtain ⟨⟨old, he⟩, hit, hne⟩ := st
    obtain ⟨xs, hq, hx⟩ := hg
    obtain ⟨its, rv, p, hz⟩ := I.tuple hq
    obtain ⟨oi, hoi, hci, hdi⟩ := id hit
    obtain ⟨oa, hoa, hca, na, hda⟩ := id p
    have nai : a ≠ it := by
      intro z; subst z
      rw [hoa] at hoi; cases hoi
      rw [hca] at hci; exact absurd hci (by decide)
    obtain ⟨f0, f1, f2, f3, f4, f5⟩ := hf it (by simp)
    have hl := rv.length
    have hx' : its.toArray[i]? = none := by simp; omega
    have D0 : Draws X.prog X.w X.A.in1 it [it, a] i (fun _ _ => True) (fun j h => j = i ∧ h.IsTupleIter it a i ∧ h.IsTuple a its.toArray) :=
      { live := fun _ _ st => let ⟨o, ho, _⟩ := st.2.1; ⟨o, ho⟩
        frame := fun _ _ _ st hk => ⟨st.1, st.2.1.at fun o e => hk it (by simp) o e, by obtain ⟨o, ho, r⟩ := st.2.2; exact ⟨o, hk a (by simp) o ho, r⟩⟩
        item := fun j s Q E hj st hQ => absurd st.1 (Nat.ne_of_lt hj)
        done := fun s Q E st hE => RZ.nextOf_tuple_end (I.ok.hd hc) st.2.1 st.2.2 hx' hE }
    exact wpAny_pyNext_enum_endD D0 he ⟨rfl, hit, p⟩ fun h' eb => ⟨rfl, I.turned (t' := s.toks) (fun b o hb q => eb b o hb q) f0 f1 f3 f4 f5⟩
  self := fun A i s Q E st h => let ⟨⟨_, he⟩, _⟩ := st; wpAny_pyIter_enum he h
/-- enumerate of a tuple -/
def iEnumT (K : PySem.W.Frag) (ta : TA) : TI := fun σ H R => ta σ H fun vs H1 => ∃ a xs, vs = [.ref a] ∧ SqT K H1 a xs ∧ R (IteT K a) H1
theorem pi_enumT {X : Cx} {e : Expr} {ta : TA} {p pos tpos : Pos} {elts : List Expr} {kk : Nat} (hg : Gl X "enumerate") (hm : X.mg "enumerate" = none) (ha : PA X [e] ta) (hs : starEach [e] X.env = (false, eval e X.env) :: starEach [] X.env) :
    PI X (.Tuple elts kk tpos) (.Call (.Name "enumerate" p) [e] [] pos) (iEnumT X.K ta) := by
  refine ⟨fun pins s σ H R I h => Call_ (ld_blt I hg hm boot_enumerate (PyProof.Rows.callWith_type1 (thn (ha.run pos pins s σ H _ I h) fun us s1 ⟨vs, H1, I1, r1, q1⟩ => ?_) hs rfl))⟩
  obtain ⟨a, xs, ex, hq, q⟩ := q1
  subst ex
  cases r1 with
  | cons r rr =>
    cases rr
    cases r
    obtain ⟨its, rv, p', hz⟩ := I1.tuple hq
    refine enumTup_call (show s1.heap.IsTuple a its.toArray from p') fun h' he hit hsz hk => wpAny_pyIter_enum he ?_
    refine ⟨s1.heap.objs.size + 1, [s1.heap.objs.size + 1, s1.heap.objs.size], _, _, H1, rfl, I1.kept (t' := s1.toks) hk, turn_enumT a (s1.heap.objs.size + 1) s1.heap.objs.size, ⟨⟨.none, he⟩, hit, Nat.succ_ne_self _⟩, fun b hb => ?_, q⟩
    have hle : s1.heap.objs.size ≤ b := by
      rcases List.mem_cons.mp hb with z | z
      · rw [z]; exact Nat.le_add_right _ _
      · have z' : b = s1.heap.objs.size := by simpa using z
        rw [z']; exact Nat.le_refl _
    exact I1.fpOk hle (I1.hok.fresh hle)
/-- the list at a, each item in a new pair -/
def IteL (K : PySem.W.Frag) (a : Addr) : It :=
  ⟨fun i H => ∃ (xs : List V) (x : V), SqL K H a xs ∧ xs[i]? = some x, fun i H v H' => ∃ T x, v = .ref T ∧ H T = none ∧ (∃ o : Obj, H' = upd H T (.frz o (.tup [.int (i : Nat), x])) ∧ o.dict = none) ∧ ∀ xs, SqL K H a xs → xs[i]? = some x, fun i H => ∃ xs : List V, SqL K H a xs ∧ xs.length ≤ i⟩
theorem turn_enumL {P : Program} {w : World} {K : PySem.W.Frag} {elts : List Expr} {kk : Nat} {tpos : Pos} (a e it : Addr) :
    Turn P w K (.Tuple elts kk tpos) (IteL K a) [e, it] e (fun i h => (∃ old, IsEnum h e it ((i : Nat) : Int) old) ∧ h.IsListIter it a i ∧ e ≠ it) where
  mem := by simp
  obj := fun i h st b hb => by
    obtain ⟨⟨old, he⟩, ⟨o, ho, hc, hd⟩, _⟩ := st
    rcases List.mem_cons.mp hb with z | z
    · rw [z]; exact ⟨_, he, fun v q => nomatch q⟩
    · have z' : b = it := by simpa using z
      rw [z']; exact ⟨o, ho, fun v q => by rw [hd] at q; cases q⟩
  keep := fun i h h' st k => let ⟨⟨old, he⟩, hi, hne⟩ := st; ⟨⟨old, k e (by simp) _ he⟩, hi.at fun o q => k it (by simp) o q, hne⟩
  item := by
    intro X hP hw hK hc i pins s σ H E I hf st hg
    subst hP hw hK
    obtain ⟨⟨old, he⟩, hit, hne⟩ := st
    obtain ⟨xs, x, hq, hx⟩ := hg
    obtain ⟨its, rv, p, hz⟩ := I.list hq
    obtain ⟨u, hu, ru⟩ := rv.get hx
    obtain ⟨oi, hoi, hci, hdi⟩ := id hit
    obtain ⟨oa, na, hoa, hca, _, hda⟩ := id p
    have hel : e < s.heap.objs.size := Heap.lt_size he
    have hil : it < s.heap.objs.size := Heap.lt_size hoi
    have nai : a ≠ it := by
      intro z; subst z
      rw [hoa] at hoi; cases hoi
      rw [hca] at hci; exact absurd hci (by decide)
    have nae : e ≠ a := by
      intro z; subst z
      have he' : s.heap.get? e = some _ := he
      rw [hoa] at he'; cases he'
      exact absurd (show Value.type "enumerate" = Value.type "list" from hca) (by decide)
    have hlt : i < its.toArray.size := by
      have h1 := (List.getElem?_eq_some_iff.mp hu).1
      simpa using h1
    refine wpAny_pyNext_enum_itemD (Draws.list (prog := X.prog) (w := X.w) (A := X.A.in1) (I.ok.hd hc) it a nai its.toArray) he ⟨hit, p.isList⟩ hlt hne (by simp [hne, nae]) fun y h' tk hy ho hst' hT hsz hk => ?_
    have ey : y = u := by
      have h1 : its[i]? = some y := by simpa using hy
      rw [hu] at h1; exact (Option.some.inj h1).symm
    subst ey
    obtain ⟨hit', _⟩ := hst'
    refine ⟨_, rfl, wpAny_letOwnedTupleGo_enum (s := { s with heap := h', toks := tk + 1 }) ho fun h'' he' sb => ?_⟩
    have hT2 : h''.get? s.heap.objs.size = some { cls := .type "tuple", data := .seq #[.int i tk, y] } := (sb.2 _ (Nat.ne_of_gt hel)).trans hT
    have new : ObjOk X.prog X.w (upd H s.heap.objs.size (.frz (pairO (.int i tk) y) (.tup [.int (i : Nat), x]))) h'' s.heap.objs.size (.frz (pairO (.int i tk) y) (.tup [.int (i : Nat), x])) :=
      ⟨hT2, by show 2 ≤ sizeLine; rw [sizeLine_eq]; decide, [.int i tk, y], .cons ⟨_, rfl⟩ (.cons ru .nil), ⟨_, hT2, rfl, _, rfl⟩⟩
    have I1 : Inv X pins σ (upd H s.heap.objs.size (.frz (pairO (.int i tk) y) (.tup [.int (i : Nat), x]))) { s with heap := h'', toks := tk + 1 } :=
      I.turnedNew (ch := [e, it]) (fun b ob hb q => (sb.2 b fun z => hb (by simp [z])).trans (hk b ob (fun z => hb (by simp [z])) (fun z => hb (by simp [z])) q)) hf (Nat.le_refl _) new
    refine ⟨.ref s.heap.objs.size, _, I1, rfl, ⟨_, x, rfl, I.hok.fresh (Nat.le_refl _), ⟨_, rfl, rfl⟩, fun ys hy => by rw [I.list_inj hy hq]; exact hx⟩, ⟨⟨y, ?_⟩, hit'.at fun o q => (sb.2 it (Ne.symm hne)).trans q, hne⟩, fun b hb => ?_⟩
    · have e1 : ((i + 1 : Nat) : Int) = (i : Int) + 1 := by omega
      rw [e1]; exact he'
    · have hb' : b < s.heap.objs.size := by
        rcases List.mem_cons.mp hb with z | z
        · rw [z]; exact hel
        · have z' : b = it := by simpa using z
          rw [z']; exact hil
      rw [upd_ne (Nat.ne_of_lt hb')]
      exact (hf b hb).1
  done := by
    intro X hP hw hK hc i pins s σ H E I hf st hg
    subst hP hw hK
    obtain ⟨⟨old, he⟩, hit, hne⟩ := st
    obtain ⟨xs, hq, hx⟩ := hg
    obtain ⟨its, rv, p, hz⟩ := I.list hq
    obtain ⟨oi, hoi, hci, hdi⟩ := id hit
    obtain ⟨oa, na, hoa, hca, _, hda⟩ := id p
    have nai : a ≠ it := by
      intro z; subst z
      rw [hoa] at hoi; cases hoi
      rw [hca] at hci; exact absurd hci (by decide)
    obtain ⟨f0, f1, f2, f3, f4, f5⟩ := hf it (by simp)
    have hl := rv.length
    have hx' : its.toArray[i]? = none := by simp; omega
    have D0 : Draws X.prog X.w X.A.in1 it [it, a] i (fun _ _ => True) (fun j h => j = i ∧ h.IsListIter it a i ∧ h.IsList a its.toArray) :=
      { live := fun _ _ st => let ⟨o, ho, _⟩ := st.2.1; ⟨o, ho⟩
        frame := fun _ _ _ st hk => ⟨st.1, st.2.1.at fun o e => hk it (by simp) o e, st.2.2.at fun o e => hk a (by simp) o e⟩
        item := fun j s Q E hj st hQ => absurd st.1 (Nat.ne_of_lt hj)
        done := fun s Q E st hE => wpAny_nextOf_list_end (I.ok.hd hc) st.2.1 st.2.2 hx' hE }
    exact wpAny_pyNext_enum_endD D0 he ⟨rfl, hit, p.isList⟩ fun h' eb => ⟨rfl, I.turned (t' := s.toks) (fun b o hb q => eb b o hb q) f0 f1 f3 f4 f5⟩
  self := fun A i s Q E st h => let ⟨⟨_, he⟩, _⟩ := st; wpAny_pyIter_enum he h
/-- enumerate of a list -/
def iEnumL (K : PySem.W.Frag) (ta : TA) : TI := fun σ H R => ta σ H fun vs H1 => ∃ a xs, vs = [.ref a] ∧ SqL K H1 a xs ∧ R (IteL K a) H1
theorem pi_enumL {X : Cx} {e : Expr} {ta : TA} {p pos tpos : Pos} {elts : List Expr} {kk : Nat} (hg : Gl X "enumerate") (hm : X.mg "enumerate" = none) (ha : PA X [e] ta) (hs : starEach [e] X.env = (false, eval e X.env) :: starEach [] X.env) :
    PI X (.Tuple elts kk tpos) (.Call (.Name "enumerate" p) [e] [] pos) (iEnumL X.K ta) := by
  refine ⟨fun pins s σ H R I h => Call_ (ld_blt I hg hm boot_enumerate (PyProof.Rows.callWith_type1 (thn (ha.run pos pins s σ H _ I h) fun us s1 ⟨vs, H1, I1, r1, q1⟩ => ?_) hs rfl))⟩
  obtain ⟨a, xs, ex, hq, q⟩ := q1
  subst ex
  cases r1 with
  | cons r rr =>
    cases rr
    cases r
    obtain ⟨its, rv, p', hz⟩ := I1.list hq
    refine call_enumerate_list p'.isList fun h' he hit hsz hk => wpAny_pyIter_enum he ?_
    refine ⟨s1.heap.objs.size + 1, [s1.heap.objs.size + 1, s1.heap.objs.size], _, _, H1, rfl, I1.kept (t' := s1.toks) hk, turn_enumL a (s1.heap.objs.size + 1) s1.heap.objs.size, ⟨⟨.none, he⟩, hit, Nat.succ_ne_self _⟩, fun b hb => ?_, q⟩
    have hle : s1.heap.objs.size ≤ b := by
      rcases List.mem_cons.mp hb with z | z
      · rw [z]; exact Nat.le_add_right _ _
      · have z' : b = s1.heap.objs.size := by simpa using z
        rw [z']; exact Nat.le_refl _
    exact I1.fpOk hle (I1.hok.fresh hle)
/-- two tuples side by side: each turn lays a new pair -/
def ItzMT (K : PySem.W.Frag) (a b : Addr) : It where
  go i H := ∃ (vs ws : List V) (x y : V), SqT K H a vs ∧ SqT K H b ws ∧ vs[i]? = some x ∧ ws[i]? = some y
  yld i H v H' := ∃ T x y, v = .ref T ∧ H T = none ∧ (∃ o : Obj, H' = upd H T (.frz o (.tup [x, y])) ∧ o.dict = none) ∧ (∀ vs, SqT K H a vs → vs[i]? = some x) ∧ ∀ ws, SqT K H b ws → ws[i]? = some y
  stop i H := ∃ vs ws : List V, SqT K H a vs ∧ SqT K H b ws ∧ (vs.length ≤ i ∨ ws.length ≤ i)
def ZmStT (z TI TO i1 i2 a b : Addr) (i : Nat) (h : Heap) : Prop :=
  IsZip h z TI TO .none ∧ IsTupOf2 h TI (.ref i1) (.ref i2) ∧ (∃ x y, IsTupOf2 h TO x y) ∧ h.IsTupleIter i1 a i ∧ h.IsTupleIter i2 b i
theorem zm_fiveT {c z TI TO i1 i2 : Addr} (h : c ∈ [z, TI, TO, i1, i2]) : c = z ∨ c = TI ∨ c = TO ∨ c = i1 ∨ c = i2 := by simpa using h
theorem turn_zipMT {P : Program} {w : World} {K : PySem.W.Frag} {elts : List Expr} {kk : Nat} {tpos : Pos} {a b z TI TO i1 i2 : Addr} (S : ZipSep2 z TI TO i1 i2 [i1, a] [i2, b]) (na : a ≠ i1) (nb : b ≠ i2) :
    Turn P w K (.Tuple elts kk tpos) (ItzMT K a b) [z, TI, TO, i1, i2] z (ZmStT z TI TO i1 i2 a b) where
  mem := List.mem_cons_self ..
  obj := fun i h st c hc => by
    obtain ⟨hz, hTI, ⟨x, y, hTO⟩, ⟨o1, e1, _, d1⟩, ⟨o2, e2, _, d2⟩⟩ := st
    rcases zm_fiveT hc with rfl | rfl | rfl | rfl | rfl
    · exact ⟨_, hz, fun v q => nomatch q⟩
    · exact ⟨_, hTI, fun v q => nomatch q⟩
    · exact ⟨_, hTO, fun v q => nomatch q⟩
    · exact ⟨o1, e1, fun v q => by rw [d1] at q; cases q⟩
    · exact ⟨o2, e2, fun v q => by rw [d2] at q; cases q⟩
  keep := fun i h h' ⟨hz, hTI, ⟨x, y, hTO⟩, h1, h2⟩ k =>
    ⟨k z (by simp) _ hz, k TI (by simp) _ hTI, ⟨x, y, k TO (by simp) _ hTO⟩, h1.at fun o q => k i1 (by simp) o q, h2.at fun o q => k i2 (by simp) o q⟩
  item := by
    intro X hP hw hK hc i pins s σ H E I hf st hg
    subst hP hw hK
    obtain ⟨hz, hTI, ⟨x0, y0, hTO⟩, h1, h2⟩ := st
    obtain ⟨vs, ws, x, y, qv, qw, hx, hy⟩ := hg
    obtain ⟨its, rv, pv, _⟩ := I.tuple qv
    obtain ⟨jts, rw', pw, _⟩ := I.tuple qw
    obtain ⟨u, hu, ru⟩ := rv.get hx
    obtain ⟨t, ht, rt⟩ := rw'.get hy
    have zl : z < s.heap.objs.size := Heap.lt_size hz
    have lu : i < its.toArray.size := by have := (List.getElem?_eq_some_iff.mp hu).1; simpa using this
    have lt : i < jts.toArray.size := by have := (List.getElem?_eq_some_iff.mp ht).1; simpa using this
    have D1 := drawsTup (prog := X.prog) (w := X.w) (A := X.A.in1) (I.ok.hd hc) i1 a na its.toArray
    have D2 := drawsTup (prog := X.prog) (w := X.w) (A := X.A.in1) (I.ok.hd hc) i2 b nb jts.toArray
    refine wpAny_pyNext_zipD2_item S D1 D2 hz hTI hTO ⟨h1, pv⟩ ⟨h2, pw⟩ lu lt fun m1 m2 h' tk p1 p2 z' TO' s1 s2 hT hsz hk => ?_
    have em1 : m1 = u := by
      have q : its[i]? = some m1 := by simpa using p1
      rw [hu] at q; exact (Option.some.inj q).symm
    have em2 : m2 = t := by
      have q : jts[i]? = some m2 := by simpa using p2
      rw [ht] at q; exact (Option.some.inj q).symm
    subst em1 em2
    have kk : ∀ c o, c ∉ [z, TI, TO, i1, i2] → s.heap.get? c = some o → h'.get? c = some o := fun c o n e => hk c o (fun q => n (by simp [q])) (fun q => n (by simp [q])) (fun q => n (by simp [q])) (fun q => n (by simp [q])) e
    have hTI' : IsTupOf2 h' TI (.ref i1) (.ref i2) := hk TI _ S.TIz S.TITO S.TIi1 S.TIi2 hTI
    refine ⟨_, rfl, wpAny_letOwnedTupleGo_zip (s := { s with heap := h', toks := tk }) z' fun h'' z'' sb => ?_⟩
    have hT2 : h''.get? s.heap.objs.size = some (pairO m1 m2) := (sb.2 _ (Nat.ne_of_gt zl)).trans hT
    have new : ObjOk X.prog X.w (upd H s.heap.objs.size (.frz (pairO m1 m2) (.tup [x, y]))) h'' s.heap.objs.size (.frz (pairO m1 m2) (.tup [x, y])) :=
      ⟨hT2, by show 2 ≤ sizeLine; rw [sizeLine_eq]; decide, [m1, m2], .cons ru (.cons rt .nil), ⟨_, hT2, rfl, _, rfl⟩⟩
    have I1 : Inv X pins σ (upd H s.heap.objs.size (.frz (pairO m1 m2) (.tup [x, y]))) { s with heap := h'', toks := tk } :=
      I.turnedNew (ch := [z, TI, TO, i1, i2]) (fun c o n e => (sb.2 c fun q => n (by simp [q])).trans (kk c o n e)) hf (Nat.le_refl _) new
    refine ⟨.ref s.heap.objs.size, _, I1, rfl, ⟨_, x, y, rfl, I.hok.fresh (Nat.le_refl _), ⟨_, rfl, rfl⟩, fun l e => by rw [I.tuple_inj e qv]; exact hx, fun l e => by rw [I.tuple_inj e qw]; exact hy⟩, ⟨z'', (sb.2 _ S.TIz).trans hTI', ⟨m1, m2, (sb.2 _ S.TOz).trans TO'⟩, s1.1.at fun o q => (sb.2 i1 fun e => S.zi1 e.symm).trans q, s2.1.at fun o q => (sb.2 i2 fun e => S.zi2 e.symm).trans q⟩, fun c hcm => ?_⟩
    have hlt : c < s.heap.objs.size := by
      rcases zm_fiveT hcm with rfl | rfl | rfl | rfl | rfl
      · exact zl
      · exact Heap.lt_size hTI
      · exact Heap.lt_size hTO
      · obtain ⟨_, e, _⟩ := h1; exact Heap.lt_size e
      · obtain ⟨_, e, _⟩ := h2; exact Heap.lt_size e
    rw [upd_ne (Nat.ne_of_lt hlt)]
    exact (hf c hcm).1
  done := by
    intro X hP hw hK hc i pins s σ H E I hf st hg
    subst hP hw hK
    obtain ⟨hz, hTI, ⟨x0, y0, hTO⟩, h1, h2⟩ := st
    obtain ⟨vs, ws, qv, qw, hend⟩ := hg
    obtain ⟨its, rv, pv, _⟩ := I.tuple qv
    obtain ⟨jts, rw', pw, _⟩ := I.tuple qw
    have e1 := rv.length
    have e2 := rw'.length
    have fin : ∀ {n1 n2 : Nat} {P1 P2 : Nat → Value → Prop} {A1 A2 : Nat → Heap → Prop}, Draws X.prog X.w X.A.in1 i1 [i1, a] n1 P1 A1 → Draws X.prog X.w X.A.in1 i2 [i2, b] n2 P2 A2 → A1 i s.heap → A2 i s.heap → i ≤ n1 → i ≤ n2 → (i = n1 ∨ i = n2) → wpAny (model X.prog X.w) X.A (pyNext (Value.ref z)) (fun r s1 => r = none ∧ L2.Inv X pins σ H s1) E s :=
      fun D1 D2 c1 c2 k1 k2 k3 => wpAny_pyNext_zipD2_end S D1 D2 hz hTI hTO c1 c2 k1 k2 k3 fun h' tk hk => ⟨rfl, I.turnedL (t' := tk) (ch := [z, TI, TO, i1, i2]) (fun c o n q =>
        hk c o (fun q' => n (by simp [q'])) (fun q' => n (by simp [q'])) (fun q' => n (by simp [q'])) (fun q' => n (by simp [q'])) q) hf⟩
    by_cases hv : vs.length ≤ i
    · have T0 : Draws X.prog X.w X.A.in1 i1 [i1, a] i (fun _ _ => True) (fun j h => j = i ∧ h.IsTupleIter i1 a i ∧ h.IsTuple a its.toArray) :=
        { live := fun _ _ st => let ⟨o, ho, _⟩ := st.2.1; ⟨o, ho⟩
          frame := fun _ _ _ st hk => ⟨st.1, st.2.1.at fun o e => hk i1 (by simp) o e, by obtain ⟨o, ho, r⟩ := st.2.2; exact ⟨o, hk a (by simp) o ho, r⟩⟩
          item := fun j s Q E hj st hQ => absurd st.1 (Nat.ne_of_lt hj)
          done := fun s Q E st hE => RZ.nextOf_tuple_end (I.ok.hd hc) st.2.1 st.2.2 (by simp; omega) hE }
      by_cases hw : ws.length ≤ i
      · have L0 : Draws X.prog X.w X.A.in1 i2 [i2, b] i (fun _ _ => True) (fun j h => j = i ∧ h.IsTupleIter i2 b i ∧ h.IsTuple b jts.toArray) :=
          { live := fun _ _ st => let ⟨o, ho, _⟩ := st.2.1; ⟨o, ho⟩
            frame := fun _ _ _ st hk => ⟨st.1, st.2.1.at fun o e => hk i2 (by simp) o e, by obtain ⟨o, ho, r⟩ := st.2.2; exact ⟨o, hk b (by simp) o ho, r⟩⟩
            item := fun j s Q E hj st hQ => absurd st.1 (Nat.ne_of_lt hj)
            done := fun s Q E st hE => RZ.nextOf_tuple_end (I.ok.hd hc) st.2.1 st.2.2 (by simp; omega) hE }
        exact fin T0 L0 ⟨rfl, h1, pv⟩ ⟨rfl, h2, pw⟩ (Nat.le_refl _) (Nat.le_refl _) (.inl rfl)
      · exact fin T0 (drawsTup (prog := X.prog) (w := X.w) (A := X.A.in1) (I.ok.hd hc) i2 b nb jts.toArray) ⟨rfl, h1, pv⟩ ⟨h2, pw⟩ (Nat.le_refl _) (by simp; omega) (.inl rfl)
    · have hw : ws.length ≤ i := hend.resolve_left hv
      have L0 : Draws X.prog X.w X.A.in1 i2 [i2, b] i (fun _ _ => True) (fun j h => j = i ∧ h.IsTupleIter i2 b i ∧ h.IsTuple b jts.toArray) :=
        { live := fun _ _ st => let ⟨o, ho, _⟩ := st.2.1; ⟨o, ho⟩
          frame := fun _ _ _ st hk => ⟨st.1, st.2.1.at fun o e => hk i2 (by simp) o e, by obtain ⟨o, ho, r⟩ := st.2.2; exact ⟨o, hk b (by simp) o ho, r⟩⟩
          item := fun j s Q E hj st hQ => absurd st.1 (Nat.ne_of_lt hj)
          done := fun s Q E st hE => RZ.nextOf_tuple_end (I.ok.hd hc) st.2.1 st.2.2 (by simp; omega) hE }
      exact fin (drawsTup (prog := X.prog) (w := X.w) (A := X.A.in1) (I.ok.hd hc) i1 a na its.toArray) L0 ⟨h1, pv⟩ ⟨rfl, h2, pw⟩ (by simp; omega) (Nat.le_refl _) (.inr rfl)
  self := fun A i s Q E st h => wpAny_pyIter_zip st.1 h
/-- the walk begins -/
def iZipMT (K : PySem.W.Frag) (ta : TA) : TI := fun σ H R => ta σ H fun vs H1 => ∃ a b xs ys, vs = [.ref a, .ref b] ∧ SqT K H1 a xs ∧ SqT K H1 b ys ∧ R (ItzMT K a b) H1
theorem pi_zipMT {X : Cx} {e e2 : Expr} {ta : TA} {p pos tpos : Pos} {elts : List Expr} {kk : Nat} (hg : Gl X "zip") (hm : X.mg "zip" = none) (ha : PA X [e, e2] ta)
    (hs : starEach [e, e2] X.env = (false, eval e X.env) :: starEach [e2] X.env) (hpl : (backTo pos (starEach [e2] X.env)).any (·.1) = false) :
    PI X (.Tuple elts kk tpos) (.Call (.Name "zip" p) [e, e2] [] pos) (iZipMT X.K ta) := by
  refine ⟨fun pins s σ H R I h => ?_⟩
  have go : ∀ us s1, (∃ vs H1, Inv X pins σ H1 s1 ∧ Vals vs us ∧ (∃ a b xs ys, vs = [.ref a, .ref b] ∧ SqT X.K H1 a xs ∧ SqT X.K H1 b ys ∧ R (ItzMT X.K a b) H1)) → wpAny (model X.prog X.w) X.A (call (.type "zip") us) (fun v s2 => wpAny (model X.prog X.w) X.A (pyIter v) (PIE X pins σ (.Tuple elts kk tpos) R) X.xe s2) X.xe s1 := by
    rintro us s1 ⟨vs, H1, I1, r1, a, b, xs, ys, rfl, qx, qy, q⟩
    obtain ⟨u1, us, rfl, ra, r1⟩ : ∃ u us', us = u :: us' ∧ RelV (.ref a) u ∧ Vals [.ref b] us' := by
      cases r1 with
      | cons p p' => exact ⟨_, _, rfl, p, p'⟩
    obtain ⟨u2, us, rfl, rb, r1⟩ : ∃ u us', us = u :: us' ∧ RelV (.ref b) u ∧ Vals [] us' := by
      cases r1 with
      | cons p p' => exact ⟨_, _, rfl, p, p'⟩
    obtain rfl : us = [] := by cases r1; rfl
    obtain rfl : u1 = Value.ref a := ra
    obtain rfl : u2 = Value.ref b := rb
    obtain ⟨its, rv, pv, _⟩ := I1.tuple qx
    obtain ⟨jts, rw', pw, _⟩ := I1.tuple qy
    obtain ⟨oa, hoa, _⟩ := id pv
    have la : a < s1.heap.objs.size := Heap.lt_size hoa
    obtain ⟨ob, hob, _⟩ := id pw
    have lb : b < s1.heap.objs.size := Heap.lt_size hob
    refine zip_begins2 (begins_tuple a its.toArray) (begins_tuple b jts.toArray) pv pw fun h' hz hTI hTO g1 g2 hsz hk => wpAny_pyIter_zip hz ?_
    have hA : ∀ c ∈ [a], c < s1.heap.objs.size := fun c hc => (List.mem_singleton.mp hc) ▸ la
    have hB : ∀ c ∈ [b], c < s1.heap.objs.size := fun c hc => (List.mem_singleton.mp hc) ▸ lb
    have S := zip_sep2 hA hB
    refine ⟨s1.heap.objs.size + 4, [s1.heap.objs.size + 4, s1.heap.objs.size + 2, s1.heap.objs.size + 3, s1.heap.objs.size, s1.heap.objs.size + 1], _, _, H1, rfl, I1.kept (t' := s1.toks) hk, turn_zipMT S (Nat.ne_of_lt la) (Nat.ne_of_lt (Nat.lt_succ_of_lt lb)), ⟨hz, hTI, ⟨_, _, hTO⟩, ⟨_, g1, rfl, rfl⟩, ⟨_, g2, rfl, rfl⟩⟩, fun c hcm => ?_, q⟩
    have hle : s1.heap.objs.size ≤ c := by
      rcases zm_fiveT hcm with rfl | rfl | rfl | rfl | rfl
      · exact Nat.le_add_right _ _
      · exact Nat.le_add_right _ _
      · exact Nat.le_add_right _ _
      · exact Nat.le_refl _
      · exact Nat.le_add_right _ _
    exact I1.fpOk hle (I1.hok.fresh hle)
  refine Call_ (ld_blt I hg hm PyProof.Rows.boot_zip (PyProof.Rows.callWith_type1 (thn (ha.run pos pins s σ H _ I h) fun us s1 q => ?_) hs hpl))
  obtain ⟨vs, H1, I1, r1, q1⟩ := q
  exact go us s1 ⟨vs, H1, I1, r1, q1⟩
/-- two lists side by side: each turn lays a new pair -/
def ItzML (K : PySem.W.Frag) (a b : Addr) : It where
  go i H := ∃ (vs ws : List V) (x y : V), SqL K H a vs ∧ SqL K H b ws ∧ vs[i]? = some x ∧ ws[i]? = some y
  yld i H v H' := ∃ T x y, v = .ref T ∧ H T = none ∧ (∃ o : Obj, H' = upd H T (.frz o (.tup [x, y])) ∧ o.dict = none) ∧ (∀ vs, SqL K H a vs → vs[i]? = some x) ∧ ∀ ws, SqL K H b ws → ws[i]? = some y
  stop i H := ∃ vs ws : List V, SqL K H a vs ∧ SqL K H b ws ∧ (vs.length ≤ i ∨ ws.length ≤ i)
def ZmStL (z TI TO i1 i2 a b : Addr) (i : Nat) (h : Heap) : Prop :=
  IsZip h z TI TO .none ∧ IsTupOf2 h TI (.ref i1) (.ref i2) ∧ (∃ x y, IsTupOf2 h TO x y) ∧ h.IsListIter i1 a i ∧ h.IsListIter i2 b i
theorem zm_fiveL {c z TI TO i1 i2 : Addr} (h : c ∈ [z, TI, TO, i1, i2]) : c = z ∨ c = TI ∨ c = TO ∨ c = i1 ∨ c = i2 := by simpa using h
theorem turn_zipML {P : Program} {w : World} {K : PySem.W.Frag} {elts : List Expr} {kk : Nat} {tpos : Pos} {a b z TI TO i1 i2 : Addr} (S : ZipSep2 z TI TO i1 i2 [i1, a] [i2, b]) (na : a ≠ i1) (nb : b ≠ i2) :
    Turn P w K (.Tuple elts kk tpos) (ItzML K a b) [z, TI, TO, i1, i2] z (ZmStL z TI TO i1 i2 a b) where
  mem := List.mem_cons_self ..
  obj := fun i h st c hc => by
    obtain ⟨hz, hTI, ⟨x, y, hTO⟩, ⟨o1, e1, _, d1⟩, ⟨o2, e2, _, d2⟩⟩ := st
    rcases zm_fiveL hc with rfl | rfl | rfl | rfl | rfl
    · exact ⟨_, hz, fun v q => nomatch q⟩
    · exact ⟨_, hTI, fun v q => nomatch q⟩
    · exact ⟨_, hTO, fun v q => nomatch q⟩
    · exact ⟨o1, e1, fun v q => by rw [d1] at q; cases q⟩
    · exact ⟨o2, e2, fun v q => by rw [d2] at q; cases q⟩
  keep := fun i h h' ⟨hz, hTI, ⟨x, y, hTO⟩, h1, h2⟩ k =>
    ⟨k z (by simp) _ hz, k TI (by simp) _ hTI, ⟨x, y, k TO (by simp) _ hTO⟩, h1.at fun o q => k i1 (by simp) o q, h2.at fun o q => k i2 (by simp) o q⟩
  item := by
    intro X hP hw hK hc i pins s σ H E I hf st hg
    subst hP hw hK
    obtain ⟨hz, hTI, ⟨x0, y0, hTO⟩, h1, h2⟩ := st
    obtain ⟨vs, ws, x, y, qv, qw, hx, hy⟩ := hg
    obtain ⟨its, rv, pv, _⟩ := I.list qv
    obtain ⟨jts, rw', pw, _⟩ := I.list qw
    obtain ⟨u, hu, ru⟩ := rv.get hx
    obtain ⟨t, ht, rt⟩ := rw'.get hy
    have zl : z < s.heap.objs.size := Heap.lt_size hz
    have lu : i < its.toArray.size := by have := (List.getElem?_eq_some_iff.mp hu).1; simpa using this
    have lt : i < jts.toArray.size := by have := (List.getElem?_eq_some_iff.mp ht).1; simpa using this
    have D1 := Draws.list (prog := X.prog) (w := X.w) (A := X.A.in1) (I.ok.hd hc) i1 a na its.toArray
    have D2 := Draws.list (prog := X.prog) (w := X.w) (A := X.A.in1) (I.ok.hd hc) i2 b nb jts.toArray
    refine wpAny_pyNext_zipD2_item S D1 D2 hz hTI hTO ⟨h1, pv.isList⟩ ⟨h2, pw.isList⟩ lu lt fun m1 m2 h' tk p1 p2 z' TO' s1 s2 hT hsz hk => ?_
    have em1 : m1 = u := by
      have q : its[i]? = some m1 := by simpa using p1
      rw [hu] at q; exact (Option.some.inj q).symm
    have em2 : m2 = t := by
      have q : jts[i]? = some m2 := by simpa using p2
      rw [ht] at q; exact (Option.some.inj q).symm
    subst em1 em2
    have kk : ∀ c o, c ∉ [z, TI, TO, i1, i2] → s.heap.get? c = some o → h'.get? c = some o := fun c o n e => hk c o (fun q => n (by simp [q])) (fun q => n (by simp [q])) (fun q => n (by simp [q])) (fun q => n (by simp [q])) e
    have hTI' : IsTupOf2 h' TI (.ref i1) (.ref i2) := hk TI _ S.TIz S.TITO S.TIi1 S.TIi2 hTI
    refine ⟨_, rfl, wpAny_letOwnedTupleGo_zip (s := { s with heap := h', toks := tk }) z' fun h'' z'' sb => ?_⟩
    have hT2 : h''.get? s.heap.objs.size = some (pairO m1 m2) := (sb.2 _ (Nat.ne_of_gt zl)).trans hT
    have new : ObjOk X.prog X.w (upd H s.heap.objs.size (.frz (pairO m1 m2) (.tup [x, y]))) h'' s.heap.objs.size (.frz (pairO m1 m2) (.tup [x, y])) :=
      ⟨hT2, by show 2 ≤ sizeLine; rw [sizeLine_eq]; decide, [m1, m2], .cons ru (.cons rt .nil), ⟨_, hT2, rfl, _, rfl⟩⟩
    have I1 : Inv X pins σ (upd H s.heap.objs.size (.frz (pairO m1 m2) (.tup [x, y]))) { s with heap := h'', toks := tk } :=
      I.turnedNew (ch := [z, TI, TO, i1, i2]) (fun c o n e => (sb.2 c fun q => n (by simp [q])).trans (kk c o n e)) hf (Nat.le_refl _) new
    refine ⟨.ref s.heap.objs.size, _, I1, rfl, ⟨_, x, y, rfl, I.hok.fresh (Nat.le_refl _), ⟨_, rfl, rfl⟩, fun l e => by rw [I.list_inj e qv]; exact hx, fun l e => by rw [I.list_inj e qw]; exact hy⟩, ⟨z'', (sb.2 _ S.TIz).trans hTI', ⟨m1, m2, (sb.2 _ S.TOz).trans TO'⟩, s1.1.at fun o q => (sb.2 i1 fun e => S.zi1 e.symm).trans q, s2.1.at fun o q => (sb.2 i2 fun e => S.zi2 e.symm).trans q⟩, fun c hcm => ?_⟩
    have hlt : c < s.heap.objs.size := by
      rcases zm_fiveL hcm with rfl | rfl | rfl | rfl | rfl
      · exact zl
      · exact Heap.lt_size hTI
      · exact Heap.lt_size hTO
      · obtain ⟨_, e, _⟩ := h1; exact Heap.lt_size e
      · obtain ⟨_, e, _⟩ := h2; exact Heap.lt_size e
    rw [upd_ne (Nat.ne_of_lt hlt)]
    exact (hf c hcm).1
  done := by
    intro X hP hw hK hc i pins s σ H E I hf st hg
    subst hP hw hK
    obtain ⟨hz, hTI, ⟨x0, y0, hTO⟩, h1, h2⟩ := st
    obtain ⟨vs, ws, qv, qw, hend⟩ := hg
    obtain ⟨its, rv, pv, _⟩ := I.list qv
    obtain ⟨jts, rw', pw, _⟩ := I.list qw
    have e1 := rv.length
    have e2 := rw'.length
    have fin : ∀ {n1 n2 : Nat} {P1 P2 : Nat → Value → Prop} {A1 A2 : Nat → Heap → Prop}, Draws X.prog X.w X.A.in1 i1 [i1, a] n1 P1 A1 → Draws X.prog X.w X.A.in1 i2 [i2, b] n2 P2 A2 → A1 i s.heap → A2 i s.heap → i ≤ n1 → i ≤ n2 → (i = n1 ∨ i = n2) → wpAny (model X.prog X.w) X.A (pyNext (Value.ref z)) (fun r s1 => r = none ∧ L2.Inv X pins σ H s1) E s :=
      fun D1 D2 c1 c2 k1 k2 k3 => wpAny_pyNext_zipD2_end S D1 D2 hz hTI hTO c1 c2 k1 k2 k3 fun h' tk hk => ⟨rfl, I.turnedL (t' := tk) (ch := [z, TI, TO, i1, i2]) (fun c o n q =>
        hk c o (fun q' => n (by simp [q'])) (fun q' => n (by simp [q'])) (fun q' => n (by simp [q'])) (fun q' => n (by simp [q'])) q) hf⟩
    by_cases hv : vs.length ≤ i
    · have T0 : Draws X.prog X.w X.A.in1 i1 [i1, a] i (fun _ _ => True) (fun j h => j = i ∧ h.IsListIter i1 a i ∧ h.IsList a its.toArray) :=
        { live := fun _ _ st => let ⟨o, ho, _⟩ := st.2.1; ⟨o, ho⟩
          frame := fun _ _ _ st hk => ⟨st.1, st.2.1.at fun o e => hk i1 (by simp) o e, st.2.2.at fun o e => hk a (by simp) o e⟩
          item := fun j s Q E hj st hQ => absurd st.1 (Nat.ne_of_lt hj)
          done := fun s Q E st hE => wpAny_nextOf_list_end (I.ok.hd hc) st.2.1 st.2.2 (by simp; omega) hE }
      by_cases hw : ws.length ≤ i
      · have L0 : Draws X.prog X.w X.A.in1 i2 [i2, b] i (fun _ _ => True) (fun j h => j = i ∧ h.IsListIter i2 b i ∧ h.IsList b jts.toArray) :=
          { live := fun _ _ st => let ⟨o, ho, _⟩ := st.2.1; ⟨o, ho⟩
            frame := fun _ _ _ st hk => ⟨st.1, st.2.1.at fun o e => hk i2 (by simp) o e, st.2.2.at fun o e => hk b (by simp) o e⟩
            item := fun j s Q E hj st hQ => absurd st.1 (Nat.ne_of_lt hj)
            done := fun s Q E st hE => wpAny_nextOf_list_end (I.ok.hd hc) st.2.1 st.2.2 (by simp; omega) hE }
        exact fin T0 L0 ⟨rfl, h1, pv.isList⟩ ⟨rfl, h2, pw.isList⟩ (Nat.le_refl _) (Nat.le_refl _) (.inl rfl)
      · exact fin T0 (Draws.list (prog := X.prog) (w := X.w) (A := X.A.in1) (I.ok.hd hc) i2 b nb jts.toArray) ⟨rfl, h1, pv.isList⟩ ⟨h2, pw.isList⟩ (Nat.le_refl _) (by simp; omega) (.inl rfl)
    · have hw : ws.length ≤ i := hend.resolve_left hv
      have L0 : Draws X.prog X.w X.A.in1 i2 [i2, b] i (fun _ _ => True) (fun j h => j = i ∧ h.IsListIter i2 b i ∧ h.IsList b jts.toArray) :=
        { live := fun _ _ st => let ⟨o, ho, _⟩ := st.2.1; ⟨o, ho⟩
          frame := fun _ _ _ st hk => ⟨st.1, st.2.1.at fun o e => hk i2 (by simp) o e, st.2.2.at fun o e => hk b (by simp) o e⟩
          item := fun j s Q E hj st hQ => absurd st.1 (Nat.ne_of_lt hj)
          done := fun s Q E st hE => wpAny_nextOf_list_end (I.ok.hd hc) st.2.1 st.2.2 (by simp; omega) hE }
      exact fin (Draws.list (prog := X.prog) (w := X.w) (A := X.A.in1) (I.ok.hd hc) i1 a na its.toArray) L0 ⟨h1, pv.isList⟩ ⟨rfl, h2, pw.isList⟩ (by simp; omega) (Nat.le_refl _) (.inr rfl)
  self := fun A i s Q E st h => wpAny_pyIter_zip st.1 h
/-- the walk begins -/
def iZipML (K : PySem.W.Frag) (ta : TA) : TI := fun σ H R => ta σ H fun vs H1 => ∃ a b xs ys, vs = [.ref a, .ref b] ∧ SqL K H1 a xs ∧ SqL K H1 b ys ∧ R (ItzML K a b) H1
theorem pi_zipML {X : Cx} {e e2 : Expr} {ta : TA} {p pos tpos : Pos} {elts : List Expr} {kk : Nat} (hg : Gl X "zip") (hm : X.mg "zip" = none) (ha : PA X [e, e2] ta)
    (hs : starEach [e, e2] X.env = (false, eval e X.env) :: starEach [e2] X.env) (hpl : (backTo pos (starEach [e2] X.env)).any (·.1) = false) :
    PI X (.Tuple elts kk tpos) (.Call (.Name "zip" p) [e, e2] [] pos) (iZipML X.K ta) := by
  refine ⟨fun pins s σ H R I h => ?_⟩
  have go : ∀ us s1, (∃ vs H1, Inv X pins σ H1 s1 ∧ Vals vs us ∧ (∃ a b xs ys, vs = [.ref a, .ref b] ∧ SqL X.K H1 a xs ∧ SqL X.K H1 b ys ∧ R (ItzML X.K a b) H1)) → wpAny (model X.prog X.w) X.A (call (.type "zip") us) (fun v s2 => wpAny (model X.prog X.w) X.A (pyIter v) (PIE X pins σ (.Tuple elts kk tpos) R) X.xe s2) X.xe s1 := by
    rintro us s1 ⟨vs, H1, I1, r1, a, b, xs, ys, rfl, qx, qy, q⟩
    obtain ⟨u1, us, rfl, ra, r1⟩ : ∃ u us', us = u :: us' ∧ RelV (.ref a) u ∧ Vals [.ref b] us' := by
      cases r1 with
      | cons p p' => exact ⟨_, _, rfl, p, p'⟩
    obtain ⟨u2, us, rfl, rb, r1⟩ : ∃ u us', us = u :: us' ∧ RelV (.ref b) u ∧ Vals [] us' := by
      cases r1 with
      | cons p p' => exact ⟨_, _, rfl, p, p'⟩
    obtain rfl : us = [] := by cases r1; rfl
    obtain rfl : u1 = Value.ref a := ra
    obtain rfl : u2 = Value.ref b := rb
    obtain ⟨its, rv, pv, _⟩ := I1.list qx
    obtain ⟨jts, rw', pw, _⟩ := I1.list qy
    have la : a < s1.heap.objs.size := pv.lt
    have lb : b < s1.heap.objs.size := pw.lt
    refine zip_begins2 (begins_list a its.toArray) (begins_list b jts.toArray) pv.isList pw.isList fun h' hz hTI hTO g1 g2 hsz hk => wpAny_pyIter_zip hz ?_
    have hA : ∀ c ∈ [a], c < s1.heap.objs.size := fun c hc => (List.mem_singleton.mp hc) ▸ la
    have hB : ∀ c ∈ [b], c < s1.heap.objs.size := fun c hc => (List.mem_singleton.mp hc) ▸ lb
    have S := zip_sep2 hA hB
    refine ⟨s1.heap.objs.size + 4, [s1.heap.objs.size + 4, s1.heap.objs.size + 2, s1.heap.objs.size + 3, s1.heap.objs.size, s1.heap.objs.size + 1], _, _, H1, rfl, I1.kept (t' := s1.toks) hk, turn_zipML S (Nat.ne_of_lt la) (Nat.ne_of_lt (Nat.lt_succ_of_lt lb)), ⟨hz, hTI, ⟨_, _, hTO⟩, ⟨_, g1, rfl, rfl⟩, ⟨_, g2, rfl, rfl⟩⟩, fun c hcm => ?_, q⟩
    have hle : s1.heap.objs.size ≤ c := by
      rcases zm_fiveL hcm with rfl | rfl | rfl | rfl | rfl
      · exact Nat.le_add_right _ _
      · exact Nat.le_add_right _ _
      · exact Nat.le_add_right _ _
      · exact Nat.le_refl _
      · exact Nat.le_add_right _ _
    exact I1.fpOk hle (I1.hok.fresh hle)
  refine Call_ (ld_blt I hg hm PyProof.Rows.boot_zip (PyProof.Rows.callWith_type1 (thn (ha.run pos pins s σ H _ I h) fun us s1 q => ?_) hs hpl))
  obtain ⟨vs, H1, I1, r1, q1⟩ := q
  exact go us s1 ⟨vs, H1, I1, r1, q1⟩
end Va
namespace Va
open PySem PySem.Spec PyProof.Rows L2
inductive Tgt where
  | n (i : Nat) | t (is : List Nat)
def asgL : List Nat → List D → S → Option S
  | [], [], s => some s
  | i :: is, d :: ds, s => asgL is ds (s.set i (some d))
  | _, _, _ => none
def asgT : Tgt → D → S → Option S
  | .n i, d, s => some (s.set i (some d))
  | .t is, .tup ds, s => asgL is ds s
  | _, _, _ => none
def Tgt.slots : Tgt → List Nat
  | .n i => [i]
  | .t is => is
/-- a target's store: g v σ H Q holds if Q does behind it -/
def GOk (K : PySem.W.Frag) (t : Tgt) (g : TG) : Prop := ∀ {Fz H d v s s' σ fp} {Q : L2.St → Hp → Prop}, asgT t d s = some s' → Cfg K Fz H s σ fp → Rep K Fz H d v [] →
  (∀ σ' fp', Cfg K Fz H s' σ' fp' → (∀ a ∈ fp', a ∈ fp) → σ'.length = σ.length → (∀ i, i ∉ t.slots → σ'[i]? = σ[i]?) → Q σ' H) → g v σ H Q
def tgGs : List Nat → TGs
  | [] => gNil
  | i :: is => gCons (gName i) (tgGs is)
def tgG (K : PySem.W.Frag) : Tgt → TG
  | .n i => gName i
  | .t is => gTup K is.length (tgGs is)
def SG (Γ : Gam) (Φ : GCx → Prop) (tg : Expr) (t : Tgt) : Prop := ∀ X, On Γ Φ X → PG X tg (tgG X.K t)
def GsOk (K : PySem.W.Frag) (is : List Nat) (g : TGs) : Prop := ∀ {Fz H ds vs s s' σ fp} {Q : L2.St → Hp → Prop}, asgL is ds s = some s' → Cfg K Fz H s σ fp → RepL K Fz H ds vs [] →
  (∀ σ' fp', Cfg K Fz H s' σ' fp' → (∀ a ∈ fp', a ∈ fp) → σ'.length = σ.length → (∀ i, i ∉ is → σ'[i]? = σ[i]?) → Q σ' H) → g vs σ H Q
def SGs (Γ : Gam) (Φ : GCx → Prop) (ts : List Expr) (is : List Nat) : Prop := ∀ X, On Γ Φ X → PGs X ts (tgGs is)
theorem store0 {K : PySem.W.Frag} {Fz H d v s σ fp} {i : Nat} (C : Cfg K Fz H s σ fp) (r : Rep K Fz H d v []) : ∃ fp', Cfg K Fz H (s.set i (some d)) (σ.set i (some v)) fp' ∧ ∀ a ∈ fp', a ∈ fp := (C.atom r).store
theorem tgGs_ok {K : PySem.W.Frag} (is : List Nat) : GsOk K is (tgGs is) := by
  induction is with
  | nil =>
    intro Fz H ds vs s s' σ fp Q e C r k
    cases ds with
    | nil => cases e; cases r; exact ⟨rfl, k σ fp C (fun _ h => h) rfl fun _ _ => rfl⟩
    | cons d ds => cases e
  | cons i is ih =>
    intro Fz H ds vs s s' σ fp Q e C r k
    cases ds with
    | nil => cases e
    | cons d ds =>
      generalize hf : ([] : List Addr) = f at r
      cases r with
      | @cons _ v f1 _ vs f2 rd rs =>
        obtain ⟨h1, h2⟩ := List.append_eq_nil_iff.mp hf.symm
        subst h1 h2
        refine ⟨v, vs, rfl, ?_⟩
        obtain ⟨f2, C2, q2⟩ := store0 (i := i) C rd
        refine ih (show asgL is ds (s.set i (some d)) = some s' from e) C2 rs fun σ' fp' C3 q3 hlen hns => ?_
        refine k σ' fp' C3 (fun a h => q2 a (q3 a h)) (by rw [hlen]; simp) fun j hj => ?_
        have n1 : i ≠ j := by rintro rfl; exact hj (List.mem_cons_self ..)
        rw [hns j fun h => hj (List.mem_cons_of_mem _ h), List.getElem?_set_ne n1]
theorem tgG_ok {K : PySem.W.Frag} (t : Tgt) : GOk K t (tgG K t) := by
  cases t with
  | n i =>
    intro Fz H d v s s' σ fp Q e C r k
    cases e
    obtain ⟨f2, C2, h2⟩ := store0 (i := i) C r
    refine k _ _ C2 h2 (by simp) fun j hj => ?_
    have : i ≠ j := by rintro rfl; exact hj (List.mem_singleton.mpr rfl)
    rw [List.getElem?_set_ne this]
  | t is =>
    intro Fz H d v s s' σ fp Q e C r k
    cases d with
    | tup ds =>
      obtain ⟨a, vs, rfl, ha, rl⟩ := r.tupl
      have hlen : ∀ {is : List Nat} {ds : List D} {s s' : S}, asgL is ds s = some s' → ds.length = is.length := fun {is} => by
        induction is with
        | nil => intro ds s s' e; cases ds with
          | nil => rfl
          | cons d ds => cases e
        | cons i is ih => intro ds s s' e; cases ds with
          | nil => cases e
          | cons d ds => simp [ih (show asgL is ds (s.set i (some d)) = some s' from e)]
      exact ⟨a, vs, rfl, .inl ha, by rw [← rl.length]; exact hlen e, tgGs_ok is e C rl k⟩
    | _ => cases e
section
variable {Γ : Gam} {Φ : GCx → Prop}
theorem sg_n (i : Nat) {x : Str} {pos : Pos} (hN : Γ.N[i]? = some x := by rfl) (hl : gLoc Γ x = true := by rfl) : SG Γ Φ (.Name x pos) (.n i) := fun X o => pg_name o.nd (o.slot hN) (o.loc hl) (o.fnl hl)
theorem sgs_nil : SGs Γ Φ [] [] := fun X o => pgs_nil
theorem sgs_cons (i : Nat) {x : Str} {pos : Pos} {ts : List Expr} {is : List Nat} (hr : SGs Γ Φ ts is) (hN : Γ.N[i]? = some x := by rfl) (hl : gLoc Γ x = true := by rfl)
    (hs : ∀ env : Env, (assignEach (.Name x pos :: ts) env).map (·.2) = assign (.Name x pos) env :: (assignEach ts env).map (·.2) := by intro _; rfl) : SGs Γ Φ (.Name x pos :: ts) (i :: is) := fun X o =>
  pgs_cons (pg_name o.nd (o.slot hN) (o.loc hl) (o.fnl hl)) (hr X o) (hs _)
theorem sg_t {ts : List Expr} {is : List Nat} {k : Nat} {pos : Pos} (h : SGs Γ Φ ts is) (hn : ∀ env : Env, (assignEach ts env).length = is.length := by intro _; rfl) (hst : ∀ env : Env, (assignEach ts env).findIdx? (·.1) = none := by intro _; rfl) : SG Γ Φ (.Tuple ts k pos) (.t is) := fun X o =>
  pg_tup (n := is.length) o.calm (h X o) (hn _) (hst _)
end
/-- the iterator's ways, at any later heap: the items ds -/
structure ItOk (K : PySem.W.Frag) (Fz : Addr → Prop) (H : Hp) (J : It) (ds : List D) : Prop where
  go : ∀ {Fz2 : Addr → Prop} {H2 : Hp} {i : Nat}, (∀ a, Fz a → Fz2 a) → (∀ a o, Fz a → H a = some o → H2 a = some o) → i < ds.length → J.go i H2
  stop : ∀ {Fz2 : Addr → Prop} {H2 : Hp} {i : Nat}, (∀ a, Fz a → Fz2 a) → (∀ a o, Fz a → H a = some o → H2 a = some o) → ds.length ≤ i → J.stop i H2
  yld : ∀ {Fz2 : Addr → Prop} {H2 : Hp} {i : Nat} {d : D} {x : V} {H3 : Hp} {st : S} {σ : List (Option V)} {fp : List Addr}, (∀ a, Fz a → Fz2 a) → (∀ a o, Fz a → H a = some o → H2 a = some o) → ds[i]? = some d → Cfg K Fz2 H2 st σ fp → J.yld i H2 x H3 →
    ∃ Fz3, Cfg K Fz3 H3 st σ fp ∧ Go Fz2 H2 fp Fz3 H3 fp ∧ Rep K Fz3 H3 d x []
def rdI (K : PySem.W.Frag) (m : M (List D)) : TI := fun σ H R => ∃ Fz fp st, Cfg K Fz H st σ fp ∧ ∃ ds st', m st = some (ds, st') ∧ ∀ J H' Fz' fp', Cfg K Fz' H' st' σ fp' → Go Fz H fp Fz' H' fp' → ItOk K Fz' H' J ds → R J H'
def SI (Γ : Gam) (Φ : GCx → Prop) (tg iter : Expr) (m : M (List D)) : Prop := ∀ X, On Γ Φ X → PI X tg iter (rdI X.K m)
theorem itl_ok {K : PySem.W.Frag} {Fz : Addr → Prop} {H : Hp} {a : Addr} {ds : List D} {vs : List V} (q : H a = some (.lst vs) ∧ Fz a ∨ SqZ K Fz H a vs) (r : RepL K Fz H ds vs []) : ItOk K Fz H (Itl K a) ds := by
  have sq : ∀ {Fz2 : Addr → Prop} {H2 : Hp}, (∀ a, Fz a → Fz2 a) → (∀ a o, Fz a → H a = some o → H2 a = some o) → SqL K H2 a vs := fun {Fz2 H2} m k => by
    rcases q with ⟨q, z⟩ | q
    · exact .inl (.inl (k a _ z q))
    · exact (sqZ_keep m k q).sq
  have hl := r.length
  refine ⟨fun {Fz2 H2 i} m k hi => ?_, fun {Fz2 H2 i} m k hi => ⟨vs, sq m k, by omega⟩, fun {Fz2 H2 i d x H3 st σ fp} m k hd C y => ?_⟩
  · exact ⟨vs, vs[i]'(by omega), sq m k, by simp⟩
  · obtain ⟨rfl, hy⟩ := y
    obtain ⟨y, g, ey, ry, hg⟩ := r.get hd
    have := hy vs (sq m k)
    rw [this] at ey
    cases ey
    cases g with
    | nil => exact ⟨Fz2, C, .refl, ry.keep m k fun _ _ h => nomatch h⟩
    | cons b l => exact absurd (hg b (List.mem_cons_self ..)) (by simp)
theorem itt_ok {K : PySem.W.Frag} {Fz : Addr → Prop} {H : Hp} {a : Addr} {ds : List D} {vs : List V} (q : TupZ H a vs) (z : Fz a) (r : RepL K Fz H ds vs []) : ItOk K Fz H (Itt K a) ds := by
  have sq : ∀ {H2 : Hp}, (∀ a o, Fz a → H a = some o → H2 a = some o) → SqT K H2 a vs := fun {H2} k => (q.keep fun o e => k a o z e).sq
  have hl := r.length
  refine ⟨fun {Fz2 H2 i} m k hi => ⟨vs, vs[i]'(by omega), sq k, by simp⟩, fun {Fz2 H2 i} m k hi => ⟨vs, sq k, by omega⟩, fun {Fz2 H2 i d x H3 st σ fp} m k hd C y => ?_⟩
  obtain ⟨rfl, hy⟩ := y
  obtain ⟨y, g, ey, ry, hg⟩ := r.get hd
  have := hy vs (sq k)
  rw [this] at ey
  cases ey
  cases g with
  | nil => exact ⟨Fz2, C, .refl, ry.keep m k fun _ _ h => nomatch h⟩
  | cons b l => exact absurd (hg b (List.mem_cons_self ..)) (by simp)
/-- a pair that the iterator lays -/
theorem pair_new {K : PySem.W.Frag} {Fz2 : Addr → Prop} {H2 : Hp} {st : S} {σ : List (Option V)} {fp : List Addr} {T : Addr} {x y : V} {d e : D} {o : Obj} (hd : o.dict = none) (C : Cfg K Fz2 H2 st σ fp) (hT : H2 T = none) (rx : Rep K Fz2 H2 d x []) (ry : Rep K Fz2 H2 e y []) :
    ∃ Fz3, Cfg K Fz3 (upd H2 T (.frz o (.tup [x, y]))) st σ fp ∧ Go Fz2 H2 fp Fz3 (upd H2 T (.frz o (.tup [x, y]))) fp ∧ Rep K Fz3 (upd H2 T (.frz o (.tup [x, y]))) (.tup [d, e]) (.ref T) [] := by
  have kk : ∀ {a u}, H2 a = some u → upd H2 T (.frz o (.tup [x, y])) a = some u := fun {a u} e => by rw [upd_ne (ne_of_none e hT)]; exact e
  refine ⟨fun a => Fz2 a ∨ a = T, ⟨C.rep.keep (fun _ h => .inl h) (fun _ _ _ e => kk e) fun _ _ _ e => kk e, C.nd, fun a h z => ?_, fun a z => ?_⟩, ⟨fun _ _ e _ => kk e, fun a e => ?_, fun _ h => .inl h, fun a z => ?_, fun _ h => .inl h⟩,
    .tup ⟨o, upd_same, hd⟩ (.inr rfl) (.cons (f := []) (g := []) (rx.keep (fun _ h => .inl h) (fun _ _ _ e => kk e) fun _ _ h => nomatch h) (.cons (f := []) (g := []) (ry.keep (fun _ h => .inl h) (fun _ _ _ e => kk e) fun _ _ h => nomatch h) .nil))⟩
  · rcases z with z | z
    · exact C.fz a h z
    · rw [z] at h; exact C.there T h hT
  · by_cases ea : a = T
    · rw [ea, upd_same]; exact Option.some_ne_none _
    · rw [upd_ne ea]; exact C.ft a (z.resolve_right ea)
  · by_cases ea : a = T
    · rw [ea]; exact hT
    · rw [upd_ne ea] at e; exact e
  · rcases z with z | z
    · exact .inl z
    · rw [z]; exact .inr (.inr hT)
/-- (k, item) for each item -/
def enumD : Nat → List D → List D
  | _, [] => []
  | k, d :: ds => .tup [.int (k : Nat), d] :: enumD (k + 1) ds
theorem enumD_length : ∀ (k : Nat) (ds : List D), (enumD k ds).length = ds.length
  | _, [] => rfl
  | k, d :: ds => by simp [enumD, enumD_length (k + 1) ds]
theorem enumD_get : ∀ (ds : List D) (k i : Nat) (e : D), (enumD k ds)[i]? = some e → ∃ d, ds[i]? = some d ∧ e = .tup [.int ((k + i : Nat) : Nat), d]
  | [], _, _, _, h => by simp [enumD] at h
  | d :: ds, k, 0, e, h => by simp [enumD] at h; subst h; exact ⟨d, rfl, rfl⟩
  | d :: ds, k, i + 1, e, h => by
    obtain ⟨d', h1, h2⟩ := enumD_get ds (k + 1) i e (by simpa [enumD] using h)
    refine ⟨d', by simpa using h1, ?_⟩
    rw [h2]
    congr 3
    omega
theorem ite_ok {K : PySem.W.Frag} {Fz : Addr → Prop} {H : Hp} {a : Addr} {ds : List D} {vs : List V} (q : H a = some (.lst vs) ∧ Fz a ∨ SqZ K Fz H a vs) (r : RepL K Fz H ds vs []) : ItOk K Fz H (IteL K a) (enumD 0 ds) := by
  have sq : ∀ {Fz2 : Addr → Prop} {H2 : Hp}, (∀ a, Fz a → Fz2 a) → (∀ a o, Fz a → H a = some o → H2 a = some o) → SqL K H2 a vs := fun {Fz2 H2} m k => by
    rcases q with ⟨q, z⟩ | q
    · exact .inl (.inl (k a _ z q))
    · exact (sqZ_keep m k q).sq
  have hl := r.length
  have hl2 := enumD_length 0 ds
  refine ⟨fun {Fz2 H2 i} m k hi => ⟨vs, vs[i]'(by omega), sq m k, by simp⟩, fun {Fz2 H2 i} m k hi => ⟨vs, sq m k, by omega⟩, fun {Fz2 H2 i d x H3 st σ fp} m k hd C y => ?_⟩
  obtain ⟨T, x, rfl, hT, ⟨o, rfl, ho⟩, hy⟩ := y
  obtain ⟨d', hd', rfl⟩ := enumD_get ds 0 i d hd
  obtain ⟨y, g, ey, ry, hg⟩ := r.get hd'
  have := hy vs (sq m k)
  rw [this] at ey
  cases ey
  cases g with
  | nil =>
    rw [Nat.zero_add]
    exact pair_new ho C hT (.int _) (ry.keep m k fun _ _ h => nomatch h)
  | cons b l => exact absurd (hg b (List.mem_cons_self ..)) (by simp)
theorem iteT_ok {K : PySem.W.Frag} {Fz : Addr → Prop} {H : Hp} {a : Addr} {ds : List D} {vs : List V} (q : TupZ H a vs) (z : Fz a) (r : RepL K Fz H ds vs []) : ItOk K Fz H (IteT K a) (enumD 0 ds) := by
  have sq : ∀ {H2 : Hp}, (∀ a o, Fz a → H a = some o → H2 a = some o) → SqT K H2 a vs := fun {H2} k => (q.keep fun o e => k a o z e).sq
  have hl := r.length
  have hl2 := enumD_length 0 ds
  refine ⟨fun {Fz2 H2 i} m k hi => ⟨vs, vs[i]'(by omega), sq k, by simp⟩, fun {Fz2 H2 i} m k hi => ⟨vs, sq k, by omega⟩, fun {Fz2 H2 i d x H3 st σ fp} m k hd C y => ?_⟩
  obtain ⟨T, x, rfl, hT, ⟨o, rfl, ho⟩, hy⟩ := y
  obtain ⟨d', hd', rfl⟩ := enumD_get ds 0 i d hd
  obtain ⟨y, g, ey, ry, hg⟩ := r.get hd'
  have := hy vs (sq k)
  rw [this] at ey
  cases ey
  cases g with
  | nil =>
    rw [Nat.zero_add]
    exact pair_new ho C hT (.int _) (ry.keep m k fun _ _ h => nomatch h)
  | cons b l => exact absurd (hg b (List.mem_cons_self ..)) (by simp)
/-- (a, b) for the items of two -/
def zipD : List D → List D → List D
  | x :: xs, y :: ys => .tup [x, y] :: zipD xs ys
  | _, _ => []
theorem zipD_get : ∀ (xs ys : List D) (i : Nat) (e : D), (zipD xs ys)[i]? = some e → ∃ a b, xs[i]? = some a ∧ ys[i]? = some b ∧ e = .tup [a, b]
  | [], _, _, _, h => by simp [zipD] at h
  | _ :: _, [], _, _, h => by simp [zipD] at h
  | x :: xs, y :: ys, 0, e, h => by simp [zipD] at h; subst h; exact ⟨x, y, rfl, rfl, rfl⟩
  | x :: xs, y :: ys, i + 1, e, h => by
    obtain ⟨a, b, h1, h2, h3⟩ := zipD_get xs ys i e (by simpa [zipD] using h)
    exact ⟨a, b, by simpa using h1, by simpa using h2, h3⟩
theorem zipD_length : ∀ (xs ys : List D), (zipD xs ys).length = min xs.length ys.length
  | [], ys => by simp [zipD]
  | x :: xs, [] => by simp [zipD]
  | x :: xs, y :: ys => by simp [zipD, zipD_length xs ys]
theorem itz_ok {K : PySem.W.Frag} {Fz : Addr → Prop} {H : Hp} {a b : Addr} {ds es : List D} {vs ws : List V} (q : H a = some (.lst vs)) (z : Fz a) (q' : H b = some (.lst ws)) (z' : Fz b) (r : RepL K Fz H ds vs []) (r' : RepL K Fz H es ws []) : ItOk K Fz H (ItzML K a b) (zipD ds es) := by
  have sq : ∀ {H2 : Hp}, (∀ a o, Fz a → H a = some o → H2 a = some o) → SqL K H2 a vs := fun {H2} k => .inl (.inl (k a _ z q))
  have sq' : ∀ {H2 : Hp}, (∀ a o, Fz a → H a = some o → H2 a = some o) → SqL K H2 b ws := fun {H2} k => .inl (.inl (k b _ z' q'))
  have hl := r.length
  have hl' := r'.length
  have hl2 := zipD_length ds es
  refine ⟨fun {Fz2 H2 i} m k hi => ⟨vs, ws, vs[i]'(by omega), ws[i]'(by omega), sq k, sq' k, by simp, by simp⟩, fun {Fz2 H2 i} m k hi => ⟨vs, ws, sq k, sq' k, by omega⟩, fun {Fz2 H2 i d x H3 st σ fp} m k hd C y => ?_⟩
  obtain ⟨T, x, y, rfl, hT, ⟨o, rfl, ho⟩, hx, hy⟩ := y
  obtain ⟨d1, d2, h1, h2, rfl⟩ := zipD_get ds es i d hd
  obtain ⟨y1, g, ey, ry, hg⟩ := r.get h1
  obtain ⟨y2, g', ey', ry', hg'⟩ := r'.get h2
  rw [hx vs (sq k)] at ey
  rw [hy ws (sq' k)] at ey'
  cases ey
  cases ey'
  cases g with
  | nil =>
    cases g' with
    | nil => exact pair_new ho C hT (ry.keep m k fun _ _ h => nomatch h) (ry'.keep m k fun _ _ h => nomatch h)
    | cons b l => exact absurd (hg' b (List.mem_cons_self ..)) (by simp)
  | cons b l => exact absurd (hg b (List.mem_cons_self ..)) (by simp)
theorem itzT_ok {K : PySem.W.Frag} {Fz : Addr → Prop} {H : Hp} {a b : Addr} {ds es : List D} {vs ws : List V} (q : TupZ H a vs) (z : Fz a) (q' : TupZ H b ws) (z' : Fz b) (r : RepL K Fz H ds vs []) (r' : RepL K Fz H es ws []) : ItOk K Fz H (ItzMT K a b) (zipD ds es) := by
  have sq : ∀ {H2 : Hp}, (∀ a o, Fz a → H a = some o → H2 a = some o) → SqT K H2 a vs := fun {H2} k => (q.keep fun o e => k a o z e).sq
  have sq' : ∀ {H2 : Hp}, (∀ a o, Fz a → H a = some o → H2 a = some o) → SqT K H2 b ws := fun {H2} k => (q'.keep fun o e => k b o z' e).sq
  have hl := r.length
  have hl' := r'.length
  have hl2 := zipD_length ds es
  refine ⟨fun {Fz2 H2 i} m k hi => ⟨vs, ws, vs[i]'(by omega), ws[i]'(by omega), sq k, sq' k, by simp, by simp⟩, fun {Fz2 H2 i} m k hi => ⟨vs, ws, sq k, sq' k, by omega⟩, fun {Fz2 H2 i d x H3 st σ fp} m k hd C y => ?_⟩
  obtain ⟨T, x, y, rfl, hT, ⟨o, rfl, ho⟩, hx, hy⟩ := y
  obtain ⟨d1, d2, h1, h2, rfl⟩ := zipD_get ds es i d hd
  obtain ⟨y1, g, ey, ry, hg⟩ := r.get h1
  obtain ⟨y2, g', ey', ry', hg'⟩ := r'.get h2
  rw [hx vs (sq k)] at ey
  rw [hy ws (sq' k)] at ey'
  cases ey
  cases ey'
  cases g with
  | nil =>
    cases g' with
    | nil => exact pair_new ho C hT (ry.keep m k fun _ _ h => nomatch h) (ry'.keep m k fun _ _ h => nomatch h)
    | cons b l => exact absurd (hg' b (List.mem_cons_self ..)) (by simp)
  | cons b l => exact absurd (hg b (List.mem_cons_self ..)) (by simp)
end Va
namespace Va
open PySem PySem.Spec PyProof.Rows L2
def mItems (m : M D) : M (List D) := fun st => match m st with
  | some (d, s) => match seqOf (frzA d) with
    | some (_, xs) => some (xs, s)
    | none => none
  | none => none
section
variable {K : PySem.W.Frag}
/-- the front datum is frozen, and is left -/
theorem Cfg.frz1 {Fz : Addr → Prop} {H : Hp} {d : D} {v : V} {s : S} {σ : List (Option V)} {fp : List Addr} (C : Cfg K Fz H (some d :: s) (some v :: σ) fp) :
    ∃ Fz' f, Cfg K Fz' H s σ f ∧ Rep K Fz' H (frzA d) v [] ∧ Go Fz H fp Fz' H f := by
  obtain ⟨F, f, C1, r, g⟩ := Cfg.frzTemps (ds := [d]) (vs := [v]) rfl C
  obtain ⟨y, e, r'⟩ := r.get0 (i := 0) (x := frzA d) rfl
  cases e
  exact ⟨F, f, C1, r', g⟩
end
theorem frz_imm : ∀ d : D, imm (frz d) = true
  | .lst true _ => by simp [frz, imm]
  | .lst false _ => by simp [frz, imm]
  | .dic true _ => by simp [frz, imm]
  | .dic false _ => by simp [frz, imm]
  | .nd true _ => by simp [frz, imm]
  | .nd false _ => by simp [frz, imm]
  | .ld _ => by simp [frz, imm]
  | .non => rfl | .bl _ => rfl | .int _ => rfl | .str _ => rfl | .tup _ => rfl | .rol _ => rfl
theorem frzA_imm (d : D) : imm (frzA d) = true := by
  unfold frzA
  split
  · assumption
  · exact frz_imm d
section
variable {Γ : Gam} {Φ : GCx → Prop}
/-- a datum by its value -/
theorem si_e {tg e : Expr} {m : M D} (h : SE Γ Φ e m) : SI Γ Φ tg e (mItems m) := fun X o => by
  have P : PI X tg e (fun σ H R => iList X.K (rd X.K m) σ H R ∨ iTup X.K (rd X.K m) σ H R) := ⟨fun pins s σ H R I q => q.elim ((pi_list (h X o)).run pins s σ H R I) ((pi_tup (h X o)).run pins s σ H R I)⟩
  refine pi_imp P fun σ H R q => ?_
  obtain ⟨Fz, fp, st, C, ds, st', e, k⟩ := q
  unfold mItems at e
  split at e
  · rename_i d s hm
    split at e
    · rename_i b xs hq
      cases e
      have base : ∀ {v H' Fz' fp'}, Cfg X.K Fz' H' (some d :: st') (some v :: σ) fp' → Go Fz H fp Fz' H' fp' → ∃ Fz2 f2 , Cfg X.K Fz2 H' st' σ f2 ∧ Go Fz H fp Fz2 H' f2 ∧ Rep X.K Fz2 H' (frzA d) v [] := fun {v H' Fz' fp'} C1 g1 => by
        obtain ⟨F2, f2, C2, r2, g2⟩ := C1.frz1
        exact ⟨F2, f2, C2, g1.trans g2, r2⟩
      cases b with
      | true =>
        right
        refine ⟨Fz, fp, st, C, _, _, hm, fun v H' Fz' fp' C1 g1 => ?_⟩
        obtain ⟨F2, f2, C2, g2, r2⟩ := base C1 g1
        cases hd : frzA d <;> rw [hd] at hq r2 <;> simp [seqOf] at hq
        subst hq
        cases r2 with
        | tup q z r => exact ⟨_, rfl, ⟨_, q.sq⟩, k _ H' F2 f2 C2 g2 (itt_ok q z r)⟩
      | false =>
        left
        refine ⟨Fz, fp, st, C, _, _, hm, fun v H' Fz' fp' C1 g1 => ?_⟩
        obtain ⟨F2, f2, C2, g2, r2⟩ := base C1 g1
        cases hd : frzA d <;> rw [hd] at hq r2 <;> simp [seqOf] at hq
        · subst hq
          cases r2 with
          | rol q r => exact ⟨_, rfl, ⟨_, q.sq⟩, k _ H' F2 f2 C2 g2 (itl_ok (.inr q) r)⟩
        · subst hq
          have hi := frzA_imm d
          rw [hd] at hi
          generalize hfp : ([] : List Addr) = ff at r2
          cases r2 with
          | lstF q z r => exact ⟨_, rfl, ⟨_, .inl (.inl q)⟩, k _ H' F2 f2 C2 g2 (itl_ok (.inl ⟨q, z⟩) r)⟩
          | lstO q r => simp [imm] at hi
    · cases e
  · cases e
/-- enumerate(e) -/
def mEnum (m : M D) : M (List D) := fun st => match mItems m st with
  | some (ds, s) => some (enumD 0 ds, s)
  | none => none
theorem si_enum {e : Expr} {m : M D} {p pos tpos : Pos} {elts : List Expr} {kk : Nat} (h : SE Γ Φ e m) (hb : ∀ g, Φ g → g.mg "enumerate" = none) (hg : gGl Γ.sc "enumerate" = true := by rfl) (ns : NoStar e := by intro _ _; rfl) (ns0 : ∀ env : Env, starEach ([] : List Expr) env = [] := by intro _; rfl) :
    SI Γ Φ (.Tuple elts kk tpos) (.Call (.Name "enumerate" p) [e] [] pos) (mEnum m) := fun X o => by
  have pa := pa_cons (h X o) (pa_nil (X := X)) (ns _ _)
  have P : PI X (.Tuple elts kk tpos) (.Call (.Name "enumerate" p) [e] [] pos) (fun σ H R => iEnumL X.K (tCons (rd X.K m) tNil) σ H R ∨ iEnumT X.K (tCons (rd X.K m) tNil) σ H R) :=
    ⟨fun pins s σ H R I q => q.elim ((pi_enumL (o.gl hg) (hb _ o.phi) pa (ns _ _)).run pins s σ H R I) ((pi_enumT (o.gl hg) (hb _ o.phi) pa (ns _ _)).run pins s σ H R I)⟩
  refine pi_imp P fun σ H R q => ?_
  obtain ⟨Fz, fp, st, C, ds, st', e, k⟩ := q
  unfold mEnum at e
  split at e
  · rename_i ds' s' hm'
    cases e
    unfold mItems at hm'
    split at hm'
    · rename_i d s hm
      split at hm'
      · rename_i b xs hq
        cases hm'
        have base : ∀ {v H' Fz' fp'}, Cfg X.K Fz' H' (some d :: st') (some v :: σ) fp' → Go Fz H fp Fz' H' fp' → ∃ Fz2 f2 , Cfg X.K Fz2 H' st' σ f2 ∧ Go Fz H fp Fz2 H' f2 ∧ Rep X.K Fz2 H' (frzA d) v [] := fun {v H' Fz' fp'} C1 g1 => by
          obtain ⟨F2, f2, C2, r2, g2⟩ := C1.frz1
          exact ⟨F2, f2, C2, g1.trans g2, r2⟩
        cases b with
        | true =>
          right
          refine ⟨Fz, fp, st, C, _, _, hm, fun v H' Fz' fp' C1 g1 => ?_⟩
          obtain ⟨F2, f2, C2, g2, r2⟩ := base C1 g1
          cases hd : frzA d <;> rw [hd] at hq r2 <;> simp [seqOf] at hq
          subst hq
          cases r2 with
          | tup q z r => exact ⟨_, _, rfl, q.sq, k _ H' F2 f2 C2 g2 (iteT_ok q z r)⟩
        | false =>
          left
          refine ⟨Fz, fp, st, C, _, _, hm, fun v H' Fz' fp' C1 g1 => ?_⟩
          obtain ⟨F2, f2, C2, g2, r2⟩ := base C1 g1
          cases hd : frzA d <;> rw [hd] at hq r2 <;> simp [seqOf] at hq
          · subst hq
            cases r2 with
            | rol q r => exact ⟨_, _, rfl, q.sq, k _ H' F2 f2 C2 g2 (ite_ok (.inr q) r)⟩
          · subst hq
            have hi := frzA_imm d
            rw [hd] at hi
            generalize hfp : ([] : List Addr) = ff at r2
            cases r2 with
            | lstF q z r => exact ⟨_, _, rfl, .inl (.inl q), k _ H' F2 f2 C2 g2 (ite_ok (.inl ⟨q, z⟩) r)⟩
            | lstO q r => simp [imm] at hi
      · cases hm'
    · cases hm'
  · cases e
/-- range(a), range(a, b) -/
def mRg1 (m : M D) : M (List D) := fun st => match m st with
  | some (.int n, s) => match smallI n with
    | true => some (rgD 0 n, s)
    | false => none
  | _ => none
def mRg2 (m m' : M D) : M (List D) := fun st => match m st with
  | some (.int a, s) => match m' s with
    | some (.int b, s') => match smallI a && smallI b with
      | true => some (rgD a b, s')
      | false => none
    | _ => none
  | _ => none
theorem rgD_get {a b : Int} {i : Nat} {d : D} (h : (rgD a b)[i]? = some d) : d = .int (a + (i : Nat)) := by
  unfold rgD at h
  rw [List.getElem?_map] at h
  cases e : (List.range (b - a).toNat)[i]? with
  | none => rw [e] at h; cases h
  | some j =>
    rw [e] at h
    obtain ⟨h1, h2⟩ := List.getElem?_eq_some_iff.mp e
    rw [List.getElem_range] at h2
    cases h
    rw [h2]
theorem itr_ok {K : PySem.W.Frag} {Fz : Addr → Prop} {H : Hp} {a b : Int} : ItOk K Fz H (Itr a (b - a).toNat) (rgD a b) := by
  have hl : (rgD a b).length = (b - a).toNat := by unfold rgD; simp
  refine ⟨fun m k hi => by rw [hl] at hi; exact hi, fun m k hi => by rw [hl] at hi; exact hi, fun {Fz2 H2 i d x H3 st σ fp} m k hd C y => ?_⟩
  obtain ⟨rfl, rfl⟩ := y
  have := rgD_get hd
  subst this
  exact ⟨Fz2, C, .refl, .int _⟩
theorem si_rg1 {tg e : Expr} {m : M D} {p pos : Pos} (h : SE Γ Φ e m) (hb : ∀ g, Φ g → g.mg "range" = none) (hg : gGl Γ.sc "range" = true := by rfl) (ns : NoStar e := by intro _ _; rfl) : SI Γ Φ tg (.Call (.Name "range" p) [e] [] pos) (mRg1 m) := fun X o =>
  pi_imp (pi_range1 (o.gl hg) (hb _ o.phi) (pa_cons (h X o) pa_nil (ns _ _)) (by exact ns _ _)) fun σ H R q => by
    obtain ⟨Fz, fp, st, C, ds, st', e, k⟩ := q
    unfold mRg1 at e
    split at e
    · rename_i n s hm
      split at e
      · rename_i hs
        cases e
        refine ⟨Fz, fp, st, C, _, _, hm, fun v H' Fz' fp' C1 g1 => ?_⟩
        obtain ⟨v', f, e', r, _⟩ := C1.head
        cases e'
        obtain ⟨f2, C2, h2⟩ := C1.drop
        have hs' := smallI_ok hs
        have hk := k (Itr 0 (n - 0).toNat) H' Fz' f2 C2 (g1.sub h2) itr_ok
        rw [Int.sub_zero] at hk
        exact ⟨n, by rw [r.inti], hs'.1, hs'.2, hk⟩
      · cases e
    · cases e
theorem si_rg2 {tg e e' : Expr} {m m' : M D} {p pos : Pos} (h : SE Γ Φ e m) (h' : SE Γ Φ e' m') (hb : ∀ g, Φ g → g.mg "range" = none) (hg : gGl Γ.sc "range" = true := by rfl) (ns : NoStar e := by intro _ _; rfl) (ns' : NoStar e' := by intro _ _; rfl) (ns0 : ∀ env : Env, starEach ([] : List Expr) env = [] := by intro _; rfl) :
    SI Γ Φ tg (.Call (.Name "range" p) [e, e'] [] pos) (mRg2 m m') := fun X o =>
  pi_imp (pi_range2 (o.gl hg) (hb _ o.phi) (pa_cons (h X o) (pa_cons (h' X o) pa_nil (ns' _ _)) (ns _ _)) (by rw [ns, ns', ns0]) (by rw [ns', ns0])) fun σ H R q => by
    obtain ⟨Fz, fp, st, C, ds, st', e, k⟩ := q
    unfold mRg2 at e
    split at e
    · rename_i a s hm
      split at e
      · rename_i b s' hm'
        split at e
        · rename_i hs
          cases e
          simp only [Bool.and_eq_true] at hs
          have s1 := smallI_ok hs.1
          have s2 := smallI_ok hs.2
          refine ⟨Fz, fp, st, C, _, _, hm, fun v H' Fz' fp' C1 g1 => ?_⟩
          obtain ⟨v', f, e', r, _⟩ := C1.head
          have e2 := Option.some.inj e'
          subst e2
          refine rd.run (P := [some (.int a)]) (PV := [some v]) C1 rfl hm' fun w H2 Fz2 fp2 C2 g2 => ?_
          obtain ⟨w', f', e', r', _⟩ := C2.head
          cases e'
          obtain ⟨f3, C3, h3⟩ := C2.drop
          obtain ⟨f4, C4, h4⟩ := Cfg.drop (st := st') (σ := σ) (x := some (.int a)) (y := some v) C3
          exact ⟨a, b, by rw [r.inti, r'.inti], ⟨s1.1, s1.2, s2.1, s2.2⟩, k _ H2 Fz2 f4 C4 ((g1.trans g2).sub fun x h => h3 x (h4 x h)) itr_ok⟩
        · cases e
      · cases e
    · cases e
end
def forL (t : Tgt) (b : M Fl) : List D → M Fl
  | [] => fun st => some (.nx, st)
  | d :: ds => fun st => match asgT t d st with
    | some s => match b s with
      | some (.nx, s') => forL t b ds s'
      | some (.ct, s') => forL t b ds s'
      | some (.bk, s') => some (.nx, s')
      | some (.ret d, s') => some (.ret d, s')
      | none => none
    | none => none
def mFor (mi : M (List D)) (t : Tgt) (b : M Fl) : M Fl := fun st => match mi st with
  | some (ds, s) => forL t b ds s
  | none => none
section
variable {Γ : Gam} {Φ : GCx → Prop} {RO : Nat → Bool}
theorem s_for {tg iter : Expr} {body : List Stmt} {mi : M (List D)} {t : Tgt} {mb : M Fl} {pos : Pos} (hi : SI Γ Φ tg iter mi) (ht : SG Γ Φ tg t) (hb : SS Γ Φ RO body mb) (hro : t.slots.all (fun i => !RO i) = true := by rfl) (hs : ∀ (env : Env) x, foldedSetIterable iter env x = pure x := by intro _ _; rfl) :
    ST1 Γ Φ RO (.For tg iter body [] pos) (mFor mi t mb) := fun X o hp => by
  have gok : GOk X.K t (tgG X.K t) := tgG_ok t
  refine ps_imp (ps_for hp o.calm (hi X o) (ht X o) (hb X o hp) (hs _)) fun D' σ0 H0 q => ?_
  obtain ⟨Fz0, fp0, st0, C0, fl, st', e0, k0⟩ := q
  unfold mFor at e0
  split at e0
  · rename_i ds s0 hm0
    refine ⟨Fz0, fp0, st0, C0, ds, s0, hm0, fun J H1 Fz1 fp1 C1 g1 it => ?_⟩
    refine ⟨fun i m σ H => ∃ Fz fp st, Cfg X.K Fz H st σ fp ∧ m + i = ds.length ∧ forL t mb (ds.drop i) st = some (fl, st') ∧ (∀ i, RO i = true → σ[i]? = σ0[i]?) ∧ Go Fz0 H0 fp0 Fz H fp ∧ Go Fz1 H1 fp1 Fz H fp,
      ⟨ds.length, Fz1, fp1, s0, C1, rfl, e0, fun _ _ => rfl, g1, .refl⟩, ?_⟩
    rintro i m σ H ⟨Fz, fp, st, C, hmi, e, ro, gg, gl⟩
    have zk : ∀ a o, Fz1 a → H1 a = some o → H a = some o := fun a o z e => gl.keep a o e fun q => C1.fz a q z
    by_cases hlt : i < ds.length
    · right
      refine ⟨it.go gl.fzm zk hlt, fun σ' H' => ∃ Fz fp st, Cfg X.K Fz H' st σ' fp ∧ forL t mb (ds.drop (i + 1)) st = some (fl, st') ∧ (∀ i, RO i = true → σ'[i]? = σ0[i]?) ∧ Go Fz0 H0 fp0 Fz H' fp ∧ Go Fz1 H1 fp1 Fz H' fp,
        fun σ' H' ⟨Fz, fp, st, C, e, ro, g, g'⟩ => ⟨m - 1, by omega, Fz, fp, st, C, by omega, e, ro, g, g'⟩, fun x H' y => ?_⟩
      have hd : ds[i]? = some ds[i] := List.getElem?_eq_getElem hlt
      rw [List.drop_eq_getElem_cons hlt] at e
      obtain ⟨Fz3, C3, g3, r3⟩ := it.yld gl.fzm zk hd C y
      unfold forL at e
      split at e
      · rename_i s ha
        refine gok ha C3 r3 fun σ' fp' C4 h4 hlen hns => ?_
        have ro4 : ∀ i, RO i = true → σ'[i]? = σ0[i]? := fun j hj => by
          rw [hns j fun hm => ?_]
          · exact ro j hj
          · rw [List.all_eq_true] at hro
            have := hro j hm
            rw [hj] at this; cases this
        have ga := (gg.trans g3).sub h4
        have gb := (gl.trans g3).sub h4
        split at e
        · rename_i s' hb'
          exact ⟨Fz3, fp', s, C4, .nx, s', hb', fun σ2 H2 Fz2 fp2 r2 g2 C2 => ⟨Fz2, fp2, s', C2, e, fun i hi => (r2 i hi).trans (ro4 i hi), ga.trans g2, gb.trans g2⟩⟩
        · rename_i s' hb'
          exact ⟨Fz3, fp', s, C4, .ct, s', hb', fun σ2 H2 Fz2 fp2 r2 g2 C2 => ⟨Fz2, fp2, s', C2, e, fun i hi => (r2 i hi).trans (ro4 i hi), ga.trans g2, gb.trans g2⟩⟩
        · rename_i s' hb'
          cases e
          exact ⟨Fz3, fp', s, C4, .bk, _, hb', fun σ2 H2 Fz2 fp2 r2 g2 C2 => k0 σ2 H2 Fz2 fp2 (fun i hi => (r2 i hi).trans (ro4 i hi)) (ga.trans g2) C2⟩
        · rename_i d s' hb'
          cases e
          exact ⟨Fz3, fp', s, C4, .ret d, _, hb', fun σ2 H2 Fz2 fp2 r2 g2 v C2 => k0 σ2 H2 Fz2 fp2 (fun i hi => (r2 i hi).trans (ro4 i hi)) (ga.trans g2) v C2⟩
        · cases e
      · cases e
    · left
      refine ⟨it.stop gl.fzm zk (by omega), ?_⟩
      rw [List.drop_eq_nil_of_le (by omega)] at e
      cases e
      exact k0 σ H Fz fp ro gg C
  · cases e0
end
end Va
namespace Va
open PySem PySem.Spec PyProof.Rows L2
def relS (scope sc : Scope) : Scope := relabel scope (envS sc)
theorem relabel_eq {scope : Scope} {env : Env} {sc : Scope} (h : env.scope = sc) : relabel scope env = relS scope sc := by
  have h2 : env.kindOf = (envS sc).kindOf := by funext x; unfold Env.kindOf; rw [h]; rfl
  unfold relS relabel
  rw [h2, h]
  rfl
/-- a comprehension's block -/
def Gam.blk (Γ : Gam) (scope : Scope) : Gam := { N := Γ.N, sc := relS scope Γ.sc, fnm := fun x => scope.names.lookup x == some .cell }
theorem On.blk {Γ : Gam} {Φ : GCx → Prop} {X : Cx} (o : On Γ Φ X) {scope : Scope} (hk : (relS scope Γ.sc).kind = .function) (s : Shared) (H : Hp) (C : Addr) (cl : List (Str × Addr)) (fp : List Addr) : On (Γ.blk scope) Φ (X.blk s H scope (compEnvC scope cl C X.env) fp) where
  N := o.N
  sc := relabel_eq o.sc
  nd := o.nd
  calm := o.calm
  kind := by
    show (relabel scope X.env).kind = .function
    rw [relabel_eq o.sc]; exact hk
  fn := fun x h => h
  hu := o.hu
  phi := o.phi
def wipeS (s : S) : List Nat → S
  | [] => s
  | v :: vs => (wipeS s vs).set v none
/-- the slots as they were ahead of the block -/
def backS (orig : S) (s : S) : List Nat → S
  | [] => s
  | v :: vs => (backS orig s vs).set v (orig[v]?.getD none)
def backT (orig : L2.St) (σ : L2.St) : List Nat → L2.St
  | [] => σ
  | v :: vs => (backT orig σ vs).set v (orig[v]?.getD none)
def ownOk (s : S) (own : List Nat) : Bool := own.all fun v => match s[v]? with
  | some (some d) => imm d
  | _ => true
section
variable {K : PySem.W.Frag} {Fz : Addr → Prop} {H : Hp} {s : S} {σ : L2.St} {fp : List Addr}
theorem Cfg.unset {i : Nat} {y : Option V} (C : Cfg K Fz H s σ fp) : ∃ fp', Cfg K Fz H (s.set i none) (σ.set i y) fp' ∧ ∀ a ∈ fp', a ∈ fp := by
  by_cases hi : i < s.length
  · obtain ⟨R, nd, fz, ft⟩ := C
    obtain ⟨y0, f1, g1, ey, ro, p, put⟩ := R.at (i := i) (List.getElem?_eq_getElem hi)
    obtain ⟨fp', R', p'⟩ := put (Fz' := Fz) (H' := H) (fun {e w kk} _ ro => ro) (x' := none) (y' := y) .skip
    have nd1 := p.nodup_iff.mp nd
    have sub : ∀ a ∈ fp', a ∈ fp := fun a h => p.mem_iff.mpr (List.mem_append_right _ (by simpa using p'.mem_iff.mp h))
    exact ⟨fp', ⟨R', p'.nodup_iff.mpr (by simpa using (List.nodup_append.mp nd1).2.1), fun a h => fz a (sub a h), ft⟩, sub⟩
  · have hl := C.rep.length
    rw [List.set_eq_of_length_le (by omega), List.set_eq_of_length_le (by omega)]
    exact ⟨fp, C, fun _ h => h⟩
theorem Cfg.wipe (C : Cfg K Fz H s σ fp) : ∀ vs : List Nat, ∃ fp', Cfg K Fz H (wipeS s vs) (L2.wipe σ vs) fp' ∧ ∀ a ∈ fp', a ∈ fp
  | [] => ⟨fp, C, fun _ h => h⟩
  | v :: vs => by
    obtain ⟨f1, C1, h1⟩ := C.wipe vs
    obtain ⟨f2, C2, h2⟩ := C1.unset (i := v) (y := none)
    exact ⟨f2, C2, fun a h => h1 a (h2 a h)⟩
theorem backT_back {σ : L2.St} : ∀ vs : List Nat, backT σ (L2.wipe σ vs) vs = σ
  | [] => rfl
  | v :: vs => by
    have ih := backT_back (σ := σ) vs
    have hset : ∀ (vs : List Nat) (τ : L2.St) (w : Nat), backT σ (τ.set w none) vs = (backT σ τ vs).set w none ∨ ∃ x, backT σ (τ.set w none) vs = (backT σ τ vs).set w x := fun vs => by
      induction vs with
      | nil => intro τ w; exact .inl rfl
      | cons u us ih =>
        intro τ w
        right
        by_cases e : u = w
        · subst e
          rcases ih τ u with h | ⟨x, h⟩
          · exact ⟨_, by unfold backT; rw [h, List.set_set]; exact (List.set_set ..).symm⟩
          · exact ⟨_, by unfold backT; rw [h, List.set_set]; exact (List.set_set ..).symm⟩
        · rcases ih τ w with h | ⟨x, h⟩
          · exact ⟨none, by unfold backT; rw [h, List.set_comm _ _ (Ne.symm e)]⟩
          · exact ⟨x, by unfold backT; rw [h, List.set_comm _ _ (Ne.symm e)]⟩
    have fin : ∀ x, (σ.set v x).set v (σ[v]?.getD none) = σ := fun x => by
      rw [List.set_set]
      by_cases hv : v < σ.length
      · exact set_same (by rw [List.getElem?_eq_getElem hv]; rfl)
      · exact List.set_eq_of_length_le (by omega)
    show (backT σ ((L2.wipe σ vs).set v none) vs).set v (σ[v]?.getD none) = σ
    rcases hset vs (L2.wipe σ vs) v with h | ⟨x, h⟩
    · rw [h, ih]; exact fin _
    · rw [h, ih]; exact fin _
/-- what was hidden comes back -/
theorem Cfg.back {Fz0 : Addr → Prop} {H0 : Hp} {s0 : S} {σ0 : L2.St} {fp0 : List Addr} (C0 : Cfg K Fz0 H0 s0 σ0 fp0) (m : ∀ a, Fz0 a → Fz a) (k : ∀ a o, Fz0 a → H0 a = some o → H a = some o) (C : Cfg K Fz H s σ fp) : ∀ vs : List Nat, ownOk s0 vs = true → ∃ fp', Cfg K Fz H (backS s0 s vs) (backT σ0 σ vs) fp' ∧ ∀ a ∈ fp', a ∈ fp
  | [], _ => ⟨fp, C, fun _ h => h⟩
  | v :: vs, ok => by
    simp only [ownOk, List.all_cons, Bool.and_eq_true] at ok
    obtain ⟨f1, C1, h1⟩ := C0.back m k C vs ok.2
    have ok1 := ok.1
    unfold backS backT
    cases e : s0[v]? with
    | none =>
      obtain ⟨f2, C2, h2⟩ := C1.unset (i := v) (y := σ0[v]?.getD none)
      exact ⟨f2, C2, fun a h => h1 a (h2 a h)⟩
    | some od =>
      cases od with
      | none =>
        obtain ⟨f2, C2, h2⟩ := C1.unset (i := v) (y := σ0[v]?.getD none)
        exact ⟨f2, C2, fun a h => h1 a (h2 a h)⟩
      | some d =>
        rw [e] at ok1
        obtain ⟨w, f, ew, rw', _⟩ := C0.get e
        have := rw'.imm ok1
        subst this
        rw [ew]
        obtain ⟨f2, C2, h2⟩ := store0 (i := v) C1 (rw'.keep m k fun _ _ h => nomatch h)
        exact ⟨f2, C2, fun a h => h1 a (h2 a h)⟩
/-- a datum goes to the end of an owned list -/
theorem Cfg.push {d : D} {xs : List D} {v : V} {D0 : Addr} (C : Cfg K Fz H (some d :: some (.lst true xs) :: s) (some v :: some (.ref D0) :: σ) fp) : ∃ acc, H D0 = some (.lst acc) ∧ acc.length = xs.length ∧
    ∃ fp', Cfg K Fz (upd H D0 (.lst (acc ++ [v]))) (some (.lst true (xs ++ [d])) :: s) (some (.ref D0) :: σ) fp' ∧ Go Fz H fp Fz (upd H D0 (.lst (acc ++ [v]))) fp' := by
  obtain ⟨R, nd, fz, ft⟩ := C
  cases R with
  | @cons _ _ f1 g1 _ _ r1 rr =>
    cases rr with
    | @cons _ _ f2 g2 _ _ r2 rs =>
      cases r1 with
      | som rd =>
        cases r2 with
        | som rl =>
          cases rl with
          | @lstO _ _ acc f3 q r3 =>
            have nd1 := List.nodup_append.mp nd
            have nd2 := List.nodup_append.mp nd1.2.1
            have nd3 := List.nodup_cons.mp nd2.1
            have k1 : ∀ b o, b ≠ D0 → H b = some o → upd H D0 (.lst (acc ++ [v])) b = some o := fun b o hb e => by rw [upd_ne hb]; exact e
            have nz : ∀ a, Fz a → a ≠ D0 := fun a z e => fz D0 (List.mem_append_right _ (List.mem_append_left _ (List.mem_cons_self ..))) (e ▸ z)
            have kz : ∀ a o, Fz a → H a = some o → upd H D0 (.lst (acc ++ [v])) a = some o := fun a o z e => k1 a o (nz a z) e
            have n1 : ∀ a ∈ f1, a ≠ D0 := fun a h e => nd1.2.2 a h D0 (List.mem_append_left _ (List.mem_cons_self ..)) e
            have n3 : ∀ a ∈ f3, a ≠ D0 := fun a h e => nd3.1 (e ▸ h)
            have n2 : ∀ a ∈ g2, a ≠ D0 := fun a h e => nd2.2.2 D0 (List.mem_cons_self ..) a h e.symm
            have p : (D0 :: (f3 ++ (f1 ++ [])) ++ g2).Perm (f1 ++ (D0 :: f3 ++ g2)) := by
              rw [List.append_nil]
              refine ((List.perm_append_comm (l₁ := f3) (l₂ := f1)).cons D0 |>.append_right g2).trans ?_
              show (D0 :: ((f1 ++ f3) ++ g2)).Perm (f1 ++ (D0 :: (f3 ++ g2)))
              rw [List.append_assoc]
              exact List.perm_middle.symm
            have R' : RepS K Fz (upd H D0 (.lst (acc ++ [v]))) (some (.lst true (xs ++ [d])) :: s) (some (.ref D0) :: σ) (D0 :: (f3 ++ (f1 ++ [])) ++ g2) :=
              .cons (.som (.lstO upd_same ((r3.keep (fun _ h => h) kz fun a o h e => k1 a o (n3 a h) e).app (.cons (rd.keep (fun _ h => h) kz fun a o h e => k1 a o (n1 a h) e) .nil)))) (rs.keep (fun _ h => h) kz fun a o h e => k1 a o (n2 a h) e)
            have mem : D0 ∈ f1 ++ (D0 :: f3 ++ g2) := List.mem_append_right _ (List.mem_append_left _ (List.mem_cons_self ..))
            refine ⟨acc, q, (RepL.length r3).symm, _, ⟨R', p.nodup_iff.mpr nd, fun a h => fz a (p.mem_iff.mp h), fun a z e => ?_⟩, ⟨fun a o e n => k1 a o (fun ea => n (ea ▸ mem)) e, fun a e => ?_, fun _ h => h, fun _ h => .inl h, fun a h => .inl (p.mem_iff.mp h)⟩⟩
            · rw [upd_ne (nz a z)] at e; exact ft a z e
            · by_cases ea : a = D0
              · subst ea; rw [upd_same] at e; cases e
              · rw [upd_ne ea] at e; exact e
end
def lcL (t : Tgt) (mt : M Bool) (me : M D) (own : List Nat) : List D → M (List D)
  | [] => fun st => some ([], st)
  | d :: ds => fun st => match asgT t d st with
    | some s1 => match mt s1 with
      | some (true, s2) => match me s2 with
        | some (y, s3) => match lcL t mt me own ds (wipeS s3 own) with
          | some (out, s4) => some (y :: out, s4)
          | none => none
        | none => none
      | some (false, s2) => lcL t mt me own ds (wipeS s2 own)
      | none => none
    | none => none
def mLc (mi : M (List D)) (t : Tgt) (mt : M Bool) (me : M D) (own : List Nat) : M D := fun st => match mi st with
  | some (ds, s) => match ownOk s own && Nat.ble ds.length LN with
    | true => match lcL t mt me own ds (wipeS s own) with
      | some (out, s') => some (.lst true out, backS s s' own)
      | none => none
    | false => none
  | none => none
def mYes : M Bool := fun st => some (true, st)
def STs (Γ : Gam) (Φ : GCx → Prop) (ifs : List Expr) (m : M Bool) : Prop := ∀ X, On Γ Φ X → PTs X ifs (rdT X.K m)
section
variable {Γ : Gam} {Φ : GCx → Prop}
theorem sts_nil : STs Γ Φ [] mYes := fun X o => ⟨fun pins s σ H Q I q => pts_nil.run pins s σ H Q I (by
  obtain ⟨Fz, fp, st, C, b, st', e, k⟩ := q
  cases e
  exact k H Fz fp C .refl)⟩
theorem sts_one {c : Expr} {m : M Bool} (h : ST Γ Φ c m) : STs Γ Φ [c] m := fun X o => pts_one (h X o)
theorem cfg_single {K : PySem.W.Frag} {Fz H s σ fp s'} {x : Option D} {y : Option V} {t : Tgt} {d : D} {v : V} {Q : L2.St → Hp → Prop} (gok : GOk K t (tgG K t)) (C : Cfg K Fz H (x :: s) (y :: σ) fp) (ha : asgT t d s = some s') (r : Rep K Fz H d v [])
    (k : ∀ σ' fp', Cfg K Fz H (x :: s') (y :: σ') fp' → (∀ a ∈ fp', a ∈ fp) → σ'.length = σ.length → (∀ i, i ∉ t.slots → σ'[i]? = σ[i]?) → Q σ' H) : tgG K t v σ H Q := by
  obtain ⟨fP, f0, C0, fr⟩ := Cfg.frame (P := [x]) (PV := [y]) C rfl
  refine gok ha C0 r fun σ1 f1 C1 h1 hl hn => ?_
  obtain ⟨f2, C2, g2, _⟩ := fr C1 (Go.refl.sub h1)
  obtain ⟨R0, nd0, fz0, ft0⟩ := C
  exact k σ1 f2 C2 (fun a h => (g2.fpn a h).elim id fun z => absurd z (C2.there a h)) hl hn
theorem wipe_get : ∀ (own : List Nat) (τ : L2.St) (i : Nat), (L2.wipe τ own)[i]? = if i ∈ own then (if i < τ.length then some none else none) else τ[i]? := fun own => by
  induction own with
  | nil => intro τ i; simp [L2.wipe]
  | cons v vs ih =>
    intro τ i
    unfold L2.wipe
    rw [List.getElem?_set]
    have hlw := wipe_length τ vs
    by_cases e : v = i
    · subst e
      simp only [if_true, List.mem_cons, true_or, hlw]
    · rw [if_neg e, ih]
      have : (i ∈ v :: vs) ↔ i ∈ vs := by simp [List.mem_cons, Ne.symm e]
      simp only [this]
theorem wipe_of {t : Tgt} {own : List Nat} {σ σ' : L2.St} (hs : t.slots.all (fun i => own.any (· == i)) = true) (hl : σ'.length = (L2.wipe σ own).length) (hn : ∀ i, i ∉ t.slots → σ'[i]? = (L2.wipe σ own)[i]?) : L2.wipe σ' own = L2.wipe σ own := by
  rw [wipe_length] at hl
  apply List.ext_getElem?
  intro i
  rw [wipe_get, wipe_get, hl]
  by_cases h : i ∈ own
  · rw [if_pos h, if_pos h]
  · rw [if_neg h, if_neg h]
    have := hn i fun hm => h (by
      rw [List.all_eq_true] at hs
      have := hs i hm
      rw [List.any_eq_true] at this
      obtain ⟨j, hj, e⟩ := this
      have := eq_of_beq e
      subst this
      exact hj)
    rw [this, wipe_get, if_neg h]
theorem Cfg.wipe1 {K : PySem.W.Frag} {Fz H s σ fp} {x : Option D} {y : Option V} (C : Cfg K Fz H (x :: s) (y :: σ) fp) (vs : List Nat) : ∃ fp', Cfg K Fz H (x :: wipeS s vs) (y :: L2.wipe σ vs) fp' ∧ ∀ a ∈ fp', a ∈ fp := by
  obtain ⟨fP, f0, C0, fr⟩ := Cfg.frame (P := [x]) (PV := [y]) C rfl
  obtain ⟨f1, C1, h1⟩ := C0.wipe vs
  obtain ⟨f2, C2, g2, _⟩ := fr C1 (Go.refl.sub h1)
  exact ⟨f2, C2, fun a h => (g2.fpn a h).elim id fun z => absurd z (C2.there a h)⟩
/-- the turns of a comprehension -/
theorem lc_reads {K : PySem.W.Frag} {mi : M (List D)} {t : Tgt} {mt : M Bool} {me : M D} {own : List Nat} (hs : t.slots.all (fun i => own.any (· == i)) = true) {σ0 : L2.St} {H0 : Hp} {Q : VK} (q : rd K (mLc mi t mt me own) σ0 H0 Q) :
    tLc (rdI K mi) (tgG K t) (rdT K mt) (rd K me) own σ0 H0 Q := by
  obtain ⟨Fz0, fp0, st0, C0, dz, st', e0, k0⟩ := q
  unfold mLc at e0
  split at e0
  · rename_i ds s0 hm0
    split at e0
    · rename_i hok
      simp only [Bool.and_eq_true] at hok
      split at e0
      · rename_i out s' hL
        cases e0
        refine ⟨Fz0, fp0, st0, C0, ds, s0, hm0, fun J H1 Fz1 fp1 C1 g1 it D0 hD0 => ?_⟩
        have hlen : ds.length ≤ sizeLine := by rw [← LN_eq]; exact Nat.le_of_ble_eq_true hok.2
        -- the new list
        obtain ⟨fw, Cw, hw⟩ := C1.wipe own
        have start : ∃ Fz fp, Cfg K Fz (upd H1 D0 (.lst [])) (some (.lst true []) :: wipeS s0 own) (some (.ref D0) :: L2.wipe σ0 own) fp ∧ Go Fz1 H1 fp1 Fz (upd H1 D0 (.lst [])) fp := by
          have := fin_lst (K := K) (Fz := Fz1) (H := H1) (fp := fp1) (σ := L2.wipe σ0 own) (zs := []) (s := wipeS s0 own) (T := []) (TV := []) (vs := []) (Q := fun v H' => v = .ref D0 ∧ H' = upd H1 D0 (.lst []) → ∃ Fz fp, Cfg K Fz (upd H1 D0 (.lst [])) (some (.lst true []) :: wipeS s0 own) (some (.ref D0) :: L2.wipe σ0 own) fp ∧ Go Fz1 H1 fp1 Fz (upd H1 D0 (.lst [])) fp)
            (fun v H' Fz' fp' C g ⟨e1, e2⟩ => by subst e1 e2; exact ⟨Fz', fp', C, g⟩) rfl Cw (Go.refl.sub hw) .nil D0 hD0
          exact this ⟨rfl, rfl⟩
        obtain ⟨FzS, fpS, CS, gS⟩ := start
        refine ⟨fun i m H => ∃ Fz fp st acc rest, Cfg K Fz H (some (.lst true acc) :: st) (some (.ref D0) :: L2.wipe σ0 own) fp ∧ m + i = ds.length ∧ acc.length ≤ i ∧ lcL t mt me own (ds.drop i) st = some (rest, s') ∧ acc ++ rest = out ∧ Go Fz1 H1 fp1 Fz H fp,
          ⟨ds.length, FzS, fpS, wipeS s0 own, [], out, CS, rfl, Nat.le_refl _, hL, rfl, gS⟩, ?_⟩
        rintro i m H ⟨Fz, fp, st, acc, rest, C, hmi, hacc, e, hout, gl⟩
        have zk : ∀ a o, Fz1 a → H1 a = some o → H a = some o := fun a o z e => gl.keep a o e fun q => C1.fz a q z
        by_cases hlt : i < ds.length
        · right
          refine ⟨it.go gl.fzm zk hlt, fun H' => ∃ Fz fp st acc rest, Cfg K Fz H' (some (.lst true acc) :: st) (some (.ref D0) :: L2.wipe σ0 own) fp ∧ acc.length ≤ i + 1 ∧ lcL t mt me own (ds.drop (i + 1)) st = some (rest, s') ∧ acc ++ rest = out ∧ Go Fz1 H1 fp1 Fz H' fp,
            fun H' ⟨Fz, fp, st, acc, rest, C, h1, h2, h3, h4⟩ => ⟨m - 1, by omega, Fz, fp, st, acc, rest, C, by omega, h1, h2, h3, h4⟩, fun x H' y => ?_⟩
          have hd : ds[i]? = some ds[i] := List.getElem?_eq_getElem hlt
          rw [List.drop_eq_getElem_cons hlt] at e
          obtain ⟨Fz3, C3, g3, r3⟩ := it.yld gl.fzm zk hd C y
          unfold lcL at e
          split at e
          · rename_i s1 ha
            refine cfg_single (tgG_ok t) C3 ha r3 fun σ2 f2 C4 h4 hl4 hn4 => ⟨wipe_of hs hl4 hn4, ?_⟩
            have hw2 := wipe_of hs hl4 hn4
            have ga := (gl.trans g3).sub h4
            split at e
            · rename_i s2 hb
              refine rdT.run (P := [some (.lst true acc)]) (PV := [some (.ref D0)]) C4 rfl hb fun H4 Fz4 f4 C5 g5 => iteT ?_
              split at e
              · rename_i y s3 hy
                refine rd.run (P := [some (.lst true acc)]) (PV := [some (.ref D0)]) C5 rfl hy fun yv H5 Fz5 f5 C6 g6 => ?_
                obtain ⟨av, hav, hla, f6, C7, g7⟩ := Cfg.push C6
                split at e
                · rename_i out' s4 hr
                  cases e
                  obtain ⟨f8, C8, h8⟩ := Cfg.wipe1 (s := s3) (σ := σ2) C7 own
                  rw [hw2] at C8
                  exact ⟨av, hav, by omega, Fz5, f8, wipeS s3 own, acc ++ [y], out', C8, by simp; omega, hr, by simpa using hout, (((ga.trans g5).trans g6).trans g7).sub h8⟩
                · cases e
              · cases e
            · rename_i s2 hb
              refine rdT.run (P := [some (.lst true acc)]) (PV := [some (.ref D0)]) C4 rfl hb fun H4 Fz4 f4 C5 g5 => iteF ?_
              obtain ⟨f8, C8, h8⟩ := Cfg.wipe1 (s := s2) (σ := σ2) C5 own
              rw [hw2] at C8
              exact ⟨Fz4, f8, wipeS s2 own, acc, rest, C8, by omega, e, hout, (ga.trans g5).sub h8⟩
            · cases e
          · cases e
        · left
          refine ⟨it.stop gl.fzm zk (by omega), ?_⟩
          rw [List.drop_eq_nil_of_le (by omega)] at e
          cases e
          rw [List.append_nil] at hout
          subst hout
          obtain ⟨fP, f0, C0', fr⟩ := Cfg.frame (P := [some (.lst true acc)]) (PV := [some (.ref D0)]) C rfl
          obtain ⟨f1, Cb, h1⟩ := C1.back gl.fzm zk C0' own hok.1
          rw [backT_back] at Cb
          obtain ⟨f2, C2, g2, _⟩ := fr Cb (Go.refl.sub h1)
          exact k0 (.ref D0) H Fz f2 C2 ((g1.trans gl).trans g2)
      · cases e0
    · cases e0
  · cases e0
/-- [e for t in it if c] -/
theorem se_lc {elt tg iter : Expr} {ifs : List Expr} {scope : Scope} {own : List (Str × Nat)} {pos : Pos} {mi : M (List D)} {t : Tgt} {mt : M Bool} {me : M D} (ok : blkC Γ.N Γ.sc scope own = true) (hi : SI Γ Φ tg iter mi) (hg : SG (Γ.blk scope) Φ tg t) (ht : STs (Γ.blk scope) Φ ifs mt) (he : SE (Γ.blk scope) Φ elt me)
    (hk : (relS scope Γ.sc).kind = .function := by rfl) (hs : t.slots.all (fun i => (own.map (·.2)).any (· == i)) = true := by rfl) (hf : ∀ (env : Env) x, foldedSetIterable iter env x = pure x := by intro _ _; rfl) :
    SE Γ Φ (.ListComp elt [⟨tg, iter, ifs, 0⟩] scope pos) (mLc mi t mt me (own.map (·.2))) := fun X o =>
  pe_imp (pe_lc (own := own) (g := tgG X.K t) (tt := rdT X.K mt) (te := rd X.K me) o.calm o.nd (hi X o) (blkOk_by (by rw [o.N, o.sc]; exact ok)) (fun s H C cl fp => hg _ (o.blk hk s H C cl fp)) (fun s H C cl fp => ht _ (o.blk hk s H C cl fp)) (fun s H C cl fp => he _ (o.blk hk s H C cl fp)) (hf _)) fun σ H Q q => lc_reads hs q
/-- x = [..] on one line -/
theorem s_setLc {RO : Nat → Bool} (i : Nat) {y : Str} {py spos : Pos} {elt tg iter : Expr} {ifs : List Expr} {scope : Scope} {own : List (Str × Nat)} {pos : Pos} {mi : M (List D)} {t : Tgt} {mt : M Bool} {me : M D} (ok : blkC Γ.N Γ.sc scope own = true) (hi : SI Γ Φ tg iter mi) (hg : SG (Γ.blk scope) Φ tg t) (ht : STs (Γ.blk scope) Φ ifs mt) (he : SE (Γ.blk scope) Φ elt me)
    (hN : Γ.N[i]? = some y := by rfl) (hyl : Γ.sc.names.lookup y = some .local := by rfl) (hr : RO i = false := by rfl) (hsw : swapsWith (.ListComp elt [⟨tg, iter, ifs, 0⟩] scope pos) (some (.Name y py)) spos.line (envS Γ.sc) = pure true := by rfl)
    (hk : (relS scope Γ.sc).kind = .function := by rfl) (hs : t.slots.all (fun i => (own.map (·.2)).any (· == i)) = true := by rfl) (hf : ∀ (env : Env) x, foldedSetIterable iter env x = pure x := by intro _ _; rfl) :
    ST1 Γ Φ RO (.Assign [.Name y py] (.ListComp elt [⟨tg, iter, ifs, 0⟩] scope pos) spos) (mSet i (mLc mi t mt me (own.map (·.2)))) := fun X o hp => by
  refine ps_imp (ps_setLc (own := own) (g := tgG X.K t) (tt := rdT X.K mt) (te := rd X.K me) o.calm o.nd (o.slot hN) (by rw [o.sc]; exact hyl) ((swp_scope (env' := envS Γ.sc) o.sc).trans hsw) (hi X o) (blkOk_by (by rw [o.N, o.sc]; exact ok)) (fun s H C cl fp => hg _ (o.blk hk s H C cl fp)) (fun s H C cl fp => ht _ (o.blk hk s H C cl fp)) (fun s H C cl fp => he _ (o.blk hk s H C cl fp)) (hf _)) fun D' σ H q => ?_
  obtain ⟨Fz, fp, st, C, fl, st', e, k⟩ := q
  unfold mSet at e
  split at e
  · rename_i d s hm
    cases e
    refine lc_reads hs ⟨Fz, fp, st, C, _, _, hm, fun v H1 Fz1 fp1 C1 g1 => ?_⟩
    obtain ⟨f2, C2, h2⟩ := C1.store (i := i)
    exact k _ H1 Fz1 f2 (ro_set hr) (g1.sub h2) C2
  · cases e
end
end Va
namespace Va
open PySem PySem.Spec PyProof.Rows L2
section
variable {K : PySem.W.Frag} {Fz : Addr → Prop} {H : Hp} {s : S} {σ : L2.St} {fp : List Addr}
theorem RepL.pick : ∀ {xs vs f} {k : Nat} {x : D}, RepL K Fz H xs vs f → xs[k]? = some x → ∃ y g r, vs[k]? = some y ∧ Rep K Fz H x y g ∧ f.Perm (g ++ r) ∧ RepL K Fz H (xs.eraseIdx k) (vs.eraseIdx k) r ∧
    ∀ {d w f'}, Rep K Fz H d w f' → ∃ h, RepL K Fz H (xs.set k d) (vs.set k w) h ∧ h.Perm (f' ++ r)
  | [], _, _, _, _, _, h => by simp at h
  | _ :: _, _, _, 0, _, .cons (f := f1) (g := f2) r s, h => by
    simp at h; subst h
    exact ⟨_, f1, f2, rfl, r, .refl _, s, fun r' => ⟨_, .cons r' s, .refl _⟩⟩
  | _ :: _, _, _, k + 1, _, .cons (f := f1) (g := f2) r s, h => by
    obtain ⟨y, g, r2, e, ry, p, re, rs⟩ := RepL.pick (k := k) s (by simpa using h)
    have mid : ∀ (a b c : List Addr), (a ++ (b ++ c)).Perm (b ++ (a ++ c)) := fun a b c => by
      rw [← List.append_assoc, ← List.append_assoc]; exact (List.perm_append_comm).append_right c
    refine ⟨y, g, f1 ++ r2, by simpa using e, ry, (p.append_left f1).trans (mid _ _ _), .cons r re, fun {d w f'} r' => ?_⟩
    obtain ⟨h2, r3, p3⟩ := rs r'
    exact ⟨f1 ++ h2, .cons r r3, (p3.append_left f1).trans (mid _ _ _)⟩
/-- what stands at the front, an owned list, and the rest: the parts of the state -/
theorem Cfg.parts {xs : List D} {D0 : Addr} (C : Cfg K Fz H (some (.lst true xs) :: s) (some (.ref D0) :: σ) fp) : ∃ acc f g, H D0 = some (.lst acc) ∧ RepL K Fz H xs acc f ∧ RepS K Fz H s σ g ∧ fp = D0 :: f ++ g ∧ D0 ∉ f ∧ D0 ∉ g ∧ (f ++ g).Nodup ∧ ¬ Fz D0 ∧ (∀ a ∈ f ++ g, ¬ Fz a) := by
  obtain ⟨R, nd, fz, ft⟩ := C
  cases R with
  | @cons _ _ f1 g _ _ r rs =>
    cases r with
    | som r =>
      cases r with
      | @lstO _ _ acc f q rl =>
        have h1 := List.nodup_cons.mp (show (D0 :: (f ++ g)).Nodup from nd)
        exact ⟨acc, f, g, q, rl, rs, rfl, fun h => h1.1 (List.mem_append_left _ h), fun h => h1.1 (List.mem_append_right _ h), h1.2, fz D0 (List.mem_cons_self ..), fun a h => fz a (List.mem_cons_of_mem _ h)⟩
/-- the state behind a write of the object at D0 -/
theorem Cfg.wrote {f g h : List Addr} {D0 : Addr} {o : HO} {P' : S} {PV' : List (Option V)} (ft : ∀ a, Fz a → H a ≠ none) (hd : H D0 ≠ none) (rs : RepS K Fz H s σ g) (n1 : D0 ∉ f) (n2 : D0 ∉ g) (nd : (f ++ g).Nodup) (z0 : ¬ Fz D0) (zf : ∀ a ∈ f ++ g, ¬ Fz a)
    (RP : RepS K Fz (upd H D0 o) P' PV' h) {r : List Addr} (hp : (h ++ r).Perm (D0 :: f)) : ∃ fp', Cfg K Fz (upd H D0 o) (P' ++ s) (PV' ++ σ) fp' ∧ Go Fz H (D0 :: f ++ g) Fz (upd H D0 o) fp' := by
  have kb : ∀ {b u}, b ≠ D0 → H b = some u → upd H D0 o b = some u := fun {b u} hb e => by rw [upd_ne hb]; exact e
  have nd0 : (D0 :: (f ++ g)).Nodup := List.nodup_cons.mpr ⟨fun h => (List.mem_append.mp h).elim n1 n2, nd⟩
  have nd2 : (h ++ r ++ g).Nodup := by
    have : (h ++ r ++ g).Perm (D0 :: (f ++ g)) := by simpa using hp.append_right g
    exact this.nodup_iff.mpr nd0
  have sub : ∀ a ∈ h ++ g, a ∈ D0 :: f ++ g := fun a ha => by
    rcases List.mem_append.mp ha with q | q
    · exact List.mem_append_left _ (hp.mem_iff.mp (List.mem_append_left _ q))
    · exact List.mem_append_right _ q
  have za : ∀ a, Fz a → a ≠ D0 := fun a z e => z0 (e ▸ z)
  refine ⟨h ++ g, ⟨RP.app (rs.keep (fun _ h => h) (fun a u z e => kb (za a z) e) fun a u ha e => kb (fun ea => n2 (ea ▸ ha)) e), ?_, fun a ha z => ?_, fun a z e => ?_⟩, ⟨fun a u e n => kb (fun ea => n (by rw [ea]; exact List.mem_append_left _ (List.mem_cons_self ..))) e, fun a e => ?_, fun _ h => h, fun _ h => .inl h, fun a ha => .inl (sub a ha)⟩⟩
  · have h1 := List.nodup_append.mp nd2
    have h2 := List.nodup_append.mp h1.1
    exact List.nodup_append.mpr ⟨h2.1, h1.2.1, fun a ha b hb => h1.2.2 a (List.mem_append_left _ ha) b hb⟩
  · rcases List.mem_append.mp (sub a ha) with q | q
    · rcases List.mem_cons.mp q with q | q
      · rw [q] at z; exact z0 z
      · exact zf a (List.mem_append_left _ q) z
    · exact zf a (List.mem_append_right _ q) z
  · rw [upd_ne (za a z)] at e; exact ft a z e
  · by_cases ea : a = D0
    · subst ea; rw [upd_same] at e; cases e
    · rw [upd_ne ea] at e; exact e
theorem Cfg.erase {xs : List D} {D0 : Addr} {k : Nat} {x : D} (C : Cfg K Fz H (some (.lst true xs) :: s) (some (.ref D0) :: σ) fp) (hk : xs[k]? = some x) : ∃ acc y, H D0 = some (.lst acc) ∧ acc.length = xs.length ∧ acc[k]? = some y ∧
    ∃ fp', Cfg K Fz (upd H D0 (.lst (acc.eraseIdx k))) (some x :: some (.lst true (xs.eraseIdx k)) :: s) (some y :: some (.ref D0) :: σ) fp' ∧ Go Fz H fp Fz (upd H D0 (.lst (acc.eraseIdx k))) fp' := by
  obtain ⟨acc, f, g, q, rl, rs, rfl, n1, n2, nd, z0, zf⟩ := C.parts
  obtain ⟨y, g1, r1, ey, ry, p, re, _⟩ := rl.pick hk
  have n1' : ∀ a ∈ g1 ++ r1, a ≠ D0 := fun a h e => n1 (e ▸ p.mem_iff.mpr h)
  have kb : ∀ {b u}, b ≠ D0 → H b = some u → upd H D0 (.lst (acc.eraseIdx k)) b = some u := fun {b u} hb e => by rw [upd_ne hb]; exact e
  have kz : ∀ a u, Fz a → H a = some u → upd H D0 (.lst (acc.eraseIdx k)) a = some u := fun a u z e => kb (fun ea => z0 (ea ▸ z)) e
  obtain ⟨fp', C', G'⟩ := Cfg.wrote (o := .lst (acc.eraseIdx k)) (P' := [some x, some (.lst true (xs.eraseIdx k))]) (PV' := [some y, some (.ref D0)]) C.ft (by rw [q]; exact Option.some_ne_none _) rs n1 n2 nd z0 zf
    (RepS.cons (.som (ry.keep (fun _ h => h) kz fun a u h e => kb (n1' a (List.mem_append_left _ h)) e)) (RepS.cons (.som (.lstO upd_same (re.keep (fun _ h => h) kz fun a u h e => kb (n1' a (List.mem_append_right _ h)) e))) .nil)) (r := []) (by
      simp only [List.append_nil]
      exact (List.perm_middle).trans (p.symm.cons D0))
  exact ⟨acc, y, q, (rl.length).symm, ey, fp', C', G'⟩
theorem Cfg.setAt {xs : List D} {D0 : Addr} {k : Nat} {x d : D} {v : V} (C : Cfg K Fz H (some (.lst true xs) :: some d :: s) (some (.ref D0) :: some v :: σ) fp) (hk : xs[k]? = some x) : ∃ acc, H D0 = some (.lst acc) ∧ acc.length = xs.length ∧
    ∃ fp', Cfg K Fz (upd H D0 (.lst (acc.set k v))) (some (.lst true (xs.set k d)) :: s) (some (.ref D0) :: σ) fp' ∧ Go Fz H fp Fz (upd H D0 (.lst (acc.set k v))) fp' := by
  obtain ⟨acc, f, g, q, rl, rs, rfl, n1, n2, nd, z0, zf⟩ := C.parts
  cases rs with
  | @cons _ _ fd g2 _ _ rd rs =>
    cases rd with
    | som rd =>
      obtain ⟨y, g1, r1, ey, ry, p, re, st⟩ := rl.pick hk
      have kb : ∀ {b u}, b ≠ D0 → H b = some u → upd H D0 (.lst (acc.set k v)) b = some u := fun {b u} hb e => by rw [upd_ne hb]; exact e
      have kz : ∀ a u, Fz a → H a = some u → upd H D0 (.lst (acc.set k v)) a = some u := fun a u z e => kb (fun ea => z0 (ea ▸ z)) e
      obtain ⟨h, r3, p3⟩ := st rd
      have nh : ∀ a ∈ h, a ≠ D0 := fun a ha e => by
        rcases List.mem_append.mp (p3.mem_iff.mp ha) with z | z
        · exact n2 (e ▸ List.mem_append_left _ z)
        · exact n1 (e ▸ p.mem_iff.mpr (List.mem_append_right _ z))
      have eq1 : (f ++ (fd ++ g2)) = (f ++ fd) ++ g2 := (List.append_assoc ..).symm
      obtain ⟨fp', C', G'⟩ := Cfg.wrote (f := f ++ fd) (g := g2) (o := .lst (acc.set k v)) (P' := [some (.lst true (xs.set k d))]) (PV' := [some (.ref D0)]) C.ft (by rw [q]; exact Option.some_ne_none _) rs
        (fun z => (List.mem_append.mp z).elim n1 fun z => n2 (List.mem_append_left _ z)) (fun z => n2 (List.mem_append_right _ z)) (by rw [← eq1]; exact nd) z0 (fun a z => zf a (by rw [eq1]; exact z))
        (RepS.cons (.som (.lstO upd_same (r3.keep (fun _ h => h) kz fun a u h e => kb (nh a h) e))) .nil) (r := g1) (by
          simp only [List.append_nil]
          refine List.Perm.cons D0 ?_
          refine (p3.append_right g1).trans ?_
          refine List.Perm.trans ?_ ((p.append_right fd).symm)
          rw [List.append_assoc]
          exact (List.perm_append_comm).trans (by simpa using (List.perm_append_comm (l₁ := r1) (l₂ := g1)).append_right fd))
      refine ⟨acc, q, (rl.length).symm, fp', C', ?_⟩
      have : D0 :: f ++ (fd ++ g2) = D0 :: (f ++ fd) ++ g2 := by simp
      rw [this]
      exact G'
/-- a slot's owned datum comes to the front, behind some temporaries -/
theorem Cfg.takeP {P : S} {PV : List (Option V)} {i : Nat} {d : D} (hl : P.length = PV.length) (C : Cfg K Fz H (P ++ s) (PV ++ σ) fp) (h : s[i]? = some (some d)) (hi : imm d = false) : ∃ v fp', σ[i]? = some (some v) ∧ Cfg K Fz H (some d :: (P ++ s.set i none)) (some v :: (PV ++ σ)) fp' ∧ ∀ a ∈ fp', a ∈ fp := by
  obtain ⟨fP, f0, C0, fr⟩ := C.frame hl
  obtain ⟨v, f1, e, C1, h1⟩ := C0.take (i := i) (d := d) (st' := s.set i none) (by unfold mTake; rw [h]; simp [hi])
  obtain ⟨f2, C2, g2, _⟩ := fr C1 (Go.refl.sub h1)
  obtain ⟨f3, C3, p3⟩ := C2.float hl
  exact ⟨v, f3, e, C3, fun a ha => (g2.fpn a (p3.mem_iff.mp ha)).elim id fun z => absurd z (C3.there a ha)⟩
end
def isLst (i : Nat) (st : S) : Bool := match st[i]? with
  | some (some (.lst _ _)) => true
  | _ => false
/-- x.append(e) -/
def mApp (i : Nat) (m : M D) : M D := fun st => match isLst i st with
  | true => match m st with
    | some (d, s) => match s[i]? with
      | some (some (.lst true xs)) => match Nat.blt xs.length LN with
        | true => some (.non, s.set i (some (.lst true (xs ++ [d]))))
        | false => none
      | _ => none
    | none => none
  | false => none
/-- x.pop() -/
def mPop (i : Nat) : M D := fun st => match st[i]? with
  | some (some (.lst true xs)) => match xs[xs.length - 1]? with
    | some y => some (y, st.set i (some (.lst true (xs.eraseIdx (xs.length - 1)))))
    | none => none
  | _ => none
/-- x.pop(e) -/
def mPopAt (i : Nat) (m : M D) : M D := fun st => match isLst i st with
  | true => match m st with
    | some (.int j, s) => match s[i]? with
      | some (some (.lst true xs)) => match smallI j with
        | true => match seqIndex? j xs.length with
          | some k => match xs[k]? with
            | some y => some (y, s.set i (some (.lst true (xs.eraseIdx k))))
            | none => none
          | none => none
        | false => none
      | _ => none
    | _ => none
  | false => none
theorem isLst_ty {K : PySem.W.Frag} {Fz H st σ fp i} (C : Cfg K Fz H st σ fp) (h : isLst i st = true) : ∃ a, σ[i]? = some (some (.ref a)) ∧ tyV K "list" (.ref a) H := by
  unfold isLst at h
  split at h
  · rename_i o xs hd
    obtain ⟨v, f, e, r, _⟩ := C.get hd
    obtain ⟨a, vs, f', rfl, q, _, _⟩ := r.lst
    exact ⟨a, e, .inl ⟨rfl, vs, .inl (.inl q)⟩⟩
  · cases h
theorem set_set_none {s : S} {i : Nat} {x y : Option D} : (s.set i x).set i y = s.set i y := List.set_set ..
section
variable {Γ : Gam} {Φ : GCx → Prop}
theorem se_app (i : Nat) {x : Str} {p apos cpos : Pos} {e : Expr} {m : M D} (h : SE Γ Φ e m) (hN : Γ.N[i]? = some x := by rfl) (hv : gVis Γ.sc x = true := by rfl) (hd : (x == ("__debug__" : Str)) = false := by decide) (hcd : (x == ("__classdict__" : Str)) = false := by decide) (ns : NoStar e := by intro _ _; rfl)
    (hbase : ∀ env : Env, attributeBase (.Name x p) "append" env (eval (.Name x p) env) = eval (.Name x p) env := by intro _; rfl)
    (hfew : ∀ env : Env, ((backTo cpos (starEach [e] env)).all (fun x => !x.1) && (backToKw cpos (keywordEach [] env)).all (fun x => x.1.isSome) && decide ([e].length + ([] : List Keyword).length + (if ([] : List Keyword).isEmpty then 0 else 1) < 30)) = true := by intro _; rfl)
    (hline : (apos.endLine == cpos.line) = true := by rfl) (hpl : ∀ env : Env, (backTo cpos (starEach ([] : List Expr) env)).any (·.1) = false := by intro _; rfl) :
    SE Γ Φ (.Call (.Attribute (.Name x p) "append" apos) [e] [] cpos) (mApp i m) := fun X o =>
  pe_imp (pe_bm PySem.F.plainAttrs_list PySem.F.slot_list_append PySem.F.type_list_append mt_append (pe_var (o.slot hN) (o.vis hv) hd hcd) (pa_cons (h X o) pa_nil (ns _ _)) (hbase _) (hfew _) hline (ns _ _) (hpl _)) fun σ H Q q => by
    obtain ⟨Fz, fp, st, C, d', st', e, k⟩ := q
    unfold mApp at e
    split at e
    · rename_i hL
      split at e
      · rename_i d s hm
        split at e
        · rename_i xs hx
          split at e
          · rename_i hz
            cases e
            obtain ⟨a, ea, ty⟩ := isLst_ty C hL
            refine ⟨_, ea, ty, ?_⟩
            refine rd.run (P := []) (PV := []) C rfl hm fun v H1 Fz1 fp1 C1 g1 => ?_
            obtain ⟨w, f2, ew, C2, h2⟩ := Cfg.takeP (P := [some d]) (PV := [some v]) (s := s) (σ := σ) rfl C1 hx rfl
            rw [ea] at ew
            cases ew
            obtain ⟨f3, C3, p3⟩ := Cfg.float (x := some d) (y := some v) (P := [some (.lst true xs)]) (PV := [some (.ref a)]) rfl C2
            obtain ⟨acc, hacc, hla, f4, C4, g4⟩ := Cfg.push C3
            obtain ⟨f5, C5, h5⟩ := Cfg.putback (P := []) (PV := []) (st := s.set i none) (σ := σ) (i := i) rfl C4 ea
            have hz' : acc.length < sizeLine := by rw [hla, ← LN_eq]; exact Nat.blt_eq.mp hz
            have C5 : Cfg X.K Fz1 _ ((s.set i none).set i (some (.lst true (xs ++ [d])))) σ f5 := C5
            rw [set_set_none] at C5
            refine ⟨a, acc, v, rfl, rfl, hacc, hz', k .non _ Fz1 f5 (Cfg.atom C5 .non) ?_⟩
            refine (g1.trans ((g4.frame (fun b hb => ?_) fun b hb => .inl hb).sub h5))
            exact h2 b (p3.mem_iff.mp hb)
          · cases e
        · cases e
      · cases e
    · cases e
theorem se_pop (i : Nat) {x : Str} {p apos cpos : Pos} (hN : Γ.N[i]? = some x := by rfl) (hv : gVis Γ.sc x = true := by rfl) (hd : (x == ("__debug__" : Str)) = false := by decide) (hcd : (x == ("__classdict__" : Str)) = false := by decide)
    (hbase : ∀ env : Env, attributeBase (.Name x p) "pop" env (eval (.Name x p) env) = eval (.Name x p) env := by intro _; rfl) (hline : (apos.endLine == cpos.line) = true := by rfl) :
    SE Γ Φ (.Call (.Attribute (.Name x p) "pop" apos) [] [] cpos) (mPop i) := fun X o =>
  pe_imp (pe_bm0 PySem.F.plainAttrs_list PySem.F.slot_list_pop PySem.F.type_list_pop mt_pop (pe_var (o.slot hN) (o.vis hv) hd hcd) (hbase _) hline) fun σ H Q q => by
    obtain ⟨Fz, fp, st, C, d', st', e, k⟩ := q
    unfold mPop at e
    split at e
    · rename_i xs hx
      split at e
      · rename_i y hy
        cases e
        obtain ⟨w, f2, ew, C2, h2⟩ := Cfg.takeP (P := []) (PV := []) (s := st) (σ := σ) rfl C hx rfl
        obtain ⟨v0, f0, e0, r0, _⟩ := C.get hx
        obtain ⟨a, vs, f', rfl, q0, _, _⟩ := r0.lst
        rw [e0] at ew
        cases ew
        obtain ⟨acc, yv, hacc, hla, hyv, f4, C4, g4⟩ := Cfg.erase C2 hy
        obtain ⟨f5, C5, p5⟩ := Cfg.float (x := some (.lst true (xs.eraseIdx (xs.length - 1)))) (y := some (.ref a)) (P := [some d']) (PV := [some yv]) rfl C4
        obtain ⟨f6, C6, h6⟩ := Cfg.putback (P := [some d']) (PV := [some yv]) (st := st.set i none) (σ := σ) (i := i) rfl C5 e0
        rw [set_set_none] at C6
        refine ⟨_, e0, .inl ⟨rfl, acc, .inl (.inl hacc)⟩, a, acc, yv, rfl, rfl, hacc, by rw [hla]; exact hyv, ?_⟩
        have hdl : acc.dropLast = acc.eraseIdx (xs.length - 1) := by rw [← hla]; exact (List.eraseIdx_length_sub_one ..).symm
        rw [hdl]
        exact k yv _ Fz f6 C6 ((g4.frame h2 fun b hb => .inl hb).sub fun b hb => p5.mem_iff.mp (h6 b hb))
      · cases e
    · cases e
theorem se_popAt (i : Nat) {x : Str} {p apos cpos : Pos} {e : Expr} {m : M D} (h : SE Γ Φ e m) (hN : Γ.N[i]? = some x := by rfl) (hv : gVis Γ.sc x = true := by rfl) (hd : (x == ("__debug__" : Str)) = false := by decide) (hcd : (x == ("__classdict__" : Str)) = false := by decide) (ns : NoStar e := by intro _ _; rfl)
    (hbase : ∀ env : Env, attributeBase (.Name x p) "pop" env (eval (.Name x p) env) = eval (.Name x p) env := by intro _; rfl)
    (hfew : ∀ env : Env, ((backTo cpos (starEach [e] env)).all (fun x => !x.1) && (backToKw cpos (keywordEach [] env)).all (fun x => x.1.isSome) && decide ([e].length + ([] : List Keyword).length + (if ([] : List Keyword).isEmpty then 0 else 1) < 30)) = true := by intro _; rfl)
    (hline : (apos.endLine == cpos.line) = true := by rfl) (hpl : ∀ env : Env, (backTo cpos (starEach ([] : List Expr) env)).any (·.1) = false := by intro _; rfl) :
    SE Γ Φ (.Call (.Attribute (.Name x p) "pop" apos) [e] [] cpos) (mPopAt i m) := fun X o =>
  pe_imp (pe_bm PySem.F.plainAttrs_list PySem.F.slot_list_pop PySem.F.type_list_pop mt_popAt (pe_var (o.slot hN) (o.vis hv) hd hcd) (pa_cons (h X o) pa_nil (ns _ _)) (hbase _) (hfew _) hline (ns _ _) (hpl _)) fun σ H Q q => by
    obtain ⟨Fz, fp, st, C, d', st', e, k⟩ := q
    unfold mPopAt at e
    split at e
    · rename_i hL
      split at e
      · rename_i j s hm
        split at e
        · rename_i xs hx
          split at e
          · rename_i hj
            split at e
            · rename_i kk hk
              split at e
              · rename_i y hy
                cases e
                obtain ⟨a, ea, ty⟩ := isLst_ty C hL
                refine ⟨_, ea, ty, ?_⟩
                refine rd.run (P := []) (PV := []) C rfl hm fun v H1 Fz1 fp1 C1 g1 => ?_
                obtain ⟨v', fv, ev, rv, _⟩ := C1.head
                cases ev
                obtain ⟨f1', C1', h1'⟩ := C1.drop
                obtain ⟨w, f2, ew, C2, h2⟩ := Cfg.takeP (P := []) (PV := []) (s := s) (σ := σ) rfl C1' hx rfl
                rw [ea] at ew
                cases ew
                obtain ⟨acc, yv, hacc, hla, hyv, f4, C4, g4⟩ := Cfg.erase C2 hy
                obtain ⟨f5, C5, p5⟩ := Cfg.float (x := some (.lst true (xs.eraseIdx kk))) (y := some (.ref a)) (P := [some d']) (PV := [some yv]) rfl C4
                obtain ⟨f6, C6, h6⟩ := Cfg.putback (P := [some d']) (PV := [some yv]) (st := s.set i none) (σ := σ) (i := i) rfl C5 ea
                rw [set_set_none] at C6
                have hs := smallI_ok hj
                refine ⟨a, acc, j, kk, yv, rfl, by rw [rv.inti], hacc, by omega, by omega, by rw [hla]; exact hk, hyv, k yv _ Fz1 f6 C6 ?_⟩
                exact g1.trans (((g4.frame h2 fun b hb => .inl hb).frame h1' fun b hb => .inl hb).sub fun b hb => p5.mem_iff.mp (h6 b hb))
              · cases e
            · cases e
          · cases e
        · cases e
      · cases e
    · cases e
end
end Va
namespace Va
open PySem PySem.Spec PyProof.Rows L2
def hasD : List (D × D) → D → Bool
  | [], _ => false
  | (a, _) :: r, k => match keyEq a k with
    | true => true
    | false => hasD r k
def swapD : List (D × D) → D → D → List (D × D)
  | [], _, _ => []
  | (a, y) :: r, k, x => match keyEq a k with
    | true => (a, x) :: swapD r k x
    | false => (a, y) :: swapD r k x
def putD (kvs : List (D × D)) (k x : D) : List (D × D) := match hasD kvs k with
  | true => swapD kvs k x
  | false => kvs ++ [(k, x)]
section
variable {K : PySem.W.Frag} {Fz : Addr → Prop} {H : Hp} {s : S} {σ : L2.St} {fp : List Addr}
theorem RepK.has : ∀ {kvs ws f}, RepK K Fz H kvs ws f → ∀ {k kk}, keyD k = some kk → hasD kvs k = (ws.any fun kv => decide (kv.1 = kk))
  | _, _, _, .nil, _, _, _ => rfl
  | _, _, _, .cons (k := a) (kk := ka) e r s, k, kk, hk => by
    have h2 := keyEq_iff e hk
    rw [List.any_cons]
    unfold hasD
    rw [h2, RepK.has s hk]
    cases decide (ka = kk) <;> rfl
theorem RepK.swap : ∀ {kvs ws f}, RepK K Fz H kvs ws f → ∀ {k kk x w}, keyD k = some kk → Rep K Fz H x w [] → ∃ h r, RepK K Fz H (swapD kvs k x) (ws.map fun kv => if kv.1 = kk then (kv.1, w) else kv) h ∧ (h ++ r).Perm f
  | _, _, _, .nil, k, kk, x, w, hk, rx => ⟨[], [], .nil, .refl _⟩
  | _, _, _, .cons (k := a) (kk := ka) (f := f1) (g := f2) e r s, k, kk, x, w, hk, rx => by
    have h2 := keyEq_iff e hk
    obtain ⟨h, r', rk, p⟩ := RepK.swap s hk rx
    rw [List.map_cons]
    unfold swapD
    by_cases q : ka = kk
    · rw [h2, decide_eq_true q, if_pos q]
      refine ⟨[] ++ h, r' ++ f1, .cons e rx rk, ?_⟩
      rw [List.nil_append, ← List.append_assoc]
      exact (p.append_right f1).trans List.perm_append_comm
    · rw [h2, decide_eq_false q, if_neg q]
      refine ⟨f1 ++ h, r', .cons e r rk, ?_⟩
      rw [List.append_assoc]
      exact p.append_left f1
theorem RepK.app : ∀ {kvs ws f kvs2 ws2 g}, RepK K Fz H kvs ws f → RepK K Fz H kvs2 ws2 g → RepK K Fz H (kvs ++ kvs2) (ws ++ ws2) (f ++ g)
  | _, _, _, _, _, _, .nil, h => h
  | _, _, _, _, _, _, .cons e r s, h => by rw [List.append_assoc]; exact .cons e r (RepK.app s h)
theorem RepK.put {kvs ws f} (h : RepK K Fz H kvs ws f) {k kk x w} (hk : keyD k = some kk) (rx : Rep K Fz H x w []) : ∃ h r, RepK K Fz H (putD kvs k x) (putK ws kk w) h ∧ (h ++ r).Perm f := by
  unfold putD putK
  rw [h.has hk]
  cases ws.any fun kv => decide (kv.1 = kk) with
  | true => exact h.swap hk rx
  | false => exact ⟨f ++ ([] ++ []), [], h.app (.cons hk rx .nil), by simp⟩
theorem Cfg.partsD {xs : List (D × D)} {D0 : Addr} (C : Cfg K Fz H (some (.dic true xs) :: s) (some (.ref D0) :: σ) fp) : ∃ acc f g, H D0 = some (.dK acc) ∧ RepK K Fz H xs acc f ∧ RepS K Fz H s σ g ∧ fp = D0 :: f ++ g ∧ D0 ∉ f ∧ D0 ∉ g ∧ (f ++ g).Nodup ∧ ¬ Fz D0 ∧ (∀ a ∈ f ++ g, ¬ Fz a) := by
  obtain ⟨R, nd, fz, ft⟩ := C
  cases R with
  | @cons _ _ f1 g _ _ r rs =>
    cases r with
    | som r =>
      cases r with
      | @dicO _ _ acc f q rl =>
        have h1 := List.nodup_cons.mp (show (D0 :: (f ++ g)).Nodup from nd)
        exact ⟨acc, f, g, q, rl, rs, rfl, fun h => h1.1 (List.mem_append_left _ h), fun h => h1.1 (List.mem_append_right _ h), h1.2, fz D0 (List.mem_cons_self ..), fun a h => fz a (List.mem_cons_of_mem _ h)⟩
/-- d[k] = v at the front -/
theorem Cfg.putKey {xs : List (D × D)} {D0 : Addr} {k x : D} {kk : Key} {w : V} (C : Cfg K Fz H (some (.dic true xs) :: s) (some (.ref D0) :: σ) fp) (hk : keyD k = some kk) (rx : Rep K Fz H x w []) : ∃ acc, H D0 = some (.dK acc) ∧ acc.length = xs.length ∧
    ∃ fp', Cfg K Fz (upd H D0 (.dK (putK acc kk w))) (some (.dic true (putD xs k x)) :: s) (some (.ref D0) :: σ) fp' ∧ Go Fz H fp Fz (upd H D0 (.dK (putK acc kk w))) fp' := by
  obtain ⟨acc, f, g, q, rl, rs, rfl, n1, n2, nd, z0, zf⟩ := C.partsD
  obtain ⟨h, r, rk, p⟩ := rl.put hk rx
  have nh : ∀ a ∈ h, a ≠ D0 := fun a ha e => n1 (e ▸ p.mem_iff.mp (List.mem_append_left _ ha))
  have kb : ∀ {b u}, b ≠ D0 → H b = some u → upd H D0 (.dK (putK acc kk w)) b = some u := fun {b u} hb e => by rw [upd_ne hb]; exact e
  have kz : ∀ a u, Fz a → H a = some u → upd H D0 (.dK (putK acc kk w)) a = some u := fun a u z e => kb (fun ea => z0 (ea ▸ z)) e
  obtain ⟨fp', C', G'⟩ := Cfg.wrote (o := .dK (putK acc kk w)) (P' := [some (.dic true (putD xs k x))]) (PV' := [some (.ref D0)]) C.ft (by rw [q]; exact Option.some_ne_none _) rs n1 n2 nd z0 zf
    (RepS.cons (.som (.dicO upd_same (rk.keep (fun _ h => h) kz fun a u h e => kb (nh a h) e))) .nil) (r := r) (by simpa using p.cons D0)
  exact ⟨acc, q, rl.length.symm, fp', C', G'⟩
end
def rPut : TSet := fun o i v H Q => rSetL o i v H Q ∨ rSetD o i v H Q
theorem set_or {X : Cx} (hu : X.A.units + 1 < cLine) : PSet X rPut := fun pins s σ H o i v ov iv u Q I r1 r2 r3 h => h.elim (set_list pins s σ H o i v ov iv u Q I r1 r2 r3) (set_dict hu pins s σ H o i v ov iv u Q I r1 r2 r3)
def storeAt (i : Nat) (k d : D) (s : S) : Option S := match s[i]? with
  | some (some (.lst true xs)) => match k with
    | .int j => match ixN xs.length j with
      | some j => some (s.set i (some (.lst true (xs.set j d))))
      | none => none
    | _ => none
  | some (some (.dic true kvs)) => match keyD k with
    | some _ => match imm d && Nat.blt kvs.length LN with
      | true => some (s.set i (some (.dic true (putD kvs k d))))
      | false => none
    | none => none
  | _ => none
def isBox (i : Nat) (st : S) : Bool := match st[i]? with
  | some (some _) => true
  | _ => false
def mStore (i : Nat) (mk mv : M D) : M Fl := fun st => match mv st with
  | some (d, s1) => match isBox i s1 with
    | true => match mk s1 with
      | some (k, s2) => match storeAt i k d s2 with
        | some s3 => some (.nx, s3)
        | none => none
      | none => none
    | false => none
  | none => none
section
variable {Γ : Gam} {Φ : GCx → Prop} {RO : Nat → Bool}
theorem s_store (i : Nat) {x : Str} {ek ev : Expr} {mk mv : M D} {p p2 pos : Pos} (hv : SE Γ Φ ev mv) (hk : SE Γ Φ ek mk) (hN : Γ.N[i]? = some x := by rfl) (hvis : gVis Γ.sc x = true := by rfl) (hd : (x == ("__debug__" : Str)) = false := by decide) (hcd : (x == ("__classdict__" : Str)) = false := by decide)
    (hs : ∀ env : Env, swapsWithSole [.Subscript (.Name x p) ek p2] ev pos.line env = pure false := by intro _; rfl) (hw : ∀ env : Env, swappedStores [.Subscript (.Name x p) ek p2] ev env = pure none := by intro _; rfl) (h1 : ∀ env : Env, (assignEach [.Subscript (.Name x p) ek p2] env).map (·.2) = [assign (.Subscript (.Name x p) ek p2) env] := by intro _; rfl)
    (ha : ∀ (env : Env) v, assign (.Subscript (.Name x p) ek p2) env v = (do
      let ov ← holding [v] (eval (.Name x p) env)
      let iv ← holding [v, ov] (eval ek env)
      standAt p2
      holding [v, ov, iv] (setItem ov iv v)
      release [v, ov, iv] []) := by intro _ _; rfl) :
    ST1 Γ Φ RO (.Assign [.Subscript (.Name x p) ek p2] ev pos) (mStore i mk mv) := fun X o hp =>
  ps_imp (ps_asg (hv X o) (pg_sub (pe_var (o.slot hN) (o.vis hvis) hd hcd) (hk X o) (set_or (by have := o.hu; omega)) (ha _)) (hs _) (hw _) (h1 _)) fun D' σ H q => by
    obtain ⟨Fz, fp, st, C, fl, st', e, kk⟩ := q
    unfold mStore at e
    split at e
    · rename_i d s1 hm
      split at e
      · rename_i hbx
        split at e
        · rename_i k s2 hm2
          split at e
          · rename_i s3 h3
            cases e
            refine ⟨Fz, fp, st, C, _, _, hm, fun v H1 Fz1 fp1 C1 g1 => ?_⟩
            -- the container
            obtain ⟨w, hw⟩ : ∃ w : V, σ[i]? = some (some w) := by
              unfold isBox at hbx
              split at hbx
              · rename_i dd hdd
                obtain ⟨f, C2, _⟩ := C1.drop
                obtain ⟨w, _, e, _⟩ := C2.get hdd
                exact ⟨w, e⟩
              · cases hbx
            refine ⟨w, hw, ?_⟩
            refine rd.run (P := [some d]) (PV := [some v]) C1 rfl hm2 fun u H2 Fz2 fp2 C2 g2 => ?_
            obtain ⟨u', fu, eu, ru, _⟩ := C2.head
            cases eu
            obtain ⟨fc, Cc, hc⟩ := C2.drop
            have Cc : Cfg X.K Fz2 H2 (some d :: s2) (some v :: σ) fc := Cc
            have G := (g1.trans g2).sub hc
            unfold storeAt at h3
            split at h3
            · rename_i xs hx
              split at h3
              · rename_i j
                split at h3
                · rename_i jj hj
                  cases h3
                  left
                  obtain ⟨w', f4, ew, C4, h4⟩ := Cfg.takeP (P := [some d]) (PV := [some v]) (s := s2) (σ := σ) rfl Cc hx rfl
                  rw [hw] at ew
                  cases ew
                  have hjl : jj < xs.length := (ixN_seq hj).2.1
                  obtain ⟨fdr, Cdr, _⟩ := Cc.drop
                  obtain ⟨v0, f0, e0, r0, _⟩ := Cdr.get hx
                  rw [hw] at e0
                  cases e0
                  obtain ⟨a, vs, f', rfl, q0, _, _⟩ := r0.lst
                  obtain ⟨acc, hacc, hla, f5, C5, g5⟩ := Cfg.setAt (k := jj) (x := xs[jj]) C4 (List.getElem?_eq_getElem hjl)
                  obtain ⟨f6, C6, h6⟩ := Cfg.putback (P := []) (PV := []) (st := s2.set i none) (σ := σ) (i := i) rfl C5 hw
                  have C6 : Cfg X.K Fz2 _ ((s2.set i none).set i (some (.lst true (xs.set jj d)))) σ f6 := C6
                  rw [set_set_none] at C6
                  refine ⟨a, acc, j, jj, rfl, ru.inti, hacc, by rw [hla]; exact hj, ?_⟩
                  exact kk σ _ Fz2 f6 (fun _ _ => rfl) (G.trans ((g5.frame h4 fun b hb => .inl hb).sub h6)) C6
                · cases h3
              · cases h3
            · rename_i kvs hx
              split at h3
              · rename_i key hkey
                split at h3
                · rename_i hi
                  cases h3
                  right
                  simp only [Bool.and_eq_true] at hi
                  obtain ⟨w', f4, ew, C4, h4⟩ := Cfg.takeP (P := [some d]) (PV := [some v]) (s := s2) (σ := σ) rfl Cc hx rfl
                  rw [hw] at ew
                  cases ew
                  obtain ⟨fdr, Cdr, _⟩ := Cc.drop
                  obtain ⟨v0, f0, e0, r0, _⟩ := Cdr.get hx
                  rw [hw] at e0
                  cases e0
                  obtain ⟨a, ws, f', rfl, q0, _, _⟩ := r0.dic
                  obtain ⟨v1, f1, e1, r1, _⟩ := Cc.head
                  cases e1
                  have hf1 := r1.imm hi.1
                  subst hf1
                  obtain ⟨f4', C4', h4'⟩ := Cfg.drop (Cfg.float (P := [some (.dic true kvs)]) (PV := [some (.ref a)]) (x := some d) (y := some v) rfl C4).choose_spec.1
                  have p4 := (Cfg.float (P := [some (.dic true kvs)]) (PV := [some (.ref a)]) (x := some d) (y := some v) rfl C4).choose_spec.2
                  obtain ⟨acc, hacc, hla, f5, C5, g5⟩ := Cfg.putKey C4' hkey r1
                  obtain ⟨f6, C6, h6⟩ := Cfg.putback (P := []) (PV := []) (st := s2.set i none) (σ := σ) (i := i) rfl C5 hw
                  have C6 : Cfg X.K Fz2 _ ((s2.set i none).set i (some (.dic true (putD kvs k d)))) σ f6 := C6
                  rw [set_set_none] at C6
                  have ek := keyD_v hkey ru
                  subst ek
                  refine ⟨a, _, rfl, DPut.k hacc (by rw [hla, ← LN_eq]; exact Nat.blt_eq.mp hi.2), ?_⟩
                  exact kk σ _ Fz2 f6 (fun _ _ => rfl) (G.trans (((g5.frame (fun b hb => h4' b hb) fun b hb => .inl hb).frame (fun b hb => h4 b (p4.mem_iff.mp hb)) fun b hb => .inl hb).sub h6)) C6
                · cases h3
              · cases h3
            · cases h3
          · cases e
        · cases e
      · cases e
    · cases e
end
end Va
namespace Va
open PySem PySem.Spec PyProof.Rows L2
inductive Atm where
  | v (i : Nat) | c (d : D) (w : V)
def Atm.get : Atm → S → Option D
  | .v i, s => match s[i]? with
    | some (some d) => match imm d with
      | true => some d
      | false => none
    | _ => none
  | .c d _, _ => some d
def rdAt (K : PySem.W.Frag) : Atm → TE
  | .v i => tVar i
  | .c _ w => tC w
structure SAt (Γ : Gam) (Φ : GCx → Prop) (e : Expr) (a : Atm) : Prop where
  pe : ∀ X, On Γ Φ X → PE X e (rdAt X.K a)
  ok : ∀ (d : D) (w : V), a = .c d w → ∀ K Fz H, Rep K Fz H d w []
def mApp2 (i : Nat) (mk : M D) (a : Atm) : M D := fun st => match isLst i st with
  | true => match mk st with
    | some (.int j, s) => match s[i]?, a.get s with
      | some (some (.lst true xs)), some d => match ixN xs.length j with
        | some j => match xs[j]? with
          | some (.lst true ys) => match Nat.blt ys.length LN with
            | true => some (.non, s.set i (some (.lst true (xs.set j (.lst true (ys ++ [d]))))))
            | false => none
          | _ => none
        | none => none
      | _, _ => none
    | _ => none
  | false => none
section
variable {Γ : Gam} {Φ : GCx → Prop}
theorem sat_v (i : Nat) {x : Str} {pos : Pos} (hN : Γ.N[i]? = some x := by rfl) (hv : gVis Γ.sc x = true := by rfl) (hd : (x == ("__debug__" : Str)) = false := by decide) (hcd : (x == ("__classdict__" : Str)) = false := by decide) : SAt Γ Φ (.Name x pos) (.v i) :=
  ⟨fun X o => pe_var (o.slot hN) (o.vis hv) hd hcd, fun _ _ h => nomatch h⟩
/-- an inner list of the front list is longer by one -/
theorem Cfg.pushIn {K : PySem.W.Frag} {Fz : Addr → Prop} {H : Hp} {s : S} {σ : L2.St} {fp : List Addr} {xs ys : List D} {D0 : Addr} {j : Nat} {d : D} {w : V} (C : Cfg K Fz H (some (.lst true xs) :: s) (some (.ref D0) :: σ) fp) (hj : xs[j]? = some (.lst true ys)) (rd : Rep K Fz H d w []) :
    ∃ acc b inner, H D0 = some (.lst acc) ∧ acc.length = xs.length ∧ acc[j]? = some (.ref b) ∧ H b = some (.lst inner) ∧ inner.length = ys.length ∧ ∃ fp', Cfg K Fz (upd H b (.lst (inner ++ [w]))) (some (.lst true (xs.set j (.lst true (ys ++ [d])))) :: s) (some (.ref D0) :: σ) fp' ∧ Go Fz H fp Fz (upd H b (.lst (inner ++ [w]))) fp' := by
  obtain ⟨acc, f, g, q, rl, rs, rfl, n1, n2, nd, z0, zf⟩ := C.parts
  obtain ⟨y, g1, r1, ey, ry, p, _, st⟩ := rl.pick hj
  cases ry with
  | @lstO b _ inner fi qb rb =>
    have hb : b ∈ f := p.mem_iff.mpr (List.mem_append_left _ (List.mem_cons_self ..))
    have nbD : D0 ≠ b := fun e => n1 (e ▸ hb)
    have ndf := (List.nodup_append.mp nd)
    have ndp := (p.nodup_iff.mp ndf.1)
    have zb : ¬ Fz b := zf b (List.mem_append_left _ hb)
    have kb : ∀ {c u}, c ≠ b → H c = some u → upd H b (.lst (inner ++ [w])) c = some u := fun {c u} hc e => by rw [upd_ne hc]; exact e
    have kz : ∀ a u, Fz a → H a = some u → upd H b (.lst (inner ++ [w])) a = some u := fun a u z e => kb (fun ea => zb (ea ▸ z)) e
    have nfi : ∀ a ∈ fi, a ≠ b := fun a h e => (List.nodup_cons.mp (List.nodup_append.mp ndp).1).1 (e ▸ h)
    have nr1 : ∀ a ∈ r1, a ≠ b := fun a h e => (List.nodup_append.mp ndp).2.2 b (List.mem_cons_self ..) a h e.symm
    -- the list of the others, with the new inner one
    have R2 : ∃ h, RepL K Fz (upd H b (.lst (inner ++ [w]))) (xs.set j (.lst true (ys ++ [d]))) acc h ∧ h.Perm f := by
      have hset : acc.set j (.ref b) = acc := by
        apply List.ext_getElem?
        intro m
        rw [List.getElem?_set]
        split
        · rename_i e; subst e
          split
          · exact ey.symm
          · rename_i h2; rw [List.getElem?_eq_none (by omega)] at ey; cases ey
        · rfl
      have key : ∀ {xs vs f} {k : Nat} {g1 r1 : List Addr}, RepL K Fz H xs vs f → xs[k]? = some (.lst true ys) → vs[k]? = some (.ref b) → f.Nodup → b ∈ f → RepL K Fz H ys inner fi → H b = some (.lst inner) → ∃ h, RepL K Fz (upd H b (.lst (inner ++ [w]))) (xs.set k (.lst true (ys ++ [d]))) vs h ∧ h.Perm f := fun {xs} => by
        induction xs with
        | nil => intro vs f k g1 r1 _ h; simp at h
        | cons x xs ih =>
          intro vs f k g1 r1 hr hx hv hn hb rb qb
          cases hr with
          | @cons _ v f1 _ vs f2 r s =>
            have hn' := List.nodup_append.mp hn
            cases k with
            | zero =>
              simp at hx hv
              subst hx hv
              cases r with
              | @lstO _ _ inner2 fi2 q2 r2 =>
                rw [qb] at q2
                cases q2
                have hfi := (List.nodup_cons.mp hn'.1).1
                refine ⟨(b :: (fi2 ++ ([] ++ []))) ++ f2, .cons (.lstO upd_same ((r2.keep (fun _ h => h) kz fun a u h e => kb (fun ea => hfi (ea ▸ h)) e).app (.cons (rd.keep (fun _ h => h) kz fun _ _ h => nomatch h) .nil))) (s.keep (fun _ h => h) kz fun a u h e => kb (fun ea => hn'.2.2 b (List.mem_cons_self ..) a h ea.symm) e), by simp⟩
            | succ k =>
              have hb2 : b ∈ f2 := by
                obtain ⟨y, g3, e3, r3, h3⟩ := RepL.get (j := k) s (by simpa using hx)
                have : y = .ref b := by
                  have hv' : vs[k]? = some (.ref b) := by simpa using hv
                  rw [hv'] at e3; exact (Option.some.inj e3).symm
                subst this
                cases r3 with
                | lstO _ _ => exact h3 b (List.mem_cons_self ..)
              obtain ⟨h, rh, ph⟩ := ih (k := k) (g1 := []) (r1 := []) s (by simpa using hx) (by simpa using hv) hn'.2.1 hb2 rb qb
              exact ⟨f1 ++ h, .cons (r.keep (fun _ h => h) kz fun a u h e => kb (fun ea => hn'.2.2 a h b hb2 ea) e) rh, ph.append_left f1⟩
      exact key (g1 := []) (r1 := []) rl hj ey ndf.1 hb rb qb
    obtain ⟨h, rh, ph⟩ := R2
    have C' : Cfg K Fz (upd H b (.lst (inner ++ [w]))) (some (.lst true (xs.set j (.lst true (ys ++ [d])))) :: s) (some (.ref D0) :: σ) (D0 :: h ++ g) := by
      refine ⟨RepS.cons (f := D0 :: h) (.som (.lstO (kb nbD q) rh)) (rs.keep (fun _ h => h) kz fun a u ha e => kb (fun ea => ndf.2.2 b hb a ha ea.symm) e), ?_, fun a ha z => ?_, fun a z e => ?_⟩
      · have : (D0 :: h ++ g).Perm (D0 :: (f ++ g)) := by simpa using ((ph.append_right g).cons D0)
        exact this.nodup_iff.mpr (List.nodup_cons.mpr ⟨fun h => (List.mem_append.mp h).elim n1 n2, nd⟩)
      · rcases List.mem_append.mp ha with hh | hh
        · rcases List.mem_cons.mp hh with hh | hh
          · rw [hh] at z; exact z0 z
          · exact zf a (List.mem_append_left _ (ph.mem_iff.mp hh)) z
        · exact zf a (List.mem_append_right _ hh) z
      · have nab : a ≠ b := fun ea => by rw [ea] at z; exact zb z
        rw [upd_ne nab] at e; exact C.ft a z e
    refine ⟨acc, b, inner, q, rl.length.symm, ey, qb, rb.length.symm, _, C', ⟨fun a u e n => kb (fun ea => n (by rw [ea]; exact List.mem_append_left _ (List.mem_cons_of_mem _ hb))) e, fun a e => ?_, fun _ h => h, fun _ h => .inl h, fun a ha => .inl ?_⟩⟩
    · by_cases ea : a = b
      · subst ea; rw [upd_same] at e; cases e
      · rw [upd_ne ea] at e; exact e
    · rcases List.mem_append.mp ha with hh | hh
      · rcases List.mem_cons.mp hh with hh | hh
        · rw [hh]; exact List.mem_append_left _ (List.mem_cons_self ..)
        · exact List.mem_append_left _ (List.mem_cons_of_mem _ (ph.mem_iff.mp hh))
      · exact List.mem_append_right _ hh
theorem se_app2 (i : Nat) {x : Str} {p p2 apos cpos : Pos} {ek ea : Expr} {mk : M D} {a : Atm} (hk : SE Γ Φ ek mk) (ha : SAt Γ Φ ea a) (hN : Γ.N[i]? = some x := by rfl) (hv : gVis Γ.sc x = true := by rfl) (hd : (x == ("__debug__" : Str)) = false := by decide) (hcd : (x == ("__classdict__" : Str)) = false := by decide) (ns : NoStar ea := by intro _ _; rfl) (hpi : PlainIx ek := by intro _ _; rfl)
    (hbase : ∀ env : Env, attributeBase (.Subscript (.Name x p) ek p2) "append" env (eval (.Subscript (.Name x p) ek p2) env) = eval (.Subscript (.Name x p) ek p2) env := by intro _; rfl)
    (hfew : ∀ env : Env, ((backTo cpos (starEach [ea] env)).all (fun x => !x.1) && (backToKw cpos (keywordEach [] env)).all (fun x => x.1.isSome) && decide ([ea].length + ([] : List Keyword).length + (if ([] : List Keyword).isEmpty then 0 else 1) < 30)) = true := by intro _; rfl)
    (hline : (apos.endLine == cpos.line) = true := by rfl) (hpl : ∀ env : Env, (backTo cpos (starEach ([] : List Expr) env)).any (·.1) = false := by intro _; rfl) :
    SE Γ Φ (.Call (.Attribute (.Subscript (.Name x p) ek p2) "append" apos) [ea] [] cpos) (mApp2 i mk a) := fun X o =>
  pe_imp (pe_bm PySem.F.plainAttrs_list PySem.F.slot_list_append PySem.F.type_list_append mt_append (pe_ix ix_list (pe_var (o.slot hN) (o.vis hv) hd hcd) (hk X o) hpi) (pa_cons (ha.pe X o) pa_nil (ns _ _)) (hbase _) (hfew _) hline (ns _ _) (hpl _)) fun σ H Q q => by
    obtain ⟨Fz, fp, st, C, d', st', e, k⟩ := q
    unfold mApp2 at e
    split at e
    · rename_i hL
      split at e
      · rename_i j s hm
        split at e
        · rename_i xs d hx hda
          split at e
          · rename_i jj hj
            split at e
            · rename_i ys hy
              split at e
              · rename_i hz
                cases e
                obtain ⟨a0, ea0, ty⟩ := isLst_ty C hL
                refine ⟨_, ea0, ?_⟩
                refine rd.run (P := []) (PV := []) C rfl hm fun v H1 Fz1 fp1 C1 g1 => ?_
                obtain ⟨v', fv, ev, rv, _⟩ := C1.head
                cases ev
                obtain ⟨f1', C1', h1'⟩ := C1.drop
                have C1' : Cfg X.K Fz1 H1 s σ f1' := C1'
                obtain ⟨w, f2, ew, C2, h2⟩ := Cfg.takeP (P := []) (PV := []) (s := s) (σ := σ) rfl C1' hx rfl
                rw [ea0] at ew
                cases ew
                -- the atom
                obtain ⟨dw, hdw, rdw⟩ : ∃ dw : V, (∀ Q' : VK, Q' dw H1 → rdAt X.K a σ H1 Q') ∧ Rep X.K Fz1 H1 d dw [] := by
                  cases a with
                  | v i' =>
                    simp only [Atm.get] at hda
                    split at hda
                    · rename_i d2 hd2
                      split at hda
                      · rename_i hi2
                        cases hda
                        obtain ⟨dv, fd, ed, rd, _⟩ := C1'.get hd2
                        have := rd.imm hi2
                        subst this
                        exact ⟨dv, fun Q' q => ⟨dv, ed, q⟩, rd⟩
                      · cases hda
                    · cases hda
                  | c d2 w2 =>
                    cases hda
                    exact ⟨w2, fun Q' q => q, ha.ok d w2 rfl _ _ _⟩
                obtain ⟨acc, b, inner, hacc, hla, hab, hib, hil, f4, C4, g4⟩ := Cfg.pushIn C2 hy rdw
                obtain ⟨f5, C5, h5⟩ := Cfg.putback (P := []) (PV := []) (st := s.set i none) (σ := σ) (i := i) rfl C4 ea0
                have C5 : Cfg X.K Fz1 _ ((s.set i none).set i (some (.lst true (xs.set jj (.lst true (ys ++ [d])))))) σ f5 := C5
                rw [set_set_none] at C5
                refine ⟨a0, acc, j, .ref b, rfl, rv.inti, .inl (.inl hacc), ?_, .inl ⟨rfl, inner, .inl (.inl hib)⟩, hdw _ ⟨b, inner, dw, rfl, rfl, hib, ?_, k .non _ Fz1 f5 (Cfg.atom C5 .non) ?_⟩⟩
                · unfold atI
                  rw [hla, hj]
                  exact hab
                · rw [hil, ← LN_eq]; exact Nat.blt_eq.mp hz
                · exact g1.trans (((g4.frame h2 fun b hb => .inl hb).frame h1' fun b hb => .inl hb).sub h5)
              · cases e
            · cases e
          · cases e
        · cases e
      · cases e
    · cases e
def mDict0 : M D := fun st => some (.dic true [], st)
def mDict1 (mk mv : M D) : M D := fun st => match mk st with
  | some (k, s) => match mv s with
    | some (v, s') => match keyD k with
      | some _ => match imm v with
        | true => some (.dic true [(k, v)], s')
        | false => none
      | none => none
    | none => none
  | none => none
theorem se_dict1 {pos : Pos} {ek ev : Expr} {mk mv : M D} (hk : SE Γ Φ ek mk) (hv : SE Γ Φ ev mv) : SE Γ Φ (.Dict [some ek] [ev] pos) (mDict1 mk mv) := fun X o =>
  pe_imp (pe_disp (pps_cons (hk X o) (hv X o) pps_nil) rfl rfl (by simp) (by simp)) fun σ H Q q => by
    obtain ⟨Fz, fp, st, C, d, st', e, k⟩ := q
    unfold mDict1 at e
    split at e
    · rename_i kd s hm
      split at e
      · rename_i vd s' hm'
        split at e
        · rename_i kk hkk
          split at e
          · rename_i hi
            cases e
            intro p hp
            -- the new dict stands at the front
            have C0 : Cfg X.K Fz (upd H p (.dK [])) (some (.dic true []) :: st) (some (.ref p) :: σ) (p :: fp) ∧ Go Fz H fp Fz (upd H p (.dK [])) (p :: fp) := by
              have := fin_new (K := X.K) (Fz := Fz) (H := H) (fp := fp) (σ := σ) (z := .dic true []) (s := st) (T := []) (TV := []) (f3 := [p]) (Fz3 := Fz) (o := .dK []) (p := p) (Q := fun v H' => v = .ref p → H' = upd H p (.dK []) → ∃ Fz' fp', Cfg X.K Fz' H' (some (.dic true []) :: st) (some v :: σ) fp' ∧ Go Fz H fp Fz' H' fp')
                (fun v H' Fz' fp' C g _ _ => ⟨Fz', fp', C, g⟩) rfl C .refl hp (.inl ⟨rfl, rfl⟩) (.dicO upd_same .nil)
              have kk2 : ∀ {a u}, H a = some u → upd H p (.dK []) a = some u := fun {a u} e => by rw [upd_ne (ne_of_none e hp)]; exact e
              refine ⟨⟨RepS.cons (f := [p]) (.som (.dicO upd_same .nil)) (C.rep.keep (fun _ h => h) (fun _ _ _ e => kk2 e) fun _ _ _ e => kk2 e), List.nodup_cons.mpr ⟨fun h => C.there p h hp, C.nd⟩, fun a h z => ?_, fun a z e => ?_⟩, ⟨fun a u e _ => kk2 e, fun a e => ?_, fun _ h => h, fun _ h => .inl h, fun a h => ?_⟩⟩
              · rcases List.mem_cons.mp h with h | h
                · rw [h] at z; exact C.ft p z hp
                · exact C.fz a h z
              · by_cases ea : a = p
                · rw [ea] at z; exact C.ft p z hp
                · rw [upd_ne ea] at e; exact C.ft a z e
              · by_cases ea : a = p
                · rw [ea]; exact hp
                · rw [upd_ne ea] at e; exact e
              · rcases List.mem_cons.mp h with h | h
                · rw [h]; exact .inr hp
                · exact .inl h
            obtain ⟨C0, g0⟩ := C0
            refine rd.run (P := [some (.dic true [])]) (PV := [some (.ref p)]) C0 rfl hm fun x H1 Fz1 fp1 C1 g1 => ?_
            refine rd.run (P := [some kd, some (.dic true [])]) (PV := [some x, some (.ref p)]) C1 rfl hm' fun y H2 Fz2 fp2 C2 g2 => ?_
            obtain ⟨y', fy, ey, ry, _⟩ := C2.head
            cases ey
            have := ry.imm hi
            subst this
            obtain ⟨f3, C3, h3⟩ := C2.drop
            have C3 : Cfg X.K Fz2 H2 (some kd :: (some (.dic true []) :: st')) (some x :: (some (.ref p) :: σ)) f3 := C3
            obtain ⟨x', fx, ex, rx, _⟩ := C3.head
            cases ex
            have ekx := keyD_v hkk rx
            subst ekx
            obtain ⟨f4, C4, h4⟩ := C3.drop
            have hp2 : H2 p = some (.dK []) := by
              obtain ⟨acc, f, g, q, rl, _⟩ := C4.partsD
              cases rl
              exact q
            obtain ⟨acc, hacc, _, f5, C5, g5⟩ := Cfg.putKey C4 hkk ry
            rw [hp2] at hacc
            cases hacc
            refine ⟨hp2, [(kk, y)], rfl, by simp, ?_⟩
            exact k (.ref p) _ Fz2 f5 C5 (((g0.trans g1).trans g2).trans (g5.frame (fun b hb => h3 b (h4 b hb)) fun b hb => .inl hb))
          · cases e
        · cases e
      · cases e
    · cases e
end
end Va
namespace Va
open PySem PySem.Spec PyProof.Rows L2
theorem putD_len (kvs : List (D × D)) (k x : D) : (putD kvs k x).length ≤ kvs.length + 1 := by
  have h : ∀ kvs : List (D × D), (swapD kvs k x).length = kvs.length := fun kvs => by
    induction kvs with
    | nil => rfl
    | cons p r ih =>
      obtain ⟨a, y⟩ := p
      unfold swapD
      split <;> simp [ih]
  unfold putD
  split
  · rw [h]; omega
  · simp
def dcL (t : Tgt) (mt : M Bool) (mk mv : M D) (own : List Nat) : List D → List (D × D) → M (List (D × D))
  | [], acc => fun st => some (acc, st)
  | d :: ds, acc => fun st => match asgT t d st with
    | some s1 => match mt s1 with
      | some (true, s2) => match mk s2 with
        | some (k, s3) => match mv s3 with
          | some (v, s4) => match keyD k with
            | some _ => match imm v with
              | true => dcL t mt mk mv own ds (putD acc k v) (wipeS s4 own)
              | false => none
            | none => none
          | none => none
        | none => none
      | some (false, s2) => dcL t mt mk mv own ds acc (wipeS s2 own)
      | none => none
    | none => none
def mDc (mi : M (List D)) (t : Tgt) (mt : M Bool) (mk mv : M D) (own : List Nat) : M D := fun st => match mi st with
  | some (ds, s) => match ownOk s own && Nat.ble ds.length LN with
    | true => match dcL t mt mk mv own ds [] (wipeS s own) with
      | some (out, s') => some (.dic true out, backS s s' own)
      | none => none
    | false => none
  | none => none
section
variable {Γ : Gam} {Φ : GCx → Prop}
theorem dc_reads {K : PySem.W.Frag} {mi : M (List D)} {t : Tgt} {mt : M Bool} {mk mv : M D} {own : List Nat} (hs : t.slots.all (fun i => own.any (· == i)) = true) {σ0 : L2.St} {H0 : Hp} {Q : VK} (q : rd K (mDc mi t mt mk mv own) σ0 H0 Q) :
    tDc (rdI K mi) (tgG K t) (rdT K mt) (rd K mk) (rd K mv) own σ0 H0 Q := by
  obtain ⟨Fz0, fp0, st0, C0, dz, st', e0, k0⟩ := q
  unfold mDc at e0
  split at e0
  · rename_i ds s0 hm0
    split at e0
    · rename_i hok
      simp only [Bool.and_eq_true] at hok
      split at e0
      · rename_i out s' hL
        cases e0
        refine ⟨Fz0, fp0, st0, C0, ds, s0, hm0, fun J H1 Fz1 fp1 C1 g1 it D0 hD0 => ?_⟩
        have hlen : ds.length ≤ sizeLine := by rw [← LN_eq]; exact Nat.le_of_ble_eq_true hok.2
        obtain ⟨fw, Cw, hw⟩ := C1.wipe own
        have start : ∃ Fz fp, Cfg K Fz (upd H1 D0 (.dK [])) (some (.dic true []) :: wipeS s0 own) (some (.ref D0) :: L2.wipe σ0 own) fp ∧ Go Fz1 H1 fp1 Fz (upd H1 D0 (.dK [])) fp := by
          have := fin_new (K := K) (Fz := Fz1) (H := H1) (fp := fp1) (σ := L2.wipe σ0 own) (z := .dic true []) (s := wipeS s0 own) (T := []) (TV := []) (f3 := [D0]) (Fz3 := Fz1) (o := .dK []) (p := D0) (Q := fun v H' => v = .ref D0 ∧ H' = upd H1 D0 (.dK []) → ∃ Fz fp, Cfg K Fz (upd H1 D0 (.dK [])) (some (.dic true []) :: wipeS s0 own) (some (.ref D0) :: L2.wipe σ0 own) fp ∧ Go Fz1 H1 fp1 Fz (upd H1 D0 (.dK [])) fp)
            (fun v H' Fz' fp' C g ⟨e1, e2⟩ => by subst e1 e2; exact ⟨Fz', fp', C, g⟩) rfl Cw (Go.refl.sub hw) hD0 (.inl ⟨rfl, rfl⟩) (.dicO upd_same .nil)
          exact this ⟨rfl, rfl⟩
        obtain ⟨FzS, fpS, CS, gS⟩ := start
        refine ⟨fun i m H => ∃ Fz fp st acc, Cfg K Fz H (some (.dic true acc) :: st) (some (.ref D0) :: L2.wipe σ0 own) fp ∧ m + i = ds.length ∧ acc.length ≤ i ∧ dcL t mt mk mv own (ds.drop i) acc st = some (out, s') ∧ Go Fz1 H1 fp1 Fz H fp,
          ⟨ds.length, FzS, fpS, wipeS s0 own, [], CS, rfl, Nat.le_refl _, hL, gS⟩, ?_⟩
        rintro i m H ⟨Fz, fp, st, acc, C, hmi, hacc, e, gl⟩
        have zk : ∀ a o, Fz1 a → H1 a = some o → H a = some o := fun a o z e => gl.keep a o e fun q => C1.fz a q z
        by_cases hlt : i < ds.length
        · right
          refine ⟨it.go gl.fzm zk hlt, fun H' => ∃ Fz fp st acc, Cfg K Fz H' (some (.dic true acc) :: st) (some (.ref D0) :: L2.wipe σ0 own) fp ∧ acc.length ≤ i + 1 ∧ dcL t mt mk mv own (ds.drop (i + 1)) acc st = some (out, s') ∧ Go Fz1 H1 fp1 Fz H' fp,
            fun H' ⟨Fz, fp, st, acc, C, h1, h2, h4⟩ => ⟨m - 1, by omega, Fz, fp, st, acc, C, by omega, h1, h2, h4⟩, fun x H' y => ?_⟩
          have hd : ds[i]? = some ds[i] := List.getElem?_eq_getElem hlt
          rw [List.drop_eq_getElem_cons hlt] at e
          obtain ⟨Fz3, C3, g3, r3⟩ := it.yld gl.fzm zk hd C y
          unfold dcL at e
          split at e
          · rename_i s1 ha
            refine cfg_single (tgG_ok t) C3 ha r3 fun σ2 f2 C4 h4 hl4 hn4 => ⟨wipe_of hs hl4 hn4, ?_⟩
            have hw2 := wipe_of hs hl4 hn4
            have ga := (gl.trans g3).sub h4
            split at e
            · rename_i s2 hb
              refine rdT.run (P := [some (.dic true acc)]) (PV := [some (.ref D0)]) C4 rfl hb fun H4 Fz4 f4 C5 g5 => iteT ?_
              split at e
              · rename_i kd s3 hk
                refine rd.run (P := [some (.dic true acc)]) (PV := [some (.ref D0)]) C5 rfl hk fun kv H5 Fz5 f5 C6 g6 => ?_
                split at e
                · rename_i vd s4 hv
                  refine rd.run (P := [some kd, some (.dic true acc)]) (PV := [some kv, some (.ref D0)]) C6 rfl hv fun vv H6 Fz6 f6 C7 g7 => ?_
                  split at e
                  · rename_i kk hkk
                    split at e
                    · rename_i hi
                      obtain ⟨v', fv, ev, rv, _⟩ := C7.head
                      cases ev
                      have := rv.imm hi
                      subst this
                      obtain ⟨f8, C8, h8⟩ := C7.drop
                      have C8 : Cfg K Fz6 H6 (some kd :: (some (.dic true acc) :: s4)) (some kv :: (some (.ref D0) :: σ2)) f8 := C8
                      obtain ⟨k', fk, ek, rk, _⟩ := C8.head
                      cases ek
                      have ekk := keyD_v hkk rk
                      subst ekk
                      obtain ⟨f9, C9, h9⟩ := C8.drop
                      obtain ⟨av, hav, hla, f10, C10, g10⟩ := Cfg.putKey C9 hkk rv
                      obtain ⟨f11, C11, h11⟩ := Cfg.wipe1 (s := s4) (σ := σ2) C10 own
                      rw [hw2] at C11
                      have hpl := putD_len acc kd vd
                      exact ⟨av, kk, rfl, hav, by omega, Fz6, f11, wipeS s4 own, putD acc kd vd, C11, by omega, e, ((((ga.trans g5).trans g6).trans g7).trans (g10.frame (fun b hb => h8 b (h9 b hb)) fun b hb => .inl hb)).sub h11⟩
                    · cases e
                  · cases e
                · cases e
              · cases e
            · rename_i s2 hb
              refine rdT.run (P := [some (.dic true acc)]) (PV := [some (.ref D0)]) C4 rfl hb fun H4 Fz4 f4 C5 g5 => iteF ?_
              obtain ⟨f8, C8, h8⟩ := Cfg.wipe1 (s := s2) (σ := σ2) C5 own
              rw [hw2] at C8
              exact ⟨Fz4, f8, wipeS s2 own, acc, C8, by omega, e, (ga.trans g5).sub h8⟩
            · cases e
          · cases e
        · left
          refine ⟨it.stop gl.fzm zk (by omega), ?_⟩
          rw [List.drop_eq_nil_of_le (by omega)] at e
          simp only [dcL, Option.some.injEq, Prod.mk.injEq] at e
          obtain ⟨e1, e2⟩ := e
          subst e1 e2
          obtain ⟨fP, f0, C0', fr⟩ := Cfg.frame (P := [some (.dic true acc)]) (PV := [some (.ref D0)]) C rfl
          obtain ⟨f1, Cb, h1⟩ := C1.back gl.fzm zk C0' own hok.1
          rw [backT_back] at Cb
          obtain ⟨f2, C2, g2, _⟩ := fr Cb (Go.refl.sub h1)
          exact k0 (.ref D0) H Fz f2 C2 ((g1.trans gl).trans g2)
      · cases e0
    · cases e0
  · cases e0
theorem se_dc {kx vx tg iter : Expr} {ifs : List Expr} {scope : Scope} {own : List (Str × Nat)} {pos : Pos} {mi : M (List D)} {t : Tgt} {mt : M Bool} {mk mv : M D} (ok : blkC Γ.N Γ.sc scope own = true) (hi : SI Γ Φ tg iter mi) (hg : SG (Γ.blk scope) Φ tg t) (ht : STs (Γ.blk scope) Φ ifs mt) (hkx : SE (Γ.blk scope) Φ kx mk) (hvx : SE (Γ.blk scope) Φ vx mv)
    (hk : (relS scope Γ.sc).kind = .function := by rfl) (hs : t.slots.all (fun i => (own.map (·.2)).any (· == i)) = true := by rfl) (hf : ∀ (env : Env) x, foldedSetIterable iter env x = pure x := by intro _ _; rfl) :
    SE Γ Φ (.DictComp kx vx [⟨tg, iter, ifs, 0⟩] scope pos) (mDc mi t mt mk mv (own.map (·.2))) := fun X o =>
  pe_imp (pe_dc (own := own) (g := tgG X.K t) (tt := rdT X.K mt) (tk := rd X.K mk) (tv := rd X.K mv) o.calm o.nd (hi X o) (blkOk_by (by rw [o.N, o.sc]; exact ok)) (fun s H C cl fp => hg _ (o.blk hk s H C cl fp)) (fun s H C cl fp => ht _ (o.blk hk s H C cl fp)) (fun s H C cl fp => hkx _ (o.blk hk s H C cl fp)) (fun s H C cl fp => hvx _ (o.blk hk s H C cl fp)) (hf _)) fun σ H Q q => dc_reads hs q
end
end Va
namespace Va
open PySem PySem.Spec PyProof.Rows L2
def mZip (m : M (List D)) : M (List D) := fun st => match m st with
  | some ([a, b], s) => match frzA a, frzA b with
    | .tup xs, .tup ys => some (zipD xs ys, s)
    | .lst false xs, .lst false ys => some (zipD xs ys, s)
    | _, _ => none
  | _ => none
section
variable {Γ : Gam} {Φ : GCx → Prop}
theorem si_zip {e e' : Expr} {m : M (List D)} {p pos tpos : Pos} {elts : List Expr} {kk : Nat} (h : SA Γ Φ [e, e'] m) (hb : ∀ g, Φ g → g.mg "zip" = none) (hg : gGl Γ.sc "zip" = true := by rfl) (ns : NoStar e := by intro _ _; rfl) (ns' : NoStar e' := by intro _ _; rfl) (ns0 : ∀ env : Env, starEach ([] : List Expr) env = [] := by intro _; rfl) :
    SI Γ Φ (.Tuple elts kk tpos) (.Call (.Name "zip" p) [e, e'] [] pos) (mZip m) := fun X o =>
  pi_imp (⟨fun pins s σ H R I q => q.elim ((pi_zipMT (o.gl hg) (hb _ o.phi) (h X o) (ns _ _) (by rw [ns', ns0]; rfl)).run pins s σ H R I) ((pi_zipML (o.gl hg) (hb _ o.phi) (h X o) (ns _ _) (by rw [ns', ns0]; rfl)).run pins s σ H R I)⟩ : PI X (.Tuple elts kk tpos) (.Call (.Name "zip" p) [e, e'] [] pos) (fun σ H R => iZipMT X.K (rdA X.K m) σ H R ∨ iZipML X.K (rdA X.K m) σ H R)) fun σ H R q => by
    obtain ⟨Fz, fp, st, C, ds, st', e, k⟩ := q
    unfold mZip at e
    split at e
    · rename_i a b s hm
      split at e
      · rename_i xs ys ea eb
        refine .inl ⟨Fz, fp, st, C, _, _, hm, fun vs H' Fz' fp' hl C1 g1 => ?_⟩
        obtain ⟨F2, f2, C2, r2, g2⟩ := Cfg.frzTemps hl C1
        match vs, hl with
        | [v, w], _ =>
          obtain ⟨y, ey, ry⟩ := r2.get0 (i := 0) (x := frzA a) rfl
          cases ey
          obtain ⟨y, ey, rz⟩ := r2.get0 (i := 1) (x := frzA b) rfl
          cases ey
          rw [ea] at ry
          rw [eb] at rz
          cases e
          cases ry with
          | tup q z r => cases rz with
            | tup q' z' r' =>
              exact ⟨_, _, _, _, rfl, q.sq, q'.sq, k _ _ _ _ C2 (g1.trans g2) (itzT_ok q z q' z' r r')⟩
      · rename_i xs ys ea eb
        refine .inr ⟨Fz, fp, st, C, _, _, hm, fun vs H' Fz' fp' hl C1 g1 => ?_⟩
        obtain ⟨F2, f2, C2, r2, g2⟩ := Cfg.frzTemps hl C1
        match vs, hl with
        | [v, w], _ =>
          obtain ⟨y, ey, ry⟩ := r2.get0 (i := 0) (x := frzA a) rfl
          cases ey
          obtain ⟨y, ey, rz⟩ := r2.get0 (i := 1) (x := frzA b) rfl
          cases ey
          rw [ea] at ry
          rw [eb] at rz
          cases e
          generalize hfp : ([] : List Addr) = ff at ry
          generalize hfp2 : ([] : List Addr) = ff2 at rz
          cases ry with
          | lstF q z r => cases rz with
            | lstF q' z' r' =>
              exact ⟨_, _, _, _, rfl, .inl (.inl q), .inl (.inl q'), k _ _ _ _ C2 (g1.trans g2) (itz_ok q z q' z' r r')⟩
      · cases e
    · cases e
end
end Va
namespace Va
open PySem PySem.Spec PyProof.Rows L2
/-- the name is bound; behind the other arguments its datum is lent -/
def mLate (i : Nat) (r : M (List D)) : M (List D) := fun st => match st[i]? with
  | some (some _) => match r st with
    | some (ds, s) => match mTake i s with
      | some (d, s') => some (d :: ds, s')
      | none => none
    | none => none
  | _ => none
section
variable {Γ : Gam} {Φ : GCx → Prop}
theorem sl_w (i : Nat) {x : Str} {pos : Pos} {es : List Expr} {r : M (List D)} {b : Back} (hr : SL Γ Φ es r b) (hN : Γ.N[i]? = some x := by rfl) (hv : gVis Γ.sc x = true := by rfl) (hd : (x == ("__debug__" : Str)) = false := by decide) (hcd : (x == ("__classdict__" : Str)) = false := by decide) :
    SL Γ Φ (.Name x pos :: es) (mLate i r) (some i :: b) := fun X o => pa_imp (pa_cons (pe_var (o.slot hN) (o.vis hv) hd hcd) (hr X o) (by rfl)) fun σ H Q q => by
  obtain ⟨Fz, fp, st, C, ds, st', e, k⟩ := q
  unfold mLate at e
  split at e
  · rename_i d0 h0
    split at e
    · rename_i ds' s hm
      split at e
      · rename_i d s' ht
        cases e
        obtain ⟨v, f0, ev, _, _⟩ := C.get h0
        refine ⟨v, ev, ?_⟩
        refine ⟨Fz, fp, st, C, _, _, hm, fun vs H2 Fz2 fp2 hl hb hL C2 g2 => ?_⟩
        obtain ⟨fP, f2, C3, fr⟩ := Cfg.frame (P := ds'.map some) (PV := vs.map some) C2 (by simp [hl])
        obtain ⟨w, f3, ew, C4, h4⟩ := C3.take ht
        have : w = v := by rw [ev] at ew; cases ew; rfl
        subst this
        obtain ⟨f5, C5, g5, _⟩ := fr (st' := some d :: _) (σ' := some w :: σ) C4 (Go.refl.sub h4)
        obtain ⟨f6, C6, p6⟩ := Cfg.float (x := some d) (y := some w) (P := ds'.map some) (PV := vs.map some) (by simp [hl]) C5
        exact k (w :: vs) H2 Fz2 f6 (by simp [hl]) (by simp [hb]) (Links.cons (fun j i h => hL j i h) fun i' h => by cases h; exact ev) C6 ((g2.trans g5).sub fun a h => p6.mem_iff.mp h)
      · cases e
    · cases e
  · cases e
end
end Va
namespace Va
open PySem PySem.Spec PyProof.Rows L2
/-- the body's way out as a call's value; what the parameters hold behind (those that the body does not store) -/
def outsOf (RO : Nat → Bool) : Nat → Nat → S → List (Option D)
  | _, 0, _ => []
  | _, _ + 1, [] => []
  | j, n + 1, x :: s => (match RO j with
    | true => x
    | false => none) :: outsOf RO (j + 1) n s
def runD (nN n : Nat) (RO : Nat → Bool) (m : M Fl) : Fn := fun ds => match Nat.beq ds.length n with
  | true => match m (ds.map some ++ List.replicate (nN - n) none) with
    | some (fl, s) => match Nat.ble n s.length with
      | true => match fl with
        | .ret d => some (d, outsOf RO 0 n s)
        | .nx => some (.non, outsOf RO 0 n s)
        | _ => none
      | false => none
    | none => none
  | false => none
theorem runD_some {nN n : Nat} {RO : Nat → Bool} {m : M Fl} {ds : List D} {d : D} {outs : List (Option D)} (h : runD nN n RO m ds = some (d, outs)) : ∃ fl s, m (ds.map some ++ List.replicate (nN - n) none) = some (fl, s) ∧ n ≤ s.length ∧ outs = outsOf RO 0 n s ∧ ((fl = .ret d) ∨ (fl = .nx ∧ d = .non)) := by
  unfold runD at h
  split at h
  · split at h
    · rename_i fl s hm
      split at h
      · rename_i hb
        have hb := Nat.le_of_ble_eq_true hb
        split at h
        · cases h; exact ⟨_, _, hm, hb, rfl, .inl rfl⟩
        · cases h; exact ⟨_, _, hm, hb, rfl, .inr ⟨rfl, rfl⟩⟩
        · cases h
      · cases h
    · cases h
  · cases h
theorem outsOf_length (RO : Nat → Bool) : ∀ (j n : Nat) (s : S), n ≤ s.length → (outsOf RO j n s).length = n
  | _, 0, _, _ => rfl
  | _, n + 1, [], h => by simp at h
  | j, n + 1, x :: s, h => by simp [outsOf, outsOf_length RO (j + 1) n s (by simpa using h)]
section
variable {K : PySem.W.Frag} {Fz : Addr → Prop} {H : Hp}
theorem RepS.outs {RO : Nat → Bool} {σ0 : L2.St} : ∀ (n j : Nat) {s : S} {σ : L2.St} {fp}, RepS K Fz H s σ fp → n ≤ s.length → (∀ i, i < n → RO (j + i) = true → σ[i]? = σ0[i]?) → n ≤ σ0.length → ∃ h r, RepS K Fz H (outsOf RO j n s) (σ0.take n) h ∧ (h ++ r).Perm fp
  | 0, _, _, _, fp, _, _, _, _ => ⟨[], fp, by simp [outsOf]; exact .nil, by simp⟩
  | n + 1, j, _, _, _, .nil, h, _, _ => by simp at h
  | n + 1, j, x :: s, y :: σ, _, .cons (f := f) (g := g) rx rs, h, hr, hl => by
    cases σ0 with
    | nil => simp at hl
    | cons y0 σ0 =>
      obtain ⟨h2, r2, R2, p2⟩ := RepS.outs (σ0 := σ0) n (j + 1) rs (by simpa using h) (fun i hi ho => by
        have := hr (i + 1) (by omega) (by rw [show j + (i + 1) = j + 1 + i by omega]; exact ho)
        simpa using this) (by simpa using hl)
      rw [List.take_succ_cons]
      unfold outsOf
      cases e : RO j with
      | true =>
        have := hr 0 (by omega) (by simpa using e)
        have ey : y = y0 := by simpa using this
        subst ey
        exact ⟨f ++ h2, r2, .cons rx R2, by rw [List.append_assoc]; exact p2.append_left f⟩
      | false =>
        refine ⟨[] ++ h2, r2 ++ f, .cons .skip R2, ?_⟩
        rw [List.nil_append, ← List.append_assoc]
        exact (p2.append_right f).trans List.perm_append_comm
end
section
variable {P : Program} {w : World} {K : PySem.W.Frag} {mg : Str → Option Value} {base : Heap}
/-- a def by its body -/
theorem def_ok {x qual : Str} {pr : Arguments} {bd : List Stmt} {scp : Scope} {dvs : List V} {kws : List (Str × V)} {f : Addr} {fd : FuncData} {N ps : List Str} {k n : Nat} {RO : Nat → Bool} {m : M Fl} {Φ : GCx → Prop} (F : FunD K x qual pr bd scp dvs kws f fd) (Sc : FnScope N ps scp) (hn : ps.length = n) (hN : n ≤ N.length)
    (hb : SS { N := N, sc := scp } Φ RO bd m) (hΦ : ∀ A : Around, Room k A → Φ ⟨P, w, K, mg, base, A⟩) : FnOk P w K mg base CX0 (k + 1) f fd ps (spF K n (runD N.length n RO m)) := by
  refine F.ok Sc (fun vs H Q E h => ?_) (fun cdv A outer s H vs Q E hr h => ?_)
  · obtain ⟨_, _, _, _, h, _⟩ := h
    rw [h, hn]
  · obtain ⟨Fz, fp, ds, hd, hv, C, d, outs, e, ho, kk⟩ := h
    have o : On { N := N, sc := scp } Φ (cxOf CX0 P w K mg base N qual scp f cdv A outer s H E).nox :=
      { N := rfl, sc := rfl, nd := Sc.nd, calm := rfl, kind := Sc.kind, fn := fun _ _ => rfl, hu := by have := hr.un; show (A.deeper _).units + 100 < cLine; omega, phi := hΦ _ hr }
    refine ⟨_, PSs.nox (hb _ o PassesOwn.never), ?_⟩
    obtain ⟨fl, s', hm, hl2, rfl, hfl⟩ := runD_some e
    have C1 : Cfg K Fz H (ds.map some ++ List.replicate (N.length - n) none) (L2.start N vs) fp := by
      have R : RepS K Fz H (List.replicate (N.length - n) (none : Option D)) (List.replicate (N.length - n) (none : Option V)) [] := by
        generalize N.length - n = j
        induction j with
        | zero => exact .nil
        | succ j ih => rw [List.replicate_succ, List.replicate_succ]; exact .cons (f := []) (g := []) .skip ih
      have RR := C.rep.app R
      rw [List.append_nil] at RR
      unfold L2.start
      rw [hv]
      exact ⟨RR, C.nd, C.fz, C.ft⟩
    have hstart : (L2.start N vs).take n = vs.map some := by
      unfold L2.start
      rw [List.take_append_of_le_length (by simp [hv])]
      exact List.take_of_length_le (by simp [hv])
    have hsl : n ≤ (L2.start N vs).length := by unfold L2.start; simp; omega
    have fin : ∀ {σ' : L2.St} {H' Fz' fp' s' v d'}, (∀ i, RO i = true → σ'[i]? = (L2.start N vs)[i]?) → Cfg K Fz' H' (some d' :: s') (some v :: σ') fp' → n ≤ s'.length → ∃ f2, Cfg K Fz' H' (some d' :: outsOf RO 0 n s') (some v :: vs.map some) f2 ∧ ∀ a ∈ f2, a ∈ fp' := fun {σ' H' Fz' fp' s' v d'} hro C2 hl => by
      obtain ⟨R, nd, fz, ft⟩ := C2
      cases R with
      | @cons _ _ f1 g1 _ _ r1 rs =>
        obtain ⟨h, r, R2, p2⟩ := RepS.outs (RO := RO) (σ0 := L2.start N vs) n 0 rs hl (fun i _ ho => hro i (by simpa using ho)) hsl
        rw [hstart] at R2
        have sub : ∀ a ∈ f1 ++ h, a ∈ f1 ++ g1 := fun a ha => by
          rcases List.mem_append.mp ha with q | q
          · exact List.mem_append_left _ q
          · exact List.mem_append_right _ (p2.mem_iff.mp (List.mem_append_left _ q))
        have nd1 : (f1 ++ (h ++ r)).Nodup := (p2.append_left f1).nodup_iff.mpr nd
        rw [← List.append_assoc] at nd1
        exact ⟨f1 ++ h, ⟨.cons r1 R2, (List.nodup_append.mp nd1).1, fun a ha => fz a (sub a ha), ft⟩, sub⟩
    refine ⟨Fz, fp, _, C1, ?_⟩
    refine ⟨fl, s', hm, fun σ' H' Fz' fp' hro g => ?_⟩
    rcases hfl with rfl | ⟨rfl, rfl⟩
    · intro v C2
      obtain ⟨f2, C3, h3⟩ := fin hro C2 hl2
      exact kk v H' Fz' f2 C3 (g.sub h3)
    · intro C2
      obtain ⟨f2, C3, h3⟩ := fin hro (C2.atom .non) hl2
      exact kk .non H' Fz' f2 C3 (g.sub h3)
end
structure Ent where
  d : He.DefD
  N : List Str
  ps : List Str
  RO : Nat → Bool
  m : (Nat → Fn) → M Fl
def rho (T : List Ent) : Nat → Nat → Fn
  | 0, _ => fun _ => none
  | k + 1, i => match T[i]? with
    | some e => runD e.N.length e.ps.length e.RO (e.m (rho T k))
    | none => fun _ => none
/-- the module's one text -/
def figN : Str := "FIGURES"
def figT : Str := "0123456789"
def gFa (p : Str × Int) : He.Fa := match decide (p.1 = figN) with
  | true => .str p.1 figT
  | false => .int p.1 p.2
/-- what a text may lean on: free builtins, whole constants, the defs -/
structure Phi (sig : List (Str × Nat)) (bs : List Str) (gis : List (Str × Int)) (ρ : Nat → Fn) (g : GCx) : Prop where
  bl : ∀ (i : Nat) x, bs[i]? = some x → g.mg x = none
  int : ∀ (i : Nat) p, gis[i]? = some p → decide (p.1 = figN) = false → ∃ t, g.mg p.1 = some (.int p.2 t)
  fig : ∀ (i : Nat) p, gis[i]? = some p → decide (p.1 = figN) = true → ∃ t, g.mg p.1 = some (.str figT t)
  fn : ∀ (i : Nat) p, sig[i]? = some p → CallOk g p.1 p.2 (ρ i)
structure Ent.Ok (sig : List (Str × Nat)) (bs : List Str) (gis : List (Str × Int)) (e : Ent) : Prop where
  hat : e.d.at_ = (e.d.name, none)
  dfl : e.d.dfl = []
  kwd : e.d.kwd = []
  sc : FnScope e.N e.ps e.d.scope
  le : e.ps.length ≤ e.N.length
  bind : ∀ (kV doc pm : Value) (an : Option Addr) (cdv ct : Value) (us : List Value), us.length = e.ps.length → bindArgs (PySem.W.fnOf e.d.name e.d.qual e.d.params e.d.body e.d.scope .none kV doc pm an cdv ct) ⟨us, []⟩ = pure (e.ps.zip us)
  ss : ∀ ρ, SS { N := e.N, sc := e.d.scope } (Phi sig bs gis ρ) e.RO e.d.body (e.m ρ)
inductive Oks (sig : List (Str × Nat)) (bs : List Str) (gis : List (Str × Int)) : List Ent → Prop
  | nil : Oks sig bs gis []
  | cons {e : Ent} {T : List Ent} : e.Ok sig bs gis → Oks sig bs gis T → Oks sig bs gis (e :: T)
theorem Oks.get {sig : List (Str × Nat)} {bs : List Str} {gis : List (Str × Int)} : ∀ {T : List Ent}, Oks sig bs gis T → ∀ {i : Nat} {e : Ent}, T[i]? = some e → e.Ok sig bs gis
  | _, .nil, _, _, h => by simp at h
  | _, .cons a r, 0, e, h => by simp at h; exact h ▸ a
  | _, .cons a r, i + 1, e, h => r.get (by simpa using h)
def faOf (bs : List Str) (gis : List (Str × Int)) (T : List Ent) : List He.Fa := bs.map .free ++ (gis.map gFa ++ T.map fun e => .glo e.d.name)
theorem runD_len {nN n : Nat} {RO : Nat → Bool} {m : M Fl} {ds : List D} {d : D} {outs : List (Option D)} (h : runD nN n RO m ds = some (d, outs)) : outs.length = n := by
  obtain ⟨fl, s, _, h2, rfl, _⟩ := runD_some h
  exact outsOf_length RO 0 n s h2
theorem rho_len (T : List Ent) : ∀ (k i : Nat) {e : Ent}, T[i]? = some e → ∀ ds d outs, rho T k i ds = some (d, outs) → outs.length = e.ps.length
  | 0, _, _, _, _, _, _, h => by cases h
  | k + 1, i, e, he, ds, d, outs, h => by
    unfold rho at h
    rw [he] at h
    exact runD_len h
section
variable {P : Program} {w : World} {K : PySem.W.Frag} {h : Heap} {mg : Str → Option Value} {sig : List (Str × Nat)} {bs : List Str} {gis : List (Str × Int)} {T : List Ent}
theorem all_ok (ok : Oks sig bs gis T) (hsig : sig = T.map fun e => (e.d.name, e.ps.length)) (X : K.In h) (G : h.Ns mainGlobals mg) (c : He.SaysD (faOf bs gis T) (T.map (·.d)) K) (base : Heap) :
    ∀ (k i : Nat) (e : Ent), T[i]? = some e → ∀ fd, FunD K e.d.name e.d.qual e.d.params e.d.body e.d.scope [] [] (He.ga K e.d.name) fd → FnOk P w K mg base CX0 (k + 1) (He.ga K e.d.name) fd e.ps (spF K e.ps.length (rho T k i)) := by
  intro k
  induction k with
  | zero =>
    intro i e he fd F
    refine F.ok (ok.get he).sc (fun vs H Q E h => ?_) (fun cdv A outer s H vs Q E hr h => ?_)
    · obtain ⟨_, _, _, _, h, _⟩ := h
      exact h
    · obtain ⟨_, _, _, _, _, _, _, _, e, _⟩ := h
      cases e
  | succ k ih =>
    intro i e he fd F
    have o := ok.get he
    show FnOk P w K mg base CX0 (k + 1 + 1) _ fd e.ps (spF K e.ps.length (rho T (k + 1) i))
    unfold rho
    rw [he]
    refine def_ok F o.sc rfl o.le (o.ss (rho T k)) fun A hr => ⟨fun i x hx => ?_, fun i p hp hf => ?_, fun i p hp hf => ?_, fun j p hp => ?_⟩
    · refine He.free_ok X G (c.fact i (f := .free x) ?_)
      unfold faOf
      have hl := (List.getElem?_eq_some_iff.mp hx).1
      rw [List.getElem?_append_left (by simpa using hl), List.getElem?_map, hx]
      rfl
    · refine He.int_ok X G (c.fact (bs.length + i) (f := .int p.1 p.2) ?_)
      unfold faOf
      have hl := (List.getElem?_eq_some_iff.mp hp).1
      rw [List.getElem?_append_right (by simp), List.length_map, Nat.add_sub_cancel_left, List.getElem?_append_left (by simpa using hl), List.getElem?_map, hp, Option.map_some]
      unfold gFa
      rw [hf]
    · refine He.str_ok X G (c.fact (bs.length + i) (f := .str p.1 figT) ?_)
      unfold faOf
      have hl := (List.getElem?_eq_some_iff.mp hp).1
      rw [List.getElem?_append_right (by simp), List.length_map, Nat.add_sub_cancel_left, List.getElem?_append_left (by simpa using hl), List.getElem?_map, hp, Option.map_some]
      unfold gFa
      rw [hf]
    · rw [hsig, List.getElem?_map] at hp
      cases hj : T[j]? with
      | none => rw [hj] at hp; cases hp
      | some e' =>
        rw [hj] at hp
        cases hp
        have o' := ok.get hj
        obtain ⟨fd', F'⟩ := c.def_ j (d := e'.d) (by rw [List.getElem?_map, hj]; rfl)
        have F' : FunD K e'.d.name e'.d.qual e'.d.params e'.d.body e'.d.scope [] [] (He.ga K e'.d.name) fd' := by
          have F2 := F'
          unfold He.DefD.dvs He.DefD.kws He.fAd at F2
          rw [o'.dfl, o'.kwd, o'.hat] at F2
          exact F2
        refine ⟨fun ds d outs h => rho_len T k j hj ds d outs h, _, fd', e'.ps, k + 1, ih j e' hj fd' F', hr, ?_, F'.kp, F'.bindsN o'.bind⟩
        refine He.glo_ok X G (c.fact (bs.length + (gis.length + j)) (f := .glo e'.d.name) ?_)
        unfold faOf
        rw [List.getElem?_append_right (by simp), List.length_map, Nat.add_sub_cancel_left, List.getElem?_append_right (by simp), List.length_map, Nat.add_sub_cancel_left, List.getElem?_map, hj]
        rfl
end
end Va
namespace L2
open PySem PySem.Spec PyProof.Rows
end L2
namespace Va
open PySem PySem.Spec PyProof.Rows L2
section
variable {Γ : Gam} {Φ : GCx → Prop}
/-- x = {.. for ..}, x a cell or a name of the block's own: not on one line -/
theorem s_setN {RO : Nat → Bool} (i : Nat) {x : Str} {e : Expr} {m : M D} {p pos : Pos} (h : SE Γ Φ e m) (hN : Γ.N[i]? = some x := by rfl) (hl : gLoc Γ x = true := by rfl) (hr : RO i = false := by rfl) (hs : swapsWith e (some (.Name x p)) pos.line (envS Γ.sc) = pure false := by rfl) :
    ST1 Γ Φ RO (.Assign [.Name x p] e pos) (mSet i m) := fun X o hp => ps_imp (ps_set o.nd (o.slot hN) (o.loc hl) (h X o) ((swp_scope (env' := envS Γ.sc) o.sc).trans hs) (o.fnl hl)) fun D' σ H q => by
  obtain ⟨Fz, fp, st, C, fl, st', e, k⟩ := q
  unfold mSet at e
  split at e
  · rename_i d s hm
    cases e
    refine ⟨Fz, fp, st, C, _, _, hm, fun v H1 Fz1 fp1 C1 g1 => ?_⟩
    obtain ⟨f2, C2, h2⟩ := C1.store (i := i)
    exact k _ H1 Fz1 f2 (ro_set hr) (g1.sub h2) C2
  · cases e
end
end Va
namespace Va
open PySem PySem.Spec PyProof.Rows L2
end Va
namespace Va
open PySem PySem.Spec PyProof.Rows L2
/-- a heap with one more object that no datum tells -/
theorem Cfg.more {K : PySem.W.Frag} {Fz : Addr → Prop} {H : Hp} {s : S} {σ : List (Option V)} {fp : List Addr} {p : Addr} {o : HO} (C : Cfg K Fz H s σ fp) (hp : H p = none) : Cfg K Fz (upd H p o) s σ fp ∧ Go Fz H fp Fz (upd H p o) fp := by
  have kk : ∀ {a u}, H a = some u → upd H p o a = some u := fun {a u} e => by rw [upd_ne (ne_of_none e hp)]; exact e
  refine ⟨⟨C.rep.keep (fun _ h => h) (fun _ _ _ e => kk e) fun _ _ _ e => kk e, C.nd, C.fz, fun a z e => C.ft a z ?_⟩, ⟨fun a u e _ => kk e, fun a e => ?_, fun _ h => h, fun _ h => .inl h, fun a q => .inl q⟩⟩
  · by_cases ea : a = p
    · rw [ea]; exact hp
    · rw [upd_ne ea] at e; exact e
  · by_cases ea : a = p
    · rw [ea]; exact hp
    · rw [upd_ne ea] at e; exact e
theorem tgGs_own {K : PySem.W.Frag} {Fz : Addr → Prop} {H : Hp} {Q : L2.St → Hp → Prop} : ∀ {is : List Nat} {ds : List D} {vs : List V} {s s' : S} {σ : L2.St} {fp : List Addr}, asgL is ds s = some s' → vs.length = ds.length → Cfg K Fz H (ds.map some ++ s) (vs.map some ++ σ) fp →
    (∀ σ' fp', Cfg K Fz H s' σ' fp' → (∀ a ∈ fp', a ∈ fp) → (∀ i, i ∉ is → σ'[i]? = σ[i]?) → Q σ' H) → tgGs is vs σ H Q
  | [], ds, vs, s, s', σ, fp, e, hl, C, k => by
    cases ds with
    | nil =>
      cases e
      have : vs = [] := List.eq_nil_of_length_eq_zero (by simpa using hl)
      subst this
      exact ⟨rfl, k σ fp C (fun _ h => h) fun _ _ => rfl⟩
    | cons d ds => cases e
  | i :: is, ds, vs, s, s', σ, fp, e, hl, C, k => by
    cases ds with
    | nil => cases e
    | cons d ds =>
      cases vs with
      | nil => simp at hl
      | cons v vs =>
        refine ⟨v, vs, rfl, ?_⟩
        have hl' : vs.length = ds.length := by simpa using hl
        obtain ⟨f2, C2, h2⟩ := Cfg.store (i := ds.length + i) (s := ds.map some ++ s) (σ := vs.map some ++ σ) C
        have e1 : (ds.map some ++ s).set (ds.length + i) (some d) = ds.map some ++ s.set i (some d) := by
          rw [List.set_append_right _ _ (by simp)]
          simp
        have e2 : (vs.map some ++ σ).set (ds.length + i) (some v) = vs.map some ++ σ.set i (some v) := by
          rw [List.set_append_right _ _ (by simp [hl'])]
          simp [hl']
        rw [e1, e2] at C2
        refine tgGs_own (is := is) (ds := ds) (s := s.set i (some d)) e hl' C2 fun σ' fp' C3 h3 hn => k σ' fp' C3 (fun a h => h2 a (h3 a h)) fun j hj => ?_
        have n1 : i ≠ j := by rintro rfl; exact hj (List.mem_cons_self ..)
        rw [hn j fun h => hj (List.mem_cons_of_mem _ h), List.getElem?_set_ne n1]
def mSetP (is : List Nat) (m : M (List D)) : M Fl := fun st => match m st with
  | some (ds, s) => match Nat.ble ds.length LN && Nat.beq ds.length is.length with
    | true => match asgL is ds s with
      | some s' => some (.nx, s')
      | none => none
    | false => none
  | none => none
section
variable {Γ : Gam} {Φ : GCx → Prop} {RO : Nat → Bool}
theorem s_setP {ts es : List Expr} {is : List Nat} {m : M (List D)} {kt k2 : Nat} {pt pt2 pos : Pos} (h : SA Γ Φ es m) (hg : SGs Γ Φ ts is) (hro : is.all (fun i => !RO i) = true := by rfl) (hn : ∀ env : Env, (assignEach ts env).length = is.length := by intro _; rfl) (hst : ∀ env : Env, (assignEach ts env).findIdx? (·.1) = none := by intro _; rfl)
    (hs : swapsWithSole [.Tuple ts kt pt] (.Tuple es k2 pt2) pos.line (envS Γ.sc) = pure false := by rfl) (hw : swappedStores [.Tuple ts kt pt] (.Tuple es k2 pt2) (envS Γ.sc) = pure none := by rfl) (h1 : ∀ env : Env, (assignEach [.Tuple ts kt pt] env).map (·.2) = [assign (.Tuple ts kt pt) env] := by intro _; rfl) :
    ST1 Γ Φ RO (.Assign [.Tuple ts kt pt] (.Tuple es k2 pt2) pos) (mSetP is m) := fun X o hp =>
  ps_imp (ps_asg (pe_tup (h X o)) (pg_tup (n := is.length) o.calm (hg X o) (hn _) (hst _)) ((swp_scope (t := some (.Tuple ts kt pt)) (v := .Tuple es k2 pt2) (l := pos.line) (env' := envS Γ.sc) o.sc).trans hs) ((sws_scope (env' := envS Γ.sc) o.sc).trans hw) (h1 _)) fun D' σ H q => by
  obtain ⟨Fz, fp, st, C, fl, st', e, k⟩ := q
  unfold mSetP at e
  split at e
  · rename_i ds s hm
    split at e
    · rename_i hz
      simp only [Bool.and_eq_true] at hz
      have hlen : ds.length = is.length := Nat.eq_of_beq_eq_true hz.2
      split at e
      · rename_i s' ha
        cases e
        refine ⟨Fz, fp, st, C, _, _, hm, fun vs H1 Fz1 fp1 hl C1 g1 => ⟨by rw [hl, ← LN_eq]; exact Nat.le_of_ble_eq_true hz.1, fun p hp' => ?_⟩⟩
        obtain ⟨C2, g2⟩ := C1.more (o := .tup vs) hp'
        refine ⟨p, vs, rfl, .inl (.inl upd_same), by rw [hl, hlen], tgGs_own ha hl C2 fun σ' fp' C3 h3 hns => k σ' _ Fz1 fp' (fun i hi => hns i fun hm' => ?_) ((g1.trans g2).sub h3) C3⟩
        rw [List.all_eq_true] at hro
        have := hro i hm'
        rw [hi] at this
        cases this
      · cases e
    · cases e
  · cases e
end
end Va
namespace Va
open PySem PySem.Spec PyProof.Rows L2
end Va
namespace Va
open PySem PySem.Spec PyProof.Rows L2
end Va
namespace Va
open PySem PySem.Spec PyProof.Rows L2
/-- d.get(k, x): d a name, x a number, True, False or None as written -/
def getF (z : D) (d k : D) : Option D := match d with
  | .dic _ kvs => match keyD k with
    | some _ => match lookD kvs k with
      | some y => match imm y with
        | true => some y
        | false => none
      | none => some z
    | none => none
  | _ => none
end Va
namespace Va
open PySem PySem.Spec PyProof.Rows L2
end Va
namespace Va
open PySem PySem.Spec PyProof.Rows L2
end Va
namespace Va
open PySem PySem.Spec PyProof.Rows L2
end Va
namespace Va
open PySem PySem.Spec PyProof.Rows L2
section
variable {prog : Program} {w : World} {A : Around} {R : Result → Shared → Prop} {E : Value → Shared → Prop} {I : Addr} {fp wr : List Addr} {n : Nat} {P : Nat → Value → Prop} {St : Nat → Heap → Prop}
/-- the tuples told -/
def TT (items : Array Value) (nss : Nat → List Int) (ts : List Addr) (h : Heap) : Prop := ∀ (k : Nat) v, items[k]? = some v → ∃ t its, v = .ref t ∧ t ∈ ts ∧ IsTup h t its ∧ IntsAre its.toList (nss k)
theorem TT.keeps {items : Array Value} {nss : Nat → List Int} {ts : List Addr} {h h' : Heap} (x : TT items nss ts h) (hk : ∀ b ∈ ts, ∀ o, h.get? b = some o → h'.get? b = some o) : TT items nss ts h' := fun k v e =>
  let ⟨t, its, h1, h2, ⟨o, ho, r⟩, h4⟩ := x k v e
  ⟨t, its, h1, h2, ⟨o, hk t h2 o ho, r⟩, h4⟩
end
theorem ints_repL {K : PySem.W.Frag} {Fz : Addr → Prop} {H : Hp} : ∀ l : List Int, RepL K Fz H (l.map D.int) (l.map V.int) []
  | [] => .nil
  | x :: l => by
    have := RepL.cons (Rep.int (K := K) (Fz := Fz) (H := H) x) (ints_repL l)
    exact this
end Va
namespace Va
open PySem PySem.Spec PyProof.Rows L2
end Va
namespace Va
open PySem PySem.Spec PyProof.Rows L2
def insA (x : Int) : List Int → List Int
  | [] => [x]
  | y :: ys => if x < y then x :: y :: ys else if x = y then y :: ys else y :: insA x ys
def ascI (l : List Int) : List Int := l.foldr insA []
theorem insA_mem {x z : Int} : ∀ {ys : List Int}, z ∈ insA x ys ↔ z = x ∨ z ∈ ys
  | [] => by simp [insA]
  | y :: ys => by
    unfold insA
    by_cases h1 : x < y
    · rw [if_pos h1]; simp
    · rw [if_neg h1]
      by_cases h2 : x = y
      · rw [if_pos h2]; subst h2; simp
      · rw [if_neg h2, List.mem_cons, insA_mem, List.mem_cons]
        constructor
        · rintro (h | h | h)
          · exact .inr (.inl h)
          · exact .inl h
          · exact .inr (.inr h)
        · rintro (h | h | h)
          · exact .inr (.inl h)
          · exact .inl h
          · exact .inr (.inr h)
theorem insA_asc {x : Int} : ∀ {ys : List Int}, ys.Pairwise (· < ·) → (insA x ys).Pairwise (· < ·)
  | [], _ => by simp [insA]
  | y :: ys, h => by
    have h' := List.pairwise_cons.mp h
    unfold insA
    by_cases h1 : x < y
    · rw [if_pos h1]
      refine List.pairwise_cons.mpr ⟨fun z hz => ?_, h⟩
      rcases List.mem_cons.mp hz with rfl | hz
      · exact h1
      · exact Int.lt_trans h1 (h'.1 z hz)
    · rw [if_neg h1]
      by_cases h2 : x = y
      · rw [if_pos h2]; exact h
      · rw [if_neg h2]
        refine List.pairwise_cons.mpr ⟨fun z hz => ?_, insA_asc h'.2⟩
        rcases insA_mem.mp hz with rfl | hz
        · omega
        · exact h'.1 z hz
theorem ascI_asc : ∀ l : List Int, (ascI l).Pairwise (· < ·)
  | [] => .nil
  | x :: l => insA_asc (ascI_asc l)
theorem ascI_mem {z : Int} : ∀ {l : List Int}, z ∈ ascI l ↔ z ∈ l
  | [] => by simp [ascI]
  | x :: l => by
    show z ∈ insA x (ascI l) ↔ _
    rw [insA_mem, ascI_mem, List.mem_cons]
theorem asc_uniq : ∀ {a b : List Int}, a.Pairwise (· < ·) → b.Pairwise (· < ·) → (∀ z, z ∈ a ↔ z ∈ b) → a = b
  | [], [], _, _, _ => rfl
  | [], y :: b, _, _, h => by have := (h y).mpr (List.mem_cons_self ..); cases this
  | x :: a, [], _, _, h => by have := (h x).mp (List.mem_cons_self ..); cases this
  | x :: a, y :: b, ha, hb, h => by
    have ha' := List.pairwise_cons.mp ha
    have hb' := List.pairwise_cons.mp hb
    have hxy : x = y := by
      rcases List.mem_cons.mp ((h x).mp (List.mem_cons_self ..)) with e | e
      · exact e
      · rcases List.mem_cons.mp ((h y).mpr (List.mem_cons_self ..)) with e2 | e2
        · exact e2.symm
        · have h1 := hb'.1 x e
          have h2 := ha'.1 y e2
          omega
    subst hxy
    rw [asc_uniq ha'.2 hb'.2 fun z => ⟨fun hz => ?_, fun hz => ?_⟩]
    · rcases List.mem_cons.mp ((h z).mp (List.mem_cons_of_mem _ hz)) with e | e
      · have := ha'.1 z hz; omega
      · exact e
    · rcases List.mem_cons.mp ((h z).mpr (List.mem_cons_of_mem _ hz)) with e | e
      · have := hb'.1 z hz; omega
      · exact e
end Va
namespace Va
open PySem PySem.Spec PyProof.Rows L2
theorem rdI.run {K : PySem.W.Frag} {Fz : Addr → Prop} {H : Hp} {st st' P : S} {σ PV : List (Option V)} {fp : List Addr} {m : M (List D)} {ds : List D} {R : It → Hp → Prop} (C : Cfg K Fz H (P ++ st) (PV ++ σ) fp) (hl : P.length = PV.length) (hm : m st = some (ds, st'))
    (k : ∀ J H' Fz' fp', Cfg K Fz' H' (P ++ st') (PV ++ σ) fp' → Go Fz H fp Fz' H' fp' → ItOk K Fz' H' J ds → R J H') : rdI K m σ H R := by
  obtain ⟨fP, f, C0, fr⟩ := C.frame hl
  refine ⟨Fz, f, st, C0, ds, st', hm, fun J H' Fz' fp' C' g it => ?_⟩
  obtain ⟨fp2, C2, g2, e⟩ := fr C' g
  exact k J H' Fz' fp2 C2 g2 it
/-- own: all names of the comprehension; vs1: those of the inner loop -/
def lcL2 (t : Tgt) (mt : M Bool) (mi1 : M (List D)) (t1 : Tgt) (mt1 : M Bool) (me : M D) (own vs1 : List Nat) : List D → M (List D)
  | [] => fun st => some ([], st)
  | d :: ds => fun st => match asgT t d st with
    | some s1 => match mt s1 with
      | some (true, s2) => match mi1 s2 with
        | some (ds1, s3) => match lcL t1 mt1 me vs1 ds1 (wipeS s3 vs1) with
          | some (out1, s4) => match lcL2 t mt mi1 t1 mt1 me own vs1 ds (wipeS s4 own) with
            | some (out, s5) => some (out1 ++ out, s5)
            | none => none
          | none => none
        | none => none
      | some (false, s2) => lcL2 t mt mi1 t1 mt1 me own vs1 ds (wipeS s2 own)
      | none => none
    | none => none
def mLc2 (mi : M (List D)) (t : Tgt) (mt : M Bool) (mi1 : M (List D)) (t1 : Tgt) (mt1 : M Bool) (me : M D) (own vs1 : List Nat) : M D := fun st => match mi st with
  | some (ds, s) => match ownOk s own with
    | true => match lcL2 t mt mi1 t1 mt1 me own vs1 ds (wipeS s own) with
      | some (out, s') => match Nat.ble out.length LN with
        | true => some (.lst true out, backS s s' own)
        | false => none
      | none => none
    | false => none
  | none => none
theorem wipe_sub {own vs1 : List Nat} (hv : ∀ i ∈ vs1, i ∈ own) (τ : L2.St) : L2.wipe (L2.wipe τ vs1) own = L2.wipe τ own := by
  apply List.ext_getElem?
  intro i
  rw [wipe_get, wipe_get, wipe_get, wipe_length]
  by_cases h : i ∈ own
  · rw [if_pos h, if_pos h]
  · rw [if_neg h, if_neg h, if_neg fun q => h (hv i q)]
theorem lc2_reads {K : PySem.W.Frag} {mi mi1 : M (List D)} {t t1 : Tgt} {mt mt1 : M Bool} {me : M D} {own vs1 : List Nat} (hs : t.slots.all (fun i => own.any (· == i)) = true) (hs1 : t1.slots.all (fun i => vs1.any (· == i)) = true) (hv : ∀ i ∈ vs1, i ∈ own) {σ0 : L2.St} {H0 : Hp} {Q : VK} (q : rd K (mLc2 mi t mt mi1 t1 mt1 me own vs1) σ0 H0 Q) :
    tLc2 (rdI K mi) (tgG K t) (rdT K mt) (rdI K mi1) (tgG K t1) (rdT K mt1) (rd K me) own vs1 σ0 H0 Q := by
  obtain ⟨Fz0, fp0, st0, C0, dz, st', e0, k0⟩ := q
  unfold mLc2 at e0
  split at e0
  · rename_i ds s0 hm0
    split at e0
    · rename_i hok
      split at e0
      · rename_i out s' hL
        split at e0
        · rename_i hbl
          cases e0
          refine ⟨Fz0, fp0, st0, C0, ds, s0, hm0, fun J H1 Fz1 fp1 C1 g1 it D0 hD0 => ?_⟩
          have hlen : out.length ≤ sizeLine := by rw [← LN_eq]; exact Nat.le_of_ble_eq_true hbl
          obtain ⟨fw, Cw, hw⟩ := C1.wipe own
          have start : ∃ Fz fp, Cfg K Fz (upd H1 D0 (.lst [])) (some (.lst true []) :: wipeS s0 own) (some (.ref D0) :: L2.wipe σ0 own) fp ∧ Go Fz1 H1 fp1 Fz (upd H1 D0 (.lst [])) fp := by
            have := fin_lst (K := K) (Fz := Fz1) (H := H1) (fp := fp1) (σ := L2.wipe σ0 own) (zs := []) (s := wipeS s0 own) (T := []) (TV := []) (vs := []) (Q := fun v H' => v = .ref D0 ∧ H' = upd H1 D0 (.lst []) → ∃ Fz fp, Cfg K Fz (upd H1 D0 (.lst [])) (some (.lst true []) :: wipeS s0 own) (some (.ref D0) :: L2.wipe σ0 own) fp ∧ Go Fz1 H1 fp1 Fz (upd H1 D0 (.lst [])) fp)
              (fun v H' Fz' fp' C g ⟨e1, e2⟩ => by subst e1 e2; exact ⟨Fz', fp', C, g⟩) rfl Cw (Go.refl.sub hw) .nil D0 hD0
            exact this ⟨rfl, rfl⟩
          obtain ⟨FzS, fpS, CS, gS⟩ := start
          refine ⟨fun i m H => ∃ Fz fp st acc rest, Cfg K Fz H (some (.lst true acc) :: st) (some (.ref D0) :: L2.wipe σ0 own) fp ∧ m + i = ds.length ∧ lcL2 t mt mi1 t1 mt1 me own vs1 (ds.drop i) st = some (rest, s') ∧ acc ++ rest = out ∧ Go Fz1 H1 fp1 Fz H fp,
            ⟨ds.length, FzS, fpS, wipeS s0 own, [], out, CS, rfl, hL, rfl, gS⟩, ?_⟩
          rintro i m H ⟨Fz, fp, st, acc, rest, C, hmi, e, hout, gl⟩
          have zk : ∀ a o, Fz1 a → H1 a = some o → H a = some o := fun a o z e => gl.keep a o e fun q => C1.fz a q z
          by_cases hlt : i < ds.length
          · right
            refine ⟨it.go gl.fzm zk hlt, fun H' => ∃ Fz fp st acc rest, Cfg K Fz H' (some (.lst true acc) :: st) (some (.ref D0) :: L2.wipe σ0 own) fp ∧ lcL2 t mt mi1 t1 mt1 me own vs1 (ds.drop (i + 1)) st = some (rest, s') ∧ acc ++ rest = out ∧ Go Fz1 H1 fp1 Fz H' fp,
              fun H' ⟨Fz, fp, st, acc, rest, C, h2, h3, h4⟩ => ⟨m - 1, by omega, Fz, fp, st, acc, rest, C, by omega, h2, h3, h4⟩, fun x H' y => ?_⟩
            have hd : ds[i]? = some ds[i] := List.getElem?_eq_getElem hlt
            rw [List.drop_eq_getElem_cons hlt] at e
            obtain ⟨Fz3, C3, g3, r3⟩ := it.yld gl.fzm zk hd C y
            unfold lcL2 at e
            split at e
            · rename_i s1 ha
              refine cfg_single (tgG_ok t) C3 ha r3 fun σ2 f2 C4 h4 hl4 hn4 => ⟨wipe_of hs hl4 hn4, ?_⟩
              have hw2 := wipe_of hs hl4 hn4
              have ga := (gl.trans g3).sub h4
              split at e
              · rename_i s2 hb
                refine rdT.run (P := [some (.lst true acc)]) (PV := [some (.ref D0)]) C4 rfl hb fun H4 Fz4 f4 C5 g5 => iteT ?_
                split at e
                · rename_i ds1 s3 hm1
                  refine rdI.run (P := [some (.lst true acc)]) (PV := [some (.ref D0)]) C5 rfl hm1 fun J1 H5 Fz5 f5 C6 g6 it1 => ?_
                  split at e
                  · rename_i out1 s4 hin
                    split at e
                    · rename_i out2 s5 hrest
                      cases e
                      obtain ⟨fw1, Cw1, hw1⟩ := Cfg.wipe1 (s := s3) (σ := σ2) C6 vs1
                      refine ⟨fun j k H => ∃ Fz fp st acc1 rest1, Cfg K Fz H (some (.lst true acc1) :: st) (some (.ref D0) :: L2.wipe σ2 vs1) fp ∧ k + j = ds1.length ∧ lcL t1 mt1 me vs1 (ds1.drop j) st = some (rest1, s4) ∧ acc1 ++ (rest1 ++ out2) = out ∧ Go Fz5 H5 f5 Fz H fp,
                        ⟨ds1.length, Fz5, fw1, wipeS s3 vs1, acc, out1, Cw1, rfl, hin, hout, Go.refl.sub hw1⟩, ?_⟩
                      rintro j k H6 ⟨Fz6, f6, st6, acc1, rest1, Ci, hkj, ei, hout1, gi⟩
                      have zk1 : ∀ a o, Fz5 a → H5 a = some o → H6 a = some o := fun a o z e => gi.keep a o e fun q => C6.fz a q z
                      by_cases hlt1 : j < ds1.length
                      · right
                        refine ⟨it1.go gi.fzm zk1 hlt1, fun H' => ∃ Fz fp st acc1 rest1, Cfg K Fz H' (some (.lst true acc1) :: st) (some (.ref D0) :: L2.wipe σ2 vs1) fp ∧ lcL t1 mt1 me vs1 (ds1.drop (j + 1)) st = some (rest1, s4) ∧ acc1 ++ (rest1 ++ out2) = out ∧ Go Fz5 H5 f5 Fz H' fp,
                          fun H' ⟨Fz, fp, st, acc1, rest1, C, h2, h3, h4⟩ => ⟨k - 1, by omega, Fz, fp, st, acc1, rest1, C, by omega, h2, h3, h4⟩, fun x1 H7 y1 => ?_⟩
                        have hd1 : ds1[j]? = some ds1[j] := List.getElem?_eq_getElem hlt1
                        rw [List.drop_eq_getElem_cons hlt1] at ei
                        obtain ⟨Fz7, C7, g7, r7⟩ := it1.yld gi.fzm zk1 hd1 Ci y1
                        unfold lcL at ei
                        split at ei
                        · rename_i s7 ha1
                          refine cfg_single (tgG_ok t1) C7 ha1 r7 fun σ3 f8 C8 h8 hl8 hn8 => ⟨wipe_of hs1 hl8 hn8, ?_⟩
                          have hw3 := wipe_of hs1 hl8 hn8
                          have gb := (gi.trans g7).sub h8
                          split at ei
                          · rename_i s8 hb1
                            refine rdT.run (P := [some (.lst true acc1)]) (PV := [some (.ref D0)]) C8 rfl hb1 fun H9 Fz9 f9 C9 g9 => iteT ?_
                            split at ei
                            · rename_i y s9 hy
                              refine rd.run (P := [some (.lst true acc1)]) (PV := [some (.ref D0)]) C9 rfl hy fun yv H10 Fz10 f10 C10 g10 => ?_
                              obtain ⟨av, hav, hla, f11, C11, g11⟩ := Cfg.push C10
                              split at ei
                              · rename_i out' s10 hr
                                cases ei
                                obtain ⟨f12, C12, h12⟩ := Cfg.wipe1 (s := s9) (σ := σ3) C11 vs1
                                rw [hw3] at C12
                                have hlo : av.length < sizeLine := by
                                  have := congrArg List.length hout1
                                  simp only [List.length_append, List.length_cons] at this
                                  omega
                                exact ⟨av, hav, hlo, Fz10, f12, wipeS s9 vs1, acc1 ++ [y], out', C12, hr, by simpa using hout1, (((gb.trans g9).trans g10).trans g11).sub h12⟩
                              · cases ei
                            · cases ei
                          · rename_i s8 hb1
                            refine rdT.run (P := [some (.lst true acc1)]) (PV := [some (.ref D0)]) C8 rfl hb1 fun H9 Fz9 f9 C9 g9 => iteF ?_
                            obtain ⟨f12, C12, h12⟩ := Cfg.wipe1 (s := s8) (σ := σ3) C9 vs1
                            rw [hw3] at C12
                            exact ⟨Fz9, f12, wipeS s8 vs1, acc1, rest1, C12, ei, hout1, (gb.trans g9).sub h12⟩
                          · cases ei
                        · cases ei
                      · left
                        refine ⟨it1.stop gi.fzm zk1 (by omega), ?_⟩
                        rw [List.drop_eq_nil_of_le (by omega)] at ei
                        cases ei
                        obtain ⟨f12, C12, h12⟩ := Cfg.wipe1 (s := s4) (σ := L2.wipe σ2 vs1) Ci own
                        rw [wipe_sub hv, hw2] at C12
                        exact ⟨Fz6, f12, wipeS s4 own, acc1, out2, C12, hrest, hout1, (((ga.trans g5).trans g6).trans gi).sub h12⟩
                    · cases e
                  · cases e
                · cases e
              · rename_i s2 hb
                refine rdT.run (P := [some (.lst true acc)]) (PV := [some (.ref D0)]) C4 rfl hb fun H4 Fz4 f4 C5 g5 => iteF ?_
                obtain ⟨f8, C8, h8⟩ := Cfg.wipe1 (s := s2) (σ := σ2) C5 own
                rw [hw2] at C8
                exact ⟨Fz4, f8, wipeS s2 own, acc, rest, C8, e, hout, (ga.trans g5).sub h8⟩
              · cases e
            · cases e
          · left
            refine ⟨it.stop gl.fzm zk (by omega), ?_⟩
            rw [List.drop_eq_nil_of_le (by omega)] at e
            cases e
            rw [List.append_nil] at hout
            subst hout
            obtain ⟨fP, f0, C0', fr⟩ := Cfg.frame (P := [some (.lst true acc)]) (PV := [some (.ref D0)]) C rfl
            obtain ⟨f1, Cb, h1⟩ := C1.back gl.fzm zk C0' own hok
            rw [backT_back] at Cb
            obtain ⟨f2, C2, g2, _⟩ := fr Cb (Go.refl.sub h1)
            exact k0 (.ref D0) H Fz f2 C2 ((g1.trans gl).trans g2)
        · cases e0
      · cases e0
    · cases e0
  · cases e0
section
variable {Γ : Gam} {Φ : GCx → Prop}
theorem se_lc2 {elt tg iter tg1 iter1 : Expr} {ifs ifs1 : List Expr} {scope : Scope} {own : List (Str × Nat)} {vs1 : List Nat} {pos : Pos} {mi mi1 : M (List D)} {t t1 : Tgt} {mt mt1 : M Bool} {me : M D} (ok : blkC Γ.N Γ.sc scope own = true) (hi : SI Γ Φ tg iter mi) (hg : SG (Γ.blk scope) Φ tg t) (ht : STs (Γ.blk scope) Φ ifs mt)
    (hi1 : SI (Γ.blk scope) Φ tg1 iter1 mi1) (hg1 : SG (Γ.blk scope) Φ tg1 t1) (ht1 : STs (Γ.blk scope) Φ ifs1 mt1) (he : SE (Γ.blk scope) Φ elt me)
    (hv : ∀ i ∈ vs1, i ∈ own.map (·.2) := by decide)
    (hk : (relS scope Γ.sc).kind = .function := by rfl) (hs : t.slots.all (fun i => (own.map (·.2)).any (· == i)) = true := by rfl) (hs1 : t1.slots.all (fun i => vs1.any (· == i)) = true := by rfl) (hf : ∀ (env : Env) x, foldedSetIterable iter env x = pure x := by intro _ _; rfl) (hf1 : ∀ (env : Env) x, foldedSetIterable iter1 env x = pure x := by intro _ _; rfl) :
    SE Γ Φ (.ListComp elt [⟨tg, iter, ifs, 0⟩, ⟨tg1, iter1, ifs1, 0⟩] scope pos) (mLc2 mi t mt mi1 t1 mt1 me (own.map (·.2)) vs1) := fun X o =>
  pe_imp (pe_lc2 (own := own) (vs1 := vs1) (g := tgG X.K t) (tt := rdT X.K mt) (g1 := tgG X.K t1) (tt1 := rdT X.K mt1) (wi1 := rdI X.K mi1) (te := rd X.K me) o.calm o.nd (hi X o) (blkOk_by (by rw [o.N, o.sc]; exact ok)) hv (fun s H C cl fp => hg _ (o.blk hk s H C cl fp)) (fun s H C cl fp => ht _ (o.blk hk s H C cl fp)) (fun s H C cl fp => hi1 _ (o.blk hk s H C cl fp)) (fun s H C cl fp => hg1 _ (o.blk hk s H C cl fp)) (fun s H C cl fp => ht1 _ (o.blk hk s H C cl fp)) (fun s H C cl fp => he _ (o.blk hk s H C cl fp)) (hf _) hf1) fun σ H Q q => lc2_reads hs hs1 hv q
end
end Va
namespace Va
open PySem PySem.Spec PyProof.Rows L2
def keysI : List (D × D) → Option (List Int)
  | [] => some []
  | (.int i, _) :: r => match keysI r with
    | some l => some (i :: l)
    | none => none
  | _ => none
theorem keysI_rep {K : PySem.W.Frag} {Fz : Addr → Prop} {H : Hp} : ∀ {kvs : List (D × D)} {vs : List (Key × V)} {f : List Addr} {l : List Int}, RepK K Fz H kvs vs f → keysI kvs = some l → vs.map Prod.fst = l.map Sum.inl
  | _, _, _, l, .nil, h => by cases h; rfl
  | _, _, _, l, @RepK.cons _ _ _ d _ _ _ _ _ _ _ e r s, h => by
    cases d with
    | int i =>
      unfold keysI at h
      split at h
      · rename_i l' hl'
        cases h
        have := keysI_rep s hl'
        rw [List.map_cons, List.map_cons, this]
        cases e
        rfl
      · cases h
    | _ => cases h
theorem Rep.dicK {K : PySem.W.Frag} {Fz : Addr → Prop} {H : Hp} {o kvs v f} (r : Rep K Fz H (.dic o kvs) v f) : ∃ a vs f', v = .ref a ∧ H a = some (.dK vs) ∧ RepK K Fz H kvs vs f' := by
  cases r with
  | dicF h _ rk => exact ⟨_, _, _, rfl, h, rk⟩
  | dicO h rk => exact ⟨_, _, _, rfl, h, rk⟩
end Va
namespace Va
open PySem PySem.Spec PyProof.Rows L2
/-- data that its reading tells: no row, no dict, no list that is owned -/
def cn : Nat → D → Bool
  | 0, _ => false
  | _ + 1, .non => true
  | _ + 1, .bl _ => true
  | _ + 1, .int _ => true
  | _ + 1, .str _ => true
  | n + 1, .tup xs => xs.all (cn n)
  | n + 1, .lst false xs => xs.all (cn n)
  | _ + 1, _ => false
end Va
namespace Va
open PySem PySem.Spec PyProof.Rows L2
def mFz (m : M D) : M D := fun st => match m st with
  | some (d, s) => some (frzA d, s)
  | none => none
section
variable {Γ : Gam} {Φ : GCx → Prop}
theorem se_fz {e : Expr} {m : M D} (h : SE Γ Φ e m) : SE Γ Φ e (mFz m) := fun X o => by
  refine pe_imp (h X o) fun σ H Q q => ?_
  obtain ⟨Fz, fp, st, C, d, st', e, k⟩ := q
  unfold mFz at e
  split at e
  · rename_i d' s hm
    cases e
    refine ⟨Fz, fp, st, C, d', st', hm, fun v H' Fz' fp' C1 g1 => ?_⟩
    obtain ⟨F2, f2, C2, r2, g2⟩ := C1.frz1
    exact k v H' F2 f2 (C2.atom r2) (g1.trans g2)
  · cases e
end
@[simp] theorem ev_mFz (m : M D) (st : S) : mFz m st = (match m st with
  | some (d, s) => some (frzA d, s)
  | none => none) := rfl
end Va
namespace Va
open PySem PySem.Spec PyProof.Rows L2
end Va
namespace Va
open PySem PySem.Spec PyProof.Rows L2
def sortKF : D → Option D
  | .dic _ kvs => match keysI kvs with
    | some l => match Nat.blt l.length 64 && decide l.Nodup with
      | true => some (.lst true ((ascI l).map D.int))
      | false => none
    | none => none
  | _ => none
theorem b_sortK {X : Cx} (hc : X.calm = true) : ∃ r, CallR X (.builtin "sorted") r ∧ R1Snd X.K (fun x H Q => r [x] H Q) sortKF := by
  refine ⟨_, call_sortedDI hc, ?_⟩
  intro Fz H fp σ s T TV Fz2 H2 fp2 a x fa z Q e hl C g ra k
  unfold sortKF at e
  split at e
  · rename_i o kvs
    split at e
    · rename_i l hl'
      split at e
      · rename_i hb
        cases e
        simp only [Bool.and_eq_true, decide_eq_true_eq] at hb
        obtain ⟨p, vs, f', rfl, hp, rk⟩ := ra.dicK
        refine ⟨p, vs, l, rfl, .inl hp, keysI_rep rk hl', by simpa using hb.1, fun ys p hy hs hn => ?_⟩
        have hlt : ys.Pairwise (· < ·) := (hs.and (hy.nodup_iff.mpr hb.2)).imp fun {a b} h => by
          have h1 := h.1
          have h2 : a ≠ b := h.2
          omega
        have : ys = ascI l := asc_uniq hlt (ascI_asc l) fun z => by rw [hy.mem_iff, ascI_mem]
        subst this
        exact fin_lst k hl C g (ints_repL _) p hn
      · cases e
    · cases e
  · cases e
end Va
namespace Va
open PySem PySem.Spec PyProof.Rows L2
end Va
namespace Va
open PySem PySem.Spec PyProof.Rows L2
def mLcO (i : Nat) (t : Tgt) (mt : M Bool) (me : M D) (own : List Nat) : M D := fun st => match st[i]? with
  | some (some (.lst true xs)) => match xs.all imm && (ownOk (st.set i none) own && Nat.ble xs.length LN) with
    | true => match lcL t mt me own xs (wipeS (st.set i none) own) with
      | some (out, s') => some (.lst true out, (backS (st.set i none) s' own).set i (some (.lst true xs)))
      | none => none
    | false => none
  | _ => none
@[simp] theorem ev_mLcO (i : Nat) (t : Tgt) (mt : M Bool) (me : M D) (own : List Nat) (st : S) : mLcO i t mt me own st = (match st[i]? with
  | some (some (.lst true xs)) => match xs.all imm && (ownOk (st.set i none) own && Nat.ble xs.length LN) with
    | true => match lcL t mt me own xs (wipeS (st.set i none) own) with
      | some (out, s') => some (.lst true out, (backS (st.set i none) s' own).set i (some (.lst true xs)))
      | none => none
    | false => none
  | _ => none) := rfl
end Va
namespace Va
open PySem PySem.Spec PyProof.Rows L2
/-- the text of such an __init__ -/
def ibB (mn : Str) : FuncBody → Bool
  | .stmts [.Expr (.Call (.Attribute (.Call (.Name a _) [] [] _) b p2) [.Name m _] [] p4) _, .Assign [.Attribute (.Name s _) m2 _] (.Name m3 _) _] =>
    (p2.endLine == p4.line) && (decide (a = "super") && (decide (b = "__init__") && (decide (m = mn) && (decide (s = "self") && (decide (m2 = mn) && decide (m3 = mn))))))
  | _ => false
theorem ibB_ok {mn : Str} {b : FuncBody} (h : ibB mn b = true) : ∃ p0 p1 p2 p3 p4 p5 p6 p7 p8 p9, (p2.endLine == p4.line) = true ∧ b = .stmts [.Expr (.Call (.Attribute (.Call (.Name "super" p0) [] [] p1) "__init__" p2) [.Name mn p3] [] p4) p5, .Assign [.Attribute (.Name "self" p6) mn p7] (.Name mn p8) p9] := by
  unfold ibB at h
  split at h
  · simp only [Bool.and_eq_true, decide_eq_true_eq] at h
    obtain ⟨hp, rfl, rfl, rfl, rfl, rfl, rfl⟩ := h
    exact ⟨_, _, _, _, _, _, _, _, _, _, hp, rfl⟩
  · cases h
def ipB (mn : Str) : Arguments → Bool
  | ⟨[], [⟨s, _, _⟩, ⟨m, _, _⟩], none, [], [], none, []⟩ => decide (s = "self") && decide (m = mn)
  | _ => false
theorem ipB_ok {mn : Str} {a : Arguments} (h : ipB mn a = true) : ∃ a1 q1 a2 q2, a = ⟨[], [⟨"self", a1, q1⟩, ⟨mn, a2, q2⟩], none, [], [], none, []⟩ := by
  unfold ipB at h
  split at h
  · simp only [Bool.and_eq_true, decide_eq_true_eq] at h
    obtain ⟨rfl, rfl⟩ := h
    exact ⟨_, _, _, _, rfl⟩
  · cases h
structure InitSc (mn : Str) (sc : Scope) : Prop where
  kind : sc.kind = .function
  co : sc.isCoroutine = false
  gen : sc.isGenerator = false
  nocell : ∀ y ∈ sc.names, y.2 ≠ .cell
  sup : sc.names.lookup ("super" : Str) = some .globalImplicit
  cl : sc.names.lookup ("__class__" : Str) = some .free
  self : sc.names.lookup ("self" : Str) = some .local
  most : sc.names.lookup mn = some .local
def iscB (mn : Str) (sc : Scope) : Bool := decide (sc.kind = .function) && (!sc.isCoroutine && (!sc.isGenerator && (sc.names.all (fun y => !decide (y.2 = .cell)) && (decide (sc.names.lookup ("super" : Str) = some .globalImplicit) &&
  (decide (sc.names.lookup ("__class__" : Str) = some .free) && (decide (sc.names.lookup ("self" : Str) = some .local) && decide (sc.names.lookup mn = some .local)))))))
theorem iscB_ok {mn : Str} {sc : Scope} (h : iscB mn sc = true) : InitSc mn sc := by
  unfold iscB at h
  simp only [Bool.and_eq_true, decide_eq_true_eq, Bool.not_eq_true', List.all_eq_true, decide_eq_false_iff_not] at h
  obtain ⟨a, b, c, d, e, f, g, i⟩ := h
  exact ⟨a, b, c, d, e, f, g, i⟩
structure FldK (P : Program) (K : PySem.W.Frag) (C : Addr) (mn : Str) : Prop where
  cls : OexC K C
  nof : PySem.W.findIn K (.ref C) mn = some none
  self : PySem.W.mroIn K C (.ref C) = some true
  ve : PySem.W.subIn K (.ref C) (.type "ValueError") = some true
  opq : PySem.W.nsIn K cStatics "thirdparty.any" = some none
  sup : PySem.W.nsIn K mainGlobals "super" = some none
  top : (P.main.scope.names.lookup ("super" : Str)).isSome = false
  up : ∀ cd, PySem.W.clsIn K C = some cd → PySem.W.alongIn K "__init__" ((cd.mro.dropWhile (· != .ref C)).drop 1) = some (some (.builtin "ValueError.__init__"))
  nam : mn = "most" ∨ mn = "place"
  xf : XfC K C
  ha : PySem.W.findIn K (.ref C) "__class__" = some (some (.builtin "object.__class__"))
  hn : PySem.W.specialIn K (.builtin "object.__class__") "__get__" = some (some (.builtin "getset_descriptor.__get__"))
  ht : PySem.W.takesIn K (.builtin "object.__class__") = some true
  hm : PySem.W.mroIn K C (.type "object") = some true
  kit : PySem.W.kitOne K (.ref C) (.type "ValueError") = some true
  ini : ∃ (fI cc cda : Addr) (o : Obj) (fd : FuncData) (oc oa : Obj) (vs : Array Value) (file : Str) (tf : Tok),
    PySem.W.findIn K (.ref C) "__init__" = some (some (.ref fI)) ∧ PySem.W.typeIn K (.ref fI) = some (.type "function") ∧ K.lookup fI = some o ∧ o.data = .func fd ∧ ibB mn fd.body = true ∧ ipB mn fd.params = true ∧ iscB mn fd.scope = true ∧
      fd.closure = [(("__class__" : Str), cc)] ∧ fd.globals = mainGlobals ∧ fd.builtins = builtinsNs ∧ fd.defaults = .none ∧ fd.kwdefaults = .none ∧ PySem.W.codeIn K fd.code fd.qualname = true ∧ fd.code = .ref cda ∧ K.lookup cda = some oa ∧ oa.data = .fields vs ∧
      vs[2]? = some (.str file tf) ∧ ((P.main.file : Str) == file) = true ∧ K.lookup cc = some oc ∧ oc.data = .cell (some (.ref C))
section
variable {P : Program} {w : World} {A : Around} {E : Value → Shared → Prop} {h : Heap} {g : Array GenState} {d : Drawn} {t : Nat} {os : OsState}
variable {nm q : Str} {C N : Addr} {bs bm : List Value} {hdct : Bool} {sn : List Str} {sub : List Value} {ab : Bool} {col : Option Bool} {dd : Option Addr} {k0 k1 k2 k3 k5 : Option Value}
/-- ValueError.__init__ bound to the exception, called -/
theorem call_mw {u e t0 : Addr} {rest : List Value} {Q : Value → Shared → Prop}
    (hC : h.get? C = some (excClassObj nm q C N bs bm hdct sn sub ab col dd k0 k1 k2 k3 k5 "ValueError.__new__")) (he : h.get? e = some (HandSPX.excO C t0)) (hu : h.get? u = some (PySem.W.kxs_mw "ValueError.__init__" e)) (hrest : rest.length ≤ sizeLine)
    (hq : ∀ h' t1, (∀ b o, b ≠ e → h.get? b = some o → h'.get? b = some o) → h'.get? e = some (HandSPX.excO C t1) → Q .none ⟨h', g, d, t, os⟩) :
    wpAny (model P w) A (call (.ref u) rest) Q E ⟨h, g, d, t, os⟩ := by
  refine wpAny_call (codeAny_of_tree ?_)
  show wpAny _ A.in1 (callAny (.ref u) ⟨rest, []⟩) _ _ _
  simp only [callAny]
  refine wpAny_bind (wpAny_load hu ?_)
  simp only [PySem.W.kxs_mw, show (Value.type "method-wrapper" == Value.type "method" || Value.type "method-wrapper" == Value.type "builtin_function_or_method" || Value.type "method-wrapper" == Value.type "method-wrapper") = true by decide, if_true]
  refine PySem.W.KFB.if_so (by decide) ?_
  refine wpAny_bind (PySem.W.check_bound_init F.excBase_ValueError.toExcCallFacts hC he rfl ?_)
  refine wpAny_bind (wpAny_pure (wpAny_pure ?_))
  refine ⟨Code.quiet_builtin _ (by decide +kernel), codeAny_builtin F.excBase_ValueError.initEntry ?_⟩
  rw [Around.under_plainId F.excBase_ValueError.init.plain _]
  wp_walk
  refine hq _ h.objs.size (fun b o hb ho => ?_) ?_
  · rw [Heap.get?_update_other _ _ (Ne.symm hb)]
    exact Heap.get?_push_of_some _ ho
  · rw [Heap.get?_update_self _ (Heap.get?_push_of_some _ he) rfl]
    rfl
end
section
variable {P : Program} {w : World} {K : PySem.W.Frag} {A : Around} {s : Shared} {C e t0 fI : Addr} {mn : Str} {u : Value} {R : Result → Shared → Prop} {mg mb : Str → Option Value}
theorem init_run (T : FldK P K C mn) (X : K.In s.heap) (G : s.heap.Ns mainGlobals mg) (B : s.heap.Ns builtinsNs mb) (hb : ∀ x : Str, x ≠ "__name__" → mb x = bootBuiltins x) (nl : s.heap.NoLimit) (hroom : A.depth < recursionLimit)
    (he : s.heap.get? e = some (HandSPX.excO C t0)) (iF : PySem.W.findIn K (.ref C) "__init__" = some (some (.ref fI))) (hKe : K.lookup e = none)
    (h : ∀ h' tk' dx t1, (∀ b o, b ≠ e → s.heap.get? b = some o → h'.get? b = some o) → s.heap.objs.size ≤ dx → dx ≠ e →
      h'.get? e = some { cls := .ref C, dict := some dx, data := .fields #[.ref t1, .none, .none, .none, .bool false, .none] } → h'.Ns1 dx (fun y => if y = mn then some u else none) → R (.ok (.ret .none)) { s with heap := h', toks := tk' }) :
    codeAny (model P w) A (.call (.ref fI) ⟨[.ref e, u], []⟩) R s := by
  obtain ⟨fI', cc, cda, o, fd, oc, oa, vs, file, tf, iF', tI, hfI, hdata, hib, hip, his, hclo, hglob, hblt, hdf, hkd, hcode, hcd, hoa, hvs0, hvs, hfile, hcc, hcell⟩ := T.ini
  have : fI' = fI := by
    have z := iF'.symm.trans iF
    cases z
    rfl
  subst this
  obtain ⟨p0, p1, p2, p3, p4, p5, p6, p7, p8, p9, hpos, hbody⟩ := ibB_ok hib
  obtain ⟨a1, q1, a2, q2, hpar⟩ := ipB_ok hip
  have SC := iscB_ok his
  obtain ⟨nm, q, N, bs, bm, sn, sub, ab, col, dd, k0, k1, k2, k3, k5, hC, hbm⟩ := T.cls.cls
  have hcl : PySem.W.clsIn K C = some { name := nm, bases := bs, mro := .ref C :: bm, ns := N, qualname := q, hasDict := true, slotNames := sn, subclasses := sub, abstract := ab, collection := col, hasDel := false } := by unfold PySem.W.clsIn; rw [hC] <;> rfl
  have hbind : bindArgs fd ⟨[.ref e, u], []⟩ = pure ([("self", .ref e), (mn, u)] : List (Str × Value)) := by
    obtain ⟨n1, n2, n3, n4, n5, n6, n7, n8, n9, n10, n11, n12, n13, n14, n15⟩ := fd
    dsimp only at hpar hdf hkd
    subst hpar hdf hkd
    rcases T.nam with e | e <;> subst e <;> rfl
  have neS : mn ≠ "self" := by rcases T.nam with e | e <;> subst e <;> decide
  have nDb : (mn == ("__debug__" : Str)) = false := by rcases T.nam with e | e <;> subst e <;> decide
  refine ks_codeAny_call_defAt (binds := ([("self", .ref e), (mn, u)] : List (Str × Value))) hroom (X _ _ hfI) hdata nl (PySem.W.codeRec_of X hcode) hbody (BindsTo.of_eq hbind) SC.nocell (fun y hy => ?_) (fun h₀ hns hk₀ => ?_) SC.co SC.gen SC.kind
  · rcases List.mem_cons.mp hy with rfl | hy
    · exact SC.self
    · rcases List.mem_cons.mp hy with rfl | hy
      · exact SC.most
      · cases hy
  have lM : ([("self", .ref e), (mn, u)] : List (Str × Value)).reverse.lookup mn = some u := by
    show List.lookup mn [(mn, u), (("self" : Str), Value.ref e)] = _
    rw [List.lookup_cons, beq_self_eq_true]
  have lS : ([("self", .ref e), (mn, u)] : List (Str × Value)).reverse.lookup ("self" : Str) = some (Value.ref e) := by
    show List.lookup ("self" : Str) [(mn, u), (("self" : Str), Value.ref e)] = _
    rw [List.lookup_cons, beq_eq_false_iff_ne.mpr (Ne.symm neS)]
    rfl
  have hLe : s.heap.objs.size ≠ e := Nat.ne_of_gt (Heap.lt_size he)
  have X0 : K.In h₀ := fun b o z => hk₀ b o (X b o z)
  have hE : ∀ env : Env, eval (.Call (.Attribute (.Call (.Name "super" p0) [] [] p1) "__init__" p2) [.Name mn p3] [] p4) env = (do
      let ov ← attributeBase (.Call (.Name "super" p0) [] [] p1) "__init__" env (eval (.Call (.Name "super" p0) [] [] p1) env)
      standAt p2.atName
      let (f, first) ← holding [ov] (getMethod ov "__init__" (do return (← importBound (.Call (.Name "super" p0) [] [] p1) env).getD true))
      callWith p4 f first (backTo p4 (starEach [.Name mn p3] env)) []) := fun env => by
    show (do
      let ov ← attributeBase (.Call (.Name "super" p0) [] [] p1) "__init__" env (eval (.Call (.Name "super" p0) [] [] p1) env)
      standAt p2.atName
      methodCall (.Call (.Name "super" p0) [] [] p1) "__init__" p2 p4 env ov (1 + 0) (backTo p4 (starEach [.Name mn p3] env)) []) = _
    have hf : methodCallForm (1 + 0) (backTo p4 (starEach [.Name mn p3] env)) [] = true := rfl
    have hq : (!true || p2.endLine == p4.line) = true := by rw [hpos]; rfl
    unfold methodCall methodCallPos calleeOf
    simp only [hf, hq, if_true, pure_bind]
    try rfl
  have hsup : mb ("super" : Str) = some (.type "super") := (hb ("super" : Str) (by decide)).trans (by first | boot_by_name | rfl | kernel_rfl)
  have hint : interactive (callEnv fd s.heap.objs.size fI') = false := by
    show (fd.scope.kind == .module && _) = false
    rw [SC.kind]
    rfl
  refine ks_wpAt_execs_cons (ks_wpAt_Expr_any (hi := hint) (ks_wpAt_MethodCall (he := hE _) (ks_wpAt_super_base SC.sup SC.cl rfl rfl (hk₀ _ _ (X _ _ hfI)) hdata (ar := ⟨"self", a1, q1⟩) (by rw [hpar]; rfl) hcd (hk₀ _ _ (X _ _ hoa)) hvs0 hvs hfile T.top ?_)))
  refine PySem.W.ks_loadName_global SC.kind SC.sup (Calls.loadGlobal_builtin (mg := mg) (mb := mb) (by show Heap.Ns _ fd.globals _; rw [hglob]; exact G.keeps hk₀) (PySem.W.mg_none_of X G T.sup) (by show Heap.Ns _ fd.builtins _; rw [hblt]; exact B.keeps hk₀) hsup ⟨rfl, ?_⟩)
  refine wpAny_loadName_free SC.kind SC.cl (c := cc) (by show fd.closure.lookup _ = _; rw [hclo]; rfl) ⟨_, hk₀ _ _ (X _ _ hcc), hcell⟩ ?_
  refine wpAny_loadName_local SC.kind SC.self hns lS ?_
  refine ks_wpAny_isType_cls (hk₀ _ _ (X _ _ hC)) rfl ⟨rfl, ?_⟩
  refine ks_wpAny_call_super (hk₀ _ _ (X _ _ hC)) rfl (hk₀ _ _ he) rfl (fun c z => by cases z) (PySem.W.looks_mroIn X0 T.self) (fun h1 e1 k1 => ?_)
  have X1 : K.In h1 := fun b o z => k1 b o (X0 b o z)
  have he1 := k1 _ _ (hk₀ _ _ he)
  have I1 : PySem.W.InstAt h1 e (HandSPX.excO C t0) C none := ⟨he1, rfl, rfl, trivial⟩
  have hI : PySem.W.Looks (model P w) h1 (isInstance (.ref e) (.type "ValueError")) true := I1.type.andThen (PySem.W.looks_subIn X1 T.ve)
  refine PySem.W.kxs_getMethod PySem.W.kxs_ValueError e1 (PySem.W.looks_opaque X1 T.opq) (l₀ := .ref C :: bm) (fun A Q E s k q => wpAny_bind ((PySem.W.looks_clsIn X1 hcl) A _ E s k (wpAny_pure q))) rfl X1 (T.up _ hcl) hI (PySem.W.ks_ne X1 I1 hcl) rfl ?_
  have mwAt : (h1.push (PySem.W.kxs_mw "ValueError.__init__" e)).get? h1.objs.size = some (PySem.W.kxs_mw "ValueError.__init__" e) := Heap.get?_push_size _ rfl
  have k2 : ∀ b o, h1.get? b = some o → (h1.push (PySem.W.kxs_mw "ValueError.__init__" e)).get? b = some o := fun b o z => Heap.get?_push_of_some _ z
  have ns2 := hns.keeps (fun b o z => k2 b o (k1 b o z))
  refine PySem.W.kxs_callWith (i := "ValueError.__init__") (x := e) rfl (Calls.evalArgs_plain (Calls.spliced_cons (wpAny_Name (wpAny_loadName_local SC.kind SC.most ns2 lM (Calls.spliced_nil ⟨mwAt, ?_⟩)) nDb)))
  refine call_mw (X1 _ _ hC |> k2 _ _) (k2 _ _ he1) mwAt (by show 1 ≤ sizeLine; rw [sizeLine_eq]; omega) (fun h2 t1 k3 e3 => ?_)
  have keep2 : ∀ b o, b ≠ e → s.heap.get? b = some o → h2.get? b = some o := fun b o hb z => k3 b o hb (k2 b o (k1 b o (hk₀ b o z)))
  have ns3 : h2.Ns s.heap.objs.size (fun x => ([("self", .ref e), (mn, u)] : List (Str × Value)).reverse.lookup x) := by
    obtain ⟨oL, es, ep, hL, r⟩ := ns2
    exact ⟨oL, es, ep, k3 _ _ hLe hL, r⟩
  have X2 : K.In h2 := fun b o z => keep2 b o (fun y => by rw [y, hKe] at z; cases z) (X b o z)
  refine ks_wpAt_execs_cons (ks_wpAt_Assign_Attr (wpAt_of_wpAny (wpAny_Name (wpAny_loadName_local SC.kind SC.most ns3 lM (wpAny_Name (wpAny_loadName_local SC.kind SC.self ns3 lS ?_))) nDb)))
  refine PySem.W.set_plain X2 (ox := HandSPX.excO C t1) (od := none) ⟨e3, rfl, rfl, trivial⟩ T.cls.sa ?_
  refine HandSPX.exc_osa X2 e3 hcl (show HandSPX.refsVE (.ref C :: bm) = true from hbm) rfl T.nof (fun h3 tk3 dx k4 dn dne hx hn => ?_)
  refine wpAt_of_wpAny (wpAny_execs_nil ?_)
  have lt : s.heap.objs.size ≤ dx := by
    obtain ⟨oL, es, ep, hL, r⟩ := ns3
    exact Nat.le_of_lt (Nat.lt_of_lt_of_le (Heap.lt_size hL) dn)
  exact h h3 tk3 dx t1 (fun b o hb z => k4 b o hb (keep2 b o hb z)) lt dne hx hn
/-- C(e): the exception, its dict holding the field -/
theorem pmk_fld {X : Cx} {C : Addr} {mn x : Str} {e : Expr} {ta : TA} {p pos : Pos} (T : FldK X.prog X.K C mn) (hr : Room 1 X.A) (hg : Gl X x) (hm : X.mg x = some (.ref C)) (ha : PA X [e] ta)
    (hdb : (x == ("__debug__" : Str)) = false := by decide) (he : starEach [e] X.env = (false, eval e X.env) :: starEach [] X.env := by rfl) (hpl : (backTo pos (starEach ([] : List Expr) X.env)).any (·.1) = false := by rfl) :
    PMk X (.Call (.Name x p) [e] [] pos) (fun σ H Q => ta σ H fun vs H1 => ∃ v, vs = [v] ∧ ∀ d, H1 d = none → Q (.ref C) (some d) (upd H1 d (.xd [(mn, v)]))) := by
  intro pins s σ H Q I h
  obtain ⟨nm, q, N, bs, bm, sn, sub, ab, col, dd, k0, k1, k2, k3, k5, hC, hbm⟩ := T.cls.cls
  obtain ⟨fI, cc, cda, oo, fd, oc, oa, vsa, file, tf, iC, tI, _⟩ := T.ini
  refine wpAny_Call_Name_kw (ld_glob I hg hm ?_ hdb)
  refine PySem.W.callWith_K (h₀ := X.base) I.ok.mod.kin T.cls.kC (thn (ha.run pos pins s σ H _ I h) fun us s1 ⟨vs, H1, I1, r1, v, ev, q1⟩ => ⟨I1.kIn, ?_⟩) he hpl
  subst ev
  obtain ⟨u, rfl, rv⟩ : ∃ u, us = [u] ∧ RelV v u := by
    cases r1 with
    | cons a b => cases b; exact ⟨_, rfl, a⟩
  show wpAny _ _ (call (.ref C) [u]) _ _ _
  obtain ⟨hp, g, dr, tk, os⟩ := s1
  have hsz : hp.objs.size ≤ hp.objs.size + 1 := Nat.le_succ _
  have hn : H1 (hp.objs.size + 1) = none := I1.hok.fresh hsz
  have kk : ∀ b o, hp.get? b = some o → ((hp.push (PySem.W.kdv_tup [u])).push (PySem.HandSPX.excO C hp.objs.size)).get? b = some o := fun b o e => Heap.get?_push_of_some _ (Heap.get?_push_of_some _ e)
  have hget : ((hp.push (PySem.W.kdv_tup [u])).push (PySem.HandSPX.excO C hp.objs.size)).get? (hp.objs.size + 1) = some (PySem.HandSPX.excO C hp.objs.size) := by heap_get
  have I2 : Inv X pins σ (upd H1 (hp.objs.size + 1) (exo (hp.objs.size + 1) C none)) ⟨(hp.push (PySem.W.kdv_tup [u])).push (PySem.HandSPX.excO C hp.objs.size), g, dr, tk, os⟩ :=
    I1.laid (t' := tk) (a := hp.objs.size + 1) (o := exo (hp.objs.size + 1) C none) (h' := (hp.push (PySem.W.kdv_tup [u])).push (PySem.HandSPX.excO C hp.objs.size)) kk hsz (exo_ok hget)
  obtain ⟨mb, b1, b2⟩ := I2.mod.blt
  have hKe : X.K.lookup (hp.objs.size + 1) = none := by
    cases z : X.K.lookup (hp.objs.size + 1) with
    | none => rfl
    | some o =>
      have y := I1.kIn _ _ z
      exact absurd (Heap.lt_size y) (Nat.not_lt.mpr hsz)
  have hlt := Heap.lt_size hget
  refine wpAny_call (PySem.HandSPX.call_own F.excBase_ValueError (fun Y => PySem.HandSPX.refsVE_contains Y bm hbm) (I1.kIn _ _ hC) (PySem.W.looks_findIn I1.kIn iC) (fun self => PySem.W.bind_fn I1.kIn self tI) (by show 1 ≤ sizeLine; rw [sizeLine_eq]; omega)
    (init_run (mg := X.mg) (mb := mb) T I2.kIn (I2.mod.glob.keeps I2.bk) (b1.keeps I2.bk) b2 I2.nolimit (hr.make C [u] []).depth hget iC hKe fun h' tk' dx t1 k dn dne hx hn' => ?_))
  have hnd : H1 dx = none := I1.hok.fresh (Nat.le_trans (Nat.le_trans hsz (Nat.le_of_lt hlt)) dn)
  obtain ⟨a, ea⟩ : ∃ a, a = hp.objs.size + 1 := ⟨_, rfl⟩
  rw [← ea] at hn I2 hget k dne hx hsz hlt
  obtain ⟨hp2, ep2⟩ : ∃ hp2, hp2 = (hp.push (PySem.W.kdv_tup [u])).push (PySem.HandSPX.excO C hp.objs.size) := ⟨_, rfl⟩
  rw [← ep2] at kk hget I2 k dn hlt
  obtain ⟨Ha, eHa⟩ : ∃ Ha, Ha = upd H1 a (exo a C none) := ⟨_, rfl⟩
  have eae : Ha a = some (exo a C none) := by rw [eHa, upd_same]
  have hnd2 : Ha dx = none := by rw [eHa, upd_ne dne]; exact hnd
  rw [← eHa] at I2
  have nd : ∀ {b : Addr} {o : Obj}, hp2.get? b = some o → b ≠ dx := fun {b o} q => Nat.ne_of_lt (Nat.lt_of_lt_of_le (Heap.lt_size q) dn)
  have na : ∀ {b : Addr}, Ha b = none → b ≠ a := fun {b} n z => by
    rw [z, eae] at n
    cases n
  have Un1 : Un (frs X.stack) [] Ha (upd (upd Ha dx (exd dx [(mn, v)])) a (exo a C (some dx))) hp2 h' := {
    keep := fun b o q n _ _ => k b o (na n) q
    slot := fun b o q n _ _ => ⟨o.slots, k b o (na n) q⟩
    free := fun b o q n _ => by rw [upd_ne (na n), upd_ne (nd q)]; exact n
    there := fun b o q _ => by
      by_cases hb : b = a
      · exact ⟨_, by rw [hb]; exact hx⟩
      · exact ⟨o, k b o hb q⟩
    tups := fun b xs q => by rw [upd_ne (at_ne eae q exo_tup), upd_ne (ne_of_none q hnd2)]; exact q
    frzs := fun b o v q => by rw [upd_ne (at_ne eae q exo_frz), upd_ne (ne_of_none q hnd2)]; exact q
    tbls := fun b ps q => ⟨#[], by rw [upd_ne (at_ne eae q exo_tbl), upd_ne (ne_of_none q hnd2), q]; simp⟩ }
  have hok2 : HOk X.prog X.w (upd (upd Ha dx (exd dx [(mn, v)])) a (exo a C (some dx))) h' := fun b o q => by
    by_cases hb : b = a
    · subst hb
      rw [upd_same] at q
      cases q
      exact exo_ok hx
    · rw [upd_ne hb] at q
      by_cases hd : b = dx
      · subst hd
        rw [upd_same] at q
        cases q
        exact exd_ok hn' (relO_put (fs := []) rv fun g => True.intro)
      · rw [upd_ne hd] at q
        exact (I2.hok b o q).stay (fun c v hc z => k c v (by
            rcases hc with hc | hc
            · rw [hc]
              exact hb
            · exact at_ne eae hc exo_own) z)
          (fun c hc => by rw [upd_ne (at_ne eae hc exo_own), upd_ne (ne_of_none hc hnd2)]; exact hc) (fun c xs hc => by rw [upd_ne (at_ne eae hc exo_tup), upd_ne (ne_of_none hc hnd2)]; exact hc)
  have eD : upd (del (upd (upd Ha dx (exd dx [(mn, v)])) a (exo a C (some dx))) a) dx (.xd [(mn, v)]) = upd H1 dx (.xd [(mn, v)]) := by
    funext b
    by_cases hb : b = dx
    · rw [hb, upd_same, upd_same]
    · rw [upd_ne hb, upd_ne hb]
      by_cases hba : b = a
      · rw [hba, del_same, hn]
      · rw [del_ne hba, upd_ne hba, upd_ne hb, eHa, upd_ne hba]
  subst ea
  refine ⟨rfl, mk_end (raises_own T.cls.exC T.cls.tyC) I1 hsz kk (by rw [← eHa]; exact Un1) hok2 rfl I1.bare (by rw [upd_same]) (by rw [upd_ne dne, upd_same]) hnd ?_⟩
  rw [eD]
  exact q1 dx hnd
end
def oexB (K : PySem.W.Frag) (C : Addr) : Bool := match K.lookup C with
  | some ⟨.type "type", _, .cls cd, sl⟩ => (match cd.mro, sl.toList with
    | .ref C' :: bm, [_, _, _, _, some (.builtin n), _] => decide (C' = C) && (decide (n = "ValueError.__new__") && (!cd.hasDel && (cd.hasDict && HandSPX.refsVE bm)))
    | _, _ => false)
  | _ => false
theorem oexB_ok {K : PySem.W.Frag} {C : Addr} (h : oexB K C = true) : ∃ nm q N bs bm sn sub ab col dd k0 k1 k2 k3 k5, K.lookup C = some (excClassObj nm q C N bs bm true sn sub ab col dd k0 k1 k2 k3 k5 "ValueError.__new__") ∧ HandSPX.refsVE bm = true := by
  unfold oexB at h
  split at h
  · rename_i dd cd sl ho
    split at h
    · rename_i C' bm k0 k1 k2 k3 n k5 hm hs
      simp only [Bool.and_eq_true, decide_eq_true_eq, Bool.not_eq_true'] at h
      obtain ⟨rfl, rfl, hdel, hdc, hr⟩ := h
      obtain ⟨nm, bs, mro, ns, qn, hd, sn, sub, ab, col, del⟩ := cd
      dsimp only at hm hdel hdc
      subst hm hdel hdc
      have hsl : sl = #[k0, k1, k2, k3, some (.builtin "ValueError.__new__"), k5] := by
        obtain ⟨l⟩ := sl
        simp only at hs
        rw [hs]
      subst hsl
      exact ⟨nm, qn, ns, bs, bm, sn, sub, ab, col, dd, k0, k1, k2, k3, k5, ho, hr⟩
    · cases h
  · cases h
def iniB (P : Program) (K : PySem.W.Frag) (C : Addr) (mn : Str) : Bool := match PySem.W.findIn K (.ref C) "__init__" with
  | some (some (.ref fI)) => decide (PySem.W.typeIn K (.ref fI) = some (.type "function")) && (match K.lookup fI with
    | some ⟨_, _, .func fd, _⟩ => ibB mn fd.body && (ipB mn fd.params && (iscB mn fd.scope && (decide (fd.globals = mainGlobals) && (decide (fd.builtins = builtinsNs) && (decide (fd.defaults = .none) && (decide (fd.kwdefaults = .none) &&
        (PySem.W.codeIn K fd.code fd.qualname && (match fd.closure, fd.code with
          | [(n, cc)], .ref cda => decide (n = "__class__") && (match K.lookup cda, K.lookup cc with
            | some ⟨_, _, .fields vs, _⟩, some ⟨_, _, .cell (some v), _⟩ => decide (v = .ref C) && (match (vs[2]? : Option Value) with
              | some (.str file _) => (P.main.file : Str) == file
              | _ => false)
            | _, _ => false)
          | _, _ => false))))))))
    | _ => false)
  | _ => false
theorem iniB_ok {P : Program} {K : PySem.W.Frag} {C : Addr} {mn : Str} (h : iniB P K C mn = true) : ∃ (fI cc cda : Addr) (o : Obj) (fd : FuncData) (oc oa : Obj) (vs : Array Value) (file : Str) (tf : Tok),
    PySem.W.findIn K (.ref C) "__init__" = some (some (.ref fI)) ∧ PySem.W.typeIn K (.ref fI) = some (.type "function") ∧ K.lookup fI = some o ∧ o.data = .func fd ∧ ibB mn fd.body = true ∧ ipB mn fd.params = true ∧ iscB mn fd.scope = true ∧
      fd.closure = [(("__class__" : Str), cc)] ∧ fd.globals = mainGlobals ∧ fd.builtins = builtinsNs ∧ fd.defaults = .none ∧ fd.kwdefaults = .none ∧ PySem.W.codeIn K fd.code fd.qualname = true ∧ fd.code = .ref cda ∧ K.lookup cda = some oa ∧ oa.data = .fields vs ∧
      vs[2]? = some (.str file tf) ∧ ((P.main.file : Str) == file) = true ∧ K.lookup cc = some oc ∧ oc.data = .cell (some (.ref C)) := by
  unfold iniB at h
  split at h
  · rename_i fI hfI
    rw [Bool.and_eq_true, decide_eq_true_eq] at h
    obtain ⟨h1, h⟩ := h
    split at h
    · rename_i oc1 od1 fd osl hlk
      simp only [Bool.and_eq_true, decide_eq_true_eq] at h
      obtain ⟨a1, a2, a3, a4, a5, a6, a7, a8, h⟩ := h
      split at h
      · rename_i n cc cda hcl hcd
        rw [Bool.and_eq_true, decide_eq_true_eq] at h
        obtain ⟨rfl, h⟩ := h
        split at h
        · rename_i vs osl2 x1 x2 v osl3 hA hB
          rw [Bool.and_eq_true, decide_eq_true_eq] at h
          obtain ⟨rfl, h⟩ := h
          split at h
          · rename_i file tf hv
            exact ⟨fI, cc, cda, _, fd, _, _, vs, file, tf, hfI, h1, hlk, rfl, a1, a2, a3, hcl, a4, a5, a6, a7, a8, hcd, hA, rfl, hv, h, hB, rfl⟩
          · cases h
        · cases h
      · cases h
    · cases h
  · cases h
def fldB (P : Program) (K : PySem.W.Frag) (C : Addr) (mn : Str) : Bool :=
  oexB K C && (decide (PySem.W.findIn K (.ref C) "__setattr__" = some (some (.builtin "object.__setattr__"))) && (decide (PySem.W.subIn K (.ref C) (.type "BaseException") = some true) && (decide (PySem.W.typeIn K (.ref C) = some (.type "type")) && (PySem.W.keepIn K (.ref C) &&
  (decide (PySem.W.findIn K (.ref C) mn = some none) && (decide (PySem.W.mroIn K C (.ref C) = some true) && (decide (PySem.W.subIn K (.ref C) (.type "ValueError") = some true) && (decide (PySem.W.nsIn K cStatics "thirdparty.any" = some none) && (decide (PySem.W.nsIn K mainGlobals "super" = some none) &&
  (!(P.main.scope.names.lookup ("super" : Str)).isSome && ((match PySem.W.clsIn K C with
    | some cd => decide (PySem.W.alongIn K "__init__" ((cd.mro.dropWhile (· != .ref C)).drop 1) = some (some (.builtin "ValueError.__init__")))
    | none => false) && ((decide (mn = "most") || decide (mn = "place")) && (xfB K C && (decide (PySem.W.findIn K (.ref C) "__class__" = some (some (.builtin "object.__class__"))) && (decide (PySem.W.specialIn K (.builtin "object.__class__") "__get__" = some (some (.builtin "getset_descriptor.__get__"))) &&
  (decide (PySem.W.takesIn K (.builtin "object.__class__") = some true) && (decide (PySem.W.mroIn K C (.type "object") = some true) && (decide (PySem.W.kitOne K (.ref C) (.type "ValueError") = some true) && iniB P K C mn))))))))))))))))))
theorem fldB_ok {P : Program} {K : PySem.W.Frag} {C : Addr} {mn : Str} (h : fldB P K C mn = true) : FldK P K C mn := by
  unfold fldB at h
  simp only [Bool.and_eq_true, decide_eq_true_eq, Bool.not_eq_true', Bool.or_eq_true] at h
  obtain ⟨a1, a2, a3, a4, a5, a6, a7, a8, a9, a10, a11, a12, a13, a14, a15, a16, a17, a18, a19, a20⟩ := h
  exact { cls := ⟨oexB_ok a1, a2, a3, a4, a5⟩, nof := a6, self := a7, ve := a8, opq := a9, sup := a10, top := a11, nam := a13, xf := xfB_ok a14, ha := a15, hn := a16, ht := a17, hm := a18, kit := a19, ini := iniB_ok a20, up := fun cd hc => (by rw [hc] at a12; exact of_decide_eq_true a12) }
def xfld (c : Str) : Option Nat := match c.cps.back? with
  | some k => if 1114112 < k then some (k - 1114113) else none
  | none => none
def xbase (c : Str) : Str := match xfld c with
  | some _ => ⟨c.cps.pop⟩
  | none => c
def xtag (c : Str) (i : Nat) : Str := ⟨c.cps.push (1114113 + i)⟩
theorem xfld_tag (c : Str) (i : Nat) : xfld (xtag c i) = some i := by
  unfold xfld xtag
  dsimp only
  rw [Array.back?_push]
  dsimp only
  rw [if_pos (by omega), show 1114113 + i - 1114113 = i by omega]
theorem xbase_tag (c : Str) (i : Nat) : xbase (xtag c i) = c := by
  unfold xbase
  rw [xfld_tag]
  show (⟨(c.cps.push _).pop⟩ : Str) = c
  rw [Array.pop_push]
theorem xbase_plain {c : Str} (h : xfld c = none) : xbase c = c := by
  unfold xbase
  rw [h]
def xnam (c : Str) : Str := if c = "InvalidText" then "place" else "most"
def isFld (c : Str) : Bool := decide (c = "TooGreat") || (decide (c = "TooMany") || decide (c = "InvalidText"))
/-- the dict of what is raised -/
def Xat (c : Str) (d : Option Addr) (H : Hp) : Prop := match xfld c with
  | none => d = none
  | some i => ∃ dd, d = some dd ∧ H dd = some (.xd [(xnam (xbase c), .int (i : Int))])
theorem xat_plain {c : Str} {H : Hp} (h : xfld c = none) : Xat c none H := by
  unfold Xat
  rw [h]
theorem xat_tag {c : Str} {i : Nat} {dd : Addr} {H : Hp} (h : H dd = some (.xd [(xnam c, .int (i : Int))])) : Xat (xtag c i) (some dd) H := by
  unfold Xat
  rw [xfld_tag, xbase_tag]
  exact ⟨dd, rfl, h⟩
/-- an own class of exceptions, made without arguments -/
theorem pmk_none {X : Cx} {C : Addr} {bmB : List Value} {B newId initId : String} {x : Str} {p pos : Pos} (F : ExcBaseFacts B newId initId bmB) (q : PySem.W.excIn X.K C bmB newId = true) (gC : X.mg x = some (.ref C)) (kC : PySem.W.keepIn X.K (.ref C) = true) (r : Raises X (.ref C)) (hg : Gl X x)
    (hdb : (x == ("__debug__" : Str)) = false := by decide) : PMk X (.Call (.Name x p) [] [] pos) (fun _ H Q => Q (.ref C) none H) := fun pins s σ H Q I h => by
  obtain ⟨bm, N, nm, qn, bs, hdct, sn, sub, ab, col, dd, k0, k1, k2, k3, k5, mN, hC, hN, hni, T⟩ := exc_obj I.kIn q
  refine wpAny_Call_Name_kw (ld_glob I hg gC (PySem.W.callWith_K0 I.kIn kC ?_) hdb)
  exact wpAny_call_exc_subT F T hC hN hni (fun h' e hm => mk_of I hm r h (I.hok.gone hm.new)) (Nat.zero_le _)
/-- which class is raised, by its name -/
abbrev FX := List D → Option Str
abbrev MX := S → Option Str
def spX (K : PySem.W.Frag) (n : Nat) (φ : FX) : Sp := fun vs H _ E => ∃ Fz ds c, ds.length = n ∧ vs.length = n ∧ Cfg K Fz H (ds.map some) (vs.map some) [] ∧ φ ds = some c ∧ ∀ H' Fz' fp' d, Go Fz H [] Fz' H' fp' → Xat c d H' → E (.ref (He.ga K (xbase c))) d H'
def rdXE (K : PySem.W.Frag) (W : WX) (m : MX) : TE := fun σ H _ => ∃ Fz fp st c, Cfg K Fz H st σ fp ∧ m st = some c ∧ ∀ H' Fz' fp' d, Go Fz H fp Fz' H' fp' → Xat c d H' → W (.ref (He.ga K (xbase c))) d σ H'
def rdX (K : PySem.W.Frag) (W : WX) (m : MX) : TS := fun _ σ H => ∃ Fz fp st c, Cfg K Fz H st σ fp ∧ m st = some c ∧ ∀ σ' H' Fz' fp' d, Go Fz H fp Fz' H' fp' → Xat c d H' → W (.ref (He.ga K (xbase c))) d σ' H'
/-- an expression that raises -/
def SXE (Γ : Gam) (Φ : GCx → Prop) (e : Expr) (m : MX) : Prop := ∀ X W, On Γ Φ X → Takes X W → PE X e (rdXE X.K W m)
def SX1 (Γ : Gam) (Φ : GCx → Prop) (st : Stmt) (m : MX) : Prop := ∀ X W, On Γ Φ X → PassesOwn (model X.prog X.w) X.A X.env X.xe → Takes X W → PS X st (rdX X.K W m)
def SX (Γ : Gam) (Φ : GCx → Prop) (sts : List Stmt) (m : MX) : Prop := ∀ X W, On Γ Φ X → PassesOwn (model X.prog X.w) X.A X.env X.xe → Takes X W → PSs X sts (rdX X.K W m)
/-- a def may be called and raises -/
structure CallX (g : GCx) (x : Str) (n : Nat) (φ : FX) : Prop where
  ex : ∃ (f : Addr) (fd : FuncData) (ps : List Str) (k : Nat), FnOk g.prog g.w g.K g.mg g.base (L2.CX g.prog g.w) k f fd ps (spX g.K n φ) ∧ Room k g.A ∧ g.mg x = some (.ref f) ∧ PySem.W.keepIn g.K (.ref f) = true ∧ Binds g.K fd ps []
/-- an own class that may be raised -/
structure ExcAt (g : GCx) (x : Str) : Prop where
  glo : g.mg x = some (.ref (He.ga g.K x))
  ok : isFld x = false → (He.Fa.exc x).ok g.K = true
  fld : isFld x = true → FldK g.prog g.K (He.ga g.K x) (xnam x) ∧ Room 1 g.A
def xCall (φ : FX) (m : M (List D)) : MX := fun st => match m st with
  | some (ds, _) => match ds.all imm with
    | true => φ ds
    | false => none
  | none => none
theorem reps_imm {K : PySem.W.Frag} {Fz : Addr → Prop} {H : Hp} : ∀ {ds : List D} {vs : List (Option V)} {f}, RepS K Fz H (ds.map some) vs f → ds.all imm = true → f = []
  | [], _, _, .nil, _ => rfl
  | d :: ds, _, _, .cons (.som r) rs, h => by
    have h2 : (imm d && ds.all imm) = true := h
    rw [Bool.and_eq_true] at h2
    rw [r.imm h2.1, reps_imm rs h2.2]
    rfl
section
variable {Γ : Gam} {Φ : GCx → Prop}
theorem sxe_call {x : Str} {n : Nat} {φ : FX} {e : Expr} {es : List Expr} {m : M (List D)} {b : Back} {p pos : Pos} (hc : ∀ g, Φ g → CallX g x n φ) (ha : SL Γ Φ (e :: es) m b) (hn : b.length = n := by rfl) (hg : gGl Γ.sc x = true := by rfl) (hd : (x == ("__debug__" : Str)) = false := by decide)
    (ns : NoStar e := by intro _ _; rfl) (hpl : ∀ env : Env, (backTo pos (starEach es env)).any (·.1) = false := by intro _; rfl) : SXE Γ Φ (.Call (.Name x p) (e :: es) [] pos) (xCall φ m) := fun X W o tk => by
  obtain ⟨f, fd, ps, k, F, hr, hm, hk, hb⟩ := (hc _ o.phi).ex
  refine pe_imp (pe_callS F hr (o.gl hg) hm hk hb (passAt tk) (ha X o) hd (ns _ _) (hpl _)) fun σ H Q q => ?_
  obtain ⟨Fz, fp, st, c, C, e, kk⟩ := q
  unfold xCall at e
  split at e
  · rename_i ds s hm
    split at e
    · rename_i hi
      refine ⟨Fz, fp, st, C, ds, s, hm, fun vs H1 Fz1 fp1 hl hbl hL C1 g1 => ?_⟩
      obtain ⟨f1, f2, hf, r1, r2⟩ := RepS.split (by simp [hl]) C1.rep
      have := reps_imm r1 hi
      subst this
      refine ⟨Fz1, ds, c, by omega, by omega, ⟨r1, List.nodup_nil, fun _ h => (nomatch h), C1.ft⟩, e, fun H' Fz' fp' d g y => ?_⟩
      exact kk H' Fz' _ d (g1.trans (g.frame (k := fp1) (k1 := fp1) (fun _ h => (nomatch h)) fun a h => .inr h)) y
    · cases e
  · cases e
/-- the statement's own raising -/
theorem sx_head {st : Stmt} {sts : List Stmt} {m : MX} (h : SX1 Γ Φ st m) : SX Γ Φ (st :: sts) m := fun X W o hp tk =>
  pss_imp (pss_cons (u := fun _ _ _ => False) (h X W o hp tk) ⟨fun pins s σ H D I q => False.elim q⟩) fun D σ H q => q
/-- behind a statement that ends as it should -/
def xTail (a : M Fl) (m : MX) : MX := fun st => match a st with
  | some (.nx, s) => m s
  | _ => none
theorem sx_tail {RO : Nat → Bool} {st : Stmt} {sts : List Stmt} {a : M Fl} {m : MX} (h : ST1 Γ Φ RO st a) (hr : SX Γ Φ sts m) : SX Γ Φ (st :: sts) (xTail a m) := fun X W o hp tk => pss_imp (pss_cons (h X o hp) (hr X W o hp tk)) fun D' σ H q => by
  obtain ⟨Fz, fp, st, c, C, e, k⟩ := q
  show rdS X.K RO a { D' with nx := rdX X.K W m D' } σ H
  unfold xTail at e
  split at e
  · rename_i s hm
    exact ⟨Fz, fp, st, C, .nx, s, hm, fun σ1 H1 Fz1 fp1 r1 g1 C1 => ⟨Fz1, fp1, s, c, C1, e, fun σ2 H2 Fz2 fp2 d g2 y => k σ2 H2 Fz2 fp2 d (g1.trans g2) y⟩⟩
  · cases e
def xOr (a b : MX) : MX := fun st => match a st with
  | some c => some c
  | none => b st
theorem rdX_or {K : PySem.W.Frag} {W : WX} {a b : MX} {D σ H} (q : rdX K W (xOr a b) D σ H) : rdX K W a D σ H ∨ rdX K W b D σ H := by
  obtain ⟨Fz, fp, st, c, C, e, k⟩ := q
  unfold xOr at e
  split at e
  · rename_i c' h
    cases e
    exact .inl ⟨Fz, fp, st, c, C, h, k⟩
  · exact .inr ⟨Fz, fp, st, c, C, e, k⟩
theorem sx_or {sts : List Stmt} {a b : MX} (ha : SX Γ Φ sts a) (hb : SX Γ Φ sts b) : SX Γ Φ sts (xOr a b) := fun X W o hp tk => ⟨fun pins s σ H D I q => (rdX_or q).elim ((ha X W o hp tk).run pins s σ H D I) ((hb X W o hp tk).run pins s σ H D I)⟩
def xNo : MX := fun _ => none
theorem sx_no {sts : List Stmt} : SX Γ Φ sts xNo := fun X W o hp tk => ⟨fun pins s σ H D I q => by
  obtain ⟨_, _, _, _, _, e, _⟩ := q
  cases e⟩
def xIf (c : M Bool) (a b : MX) : MX := fun st => match c st with
  | some (true, s) => a s
  | some (false, s) => b s
  | none => none
theorem sx_if {c : Expr} {a b : List Stmt} {mc : M Bool} {ma mb : MX} {pos : Pos} (hc : ST Γ Φ c mc) (ha : SX Γ Φ a ma) (hb : SX Γ Φ b mb) : SX1 Γ Φ (.If c a b pos) (xIf mc ma mb) := fun X W o hp tk => ps_imp (ps_if (hc X o) (ha X W o hp tk) (hb X W o hp tk)) fun D' σ H q => by
  obtain ⟨Fz, fp, st, c, C, e, k⟩ := q
  unfold xIf at e
  split at e
  · rename_i s hm
    exact ⟨Fz, fp, st, C, _, _, hm, fun H1 Fz1 fp1 C1 g1 => iteT ⟨Fz1, fp1, s, c, C1, e, fun σ2 H2 Fz2 fp2 d g2 y => k σ2 H2 Fz2 fp2 d (g1.trans g2) y⟩⟩
  · rename_i s hm
    exact ⟨Fz, fp, st, C, _, _, hm, fun H1 Fz1 fp1 C1 g1 => iteF ⟨Fz1, fp1, s, c, C1, e, fun σ2 H2 Fz2 fp2 d g2 y => k σ2 H2 Fz2 fp2 d (g1.trans g2) y⟩⟩
  · cases e
def xRaise (c : Str) : MX := fun _ => some c
theorem sx_raise {x : Str} {p p2 pos : Pos} (hx : ∀ g, Φ g → ExcAt g x) (hp0 : isFld x = false := by decide +kernel) (hp1 : xfld x = none := by decide +kernel) (hg : gGl Γ.sc x = true := by rfl) (hd : (x == ("__debug__" : Str)) = false := by decide) : SX1 Γ Φ (.Raise (some (.Call (.Name x p) [] [] p2)) none pos) (xRaise x) := fun X W o hp tk => by
  obtain ⟨hm, hok, _⟩ := hx _ o.phi
  obtain ⟨h1, h2, h3, h4⟩ := He.exc_ok (hok hp0)
  exact ps_imp (ps_raise o.calm tk (pmk_none PySem.F.excBase_ValueError h1 hm h2 (raises_own h3 h4) (o.gl hg) hd)) fun D' σ H q => by
    obtain ⟨Fz, fp, st, c, C, e, k⟩ := q
    cases e
    have k2 := k σ H Fz fp none .refl (xat_plain hp1)
    rw [xbase_plain hp1] at k2
    exact k2
/-- raise x(e): e's whole number is told behind the class -/
def xRaiseF (c : Str) (m : M D) : MX := fun st => match m st with
  | some (.int i, _) => match decide (0 ≤ i) with
    | true => some (xtag c i.toNat)
    | false => none
  | _ => none
theorem sx_raiseF {x : Str} {e : Expr} {m : M D} {p p2 pos : Pos} (hx : ∀ g, Φ g → ExcAt g x) (he : SE Γ Φ e m) (hp0 : isFld x = true := by decide +kernel) (hg : gGl Γ.sc x = true := by rfl) (hd : (x == ("__debug__" : Str)) = false := by decide)
    (ns : NoStar e := by intro _ _; rfl) (hpl : ∀ env : Env, (backTo p2 (starEach ([] : List Expr) env)).any (·.1) = false := by intro _; rfl) : SX1 Γ Φ (.Raise (some (.Call (.Name x p) [e] [] p2)) none pos) (xRaiseF x m) := fun X W o hp tk => by
  obtain ⟨hm, _, hfl⟩ := hx _ o.phi
  obtain ⟨FK, hr⟩ := hfl hp0
  refine ps_imp (ps_raise o.calm tk (pmk_fld FK hr (o.gl hg) hm (pa_cons (he X o) pa_nil (ns _ _)) hd (ns _ _) (hpl _))) fun D' σ H q => ?_
  obtain ⟨Fz, fp, st, c, C, e, k⟩ := q
  unfold xRaiseF at e
  split at e
  · rename_i i s hm2
    split at e
    · rename_i hi
      cases e
      have hi := of_decide_eq_true hi
      refine rd.run (P := []) (PV := []) C rfl hm2 fun v H1 Fz1 fp1 C1 g1 => ⟨v, rfl, fun d hd' => ?_⟩
      obtain ⟨v', f, e', r, _⟩ := C1.head
      cases e'
      have ev : v = .int ((i.toNat : Nat) : Int) := by rw [r.inti, Int.toNat_of_nonneg hi]
      have kk : ∀ {a u}, H1 a = some u → upd H1 d (.xd [(xnam x, v)]) a = some u := fun {a u} e => by rw [upd_ne (ne_of_none e hd')]; exact e
      have k2 := k σ (upd H1 d (.xd [(xnam x, v)])) Fz1 fp1 (some d) (g1.trans ⟨fun a u e _ => kk e, fun a e => by
          by_cases ea : a = d
          · rw [ea]; exact hd'
          · rw [upd_ne ea] at e; exact e, fun _ h => h, fun _ h => .inl h, fun a q => .inl q⟩) (xat_tag (by rw [upd_same, ev]))
      rw [xbase_tag] at k2
      exact k2
    · cases e
  · cases e
theorem sx_expr {e : Expr} {m : MX} {pos : Pos} (h : SXE Γ Φ e m) (hs : ∀ env : Env, swapsWith e none pos.line env = pure false := by intro _; rfl) : SX1 Γ Φ (.Expr e pos) m := fun X W o hp tk => ps_imp (ps_expr (h X W o tk) (hs _)) fun D' σ H q => by
  obtain ⟨Fz, fp, st, c, C, e, k⟩ := q
  exact ⟨Fz, fp, st, c, C, e, fun H' Fz' fp' d g y => k σ H' Fz' fp' d g y⟩
def runX (nN n : Nat) (m : MX) : FX := fun ds => match Nat.beq ds.length n with
  | true => m (ds.map some ++ List.replicate (nN - n) none)
  | false => none
end
section
variable {P : Program} {w : World} {K : PySem.W.Frag} {mg : Str → Option Value} {base : Heap}
theorem def_okX {x qual : Str} {pr : Arguments} {bd : List Stmt} {scp : Scope} {dvs : List V} {kws : List (Str × V)} {f : Addr} {fd : FuncData} {N ps : List Str} {k n : Nat} {m : MX} {Φ : GCx → Prop} (F : FunD K x qual pr bd scp dvs kws f fd) (Sc : FnScope N ps scp) (hn : ps.length = n)
    (hb : SX { N := N, sc := scp } Φ bd m) (hΦ : ∀ A : Around, Room k A → Φ ⟨P, w, K, mg, base, A⟩) : FnOk P w K mg base (L2.CX P w) (k + 1) f fd ps (spX K n (runX N.length n m)) := by
  refine F.ok Sc (fun vs H Q E h => ?_) (fun cdv A outer s H vs Q E hr h => ?_)
  · obtain ⟨_, _, _, _, h, _⟩ := h
    rw [h, hn]
  · obtain ⟨Fz, ds, c, hd, hv, C, e, kk⟩ := h
    have o : On { N := N, sc := scp } Φ (cxOf (L2.CX P w) P w K mg base N qual scp f cdv A outer s H E) :=
      { N := rfl, sc := rfl, nd := Sc.nd, calm := rfl, kind := Sc.kind, fn := fun _ _ => rfl, hu := by have := hr.un; show (A.deeper _).units + 100 < cLine; omega, phi := hΦ _ hr }
    refine ⟨_, hb _ (fun cls d _ H' => E cls d H') o (passes_of rfl) (takes_of rfl rfl rfl rfl), ?_⟩
    unfold runX at e
    split at e
    · have C1 : Cfg K Fz H (ds.map some ++ List.replicate (N.length - n) none) (L2.start N vs) [] := by
        have R : RepS K Fz H (List.replicate (N.length - n) (none : Option D)) (List.replicate (N.length - n) (none : Option V)) [] := by
          generalize N.length - n = j
          induction j with
          | zero => exact .nil
          | succ j ih => rw [List.replicate_succ, List.replicate_succ]; exact .cons (f := []) (g := []) .skip ih
        have RR := C.rep.app R
        rw [List.append_nil] at RR
        unfold L2.start
        rw [hv]
        exact ⟨RR, C.nd, C.fz, C.ft⟩
      exact ⟨Fz, [], _, c, C1, e, fun σ' H' Fz' fp' d g y => kk H' Fz' fp' d g y⟩
    · cases e
end
end Va
namespace Va
open PySem PySem.Spec PyProof.Rows L2 LamX
/-- all but the tables stays, and nothing goes -/
structure Grow (H H' : Hp) : Prop where
  keep : ∀ b o, H b = some o → (∀ ps, o ≠ .tbl ps) → H' b = some o
  dom : ∀ b, H' b = none → H b = none
theorem Grow.refl (H : Hp) : Grow H H := ⟨fun _ _ h _ => h, fun _ h => h⟩
theorem Grow.trans {H H1 H2 : Hp} (a : Grow H H1) (b : Grow H1 H2) : Grow H H2 := ⟨fun c o h n => b.keep c o (a.keep c o h n) n, fun c h => a.dom c (b.dom c h)⟩
/-- the lambda's names in the maker's -/
structure LamN (N : List Str) (sc scope : Scope) : Prop where
  kind : scope.kind = .function
  co : scope.isCoroutine = false
  gen : scope.isGenerator = false
  own : ∀ y ∈ scope.names, y.2 ≠ .cell ∧ (y.2 = .local → y.1 ∉ N)
  free : ∀ y ∈ scope.names, y.2 = .free → sc.names.lookup y.1 = some .cell ∨ sc.names.lookup y.1 = some .free
def lamNB (N : List Str) (sc scope : Scope) : Bool :=
  decide (scope.kind = .function) && (!scope.isCoroutine && (!scope.isGenerator && scope.names.all fun y => !decide (y.2 = .cell) && ((!decide (y.2 = .local) || !N.contains y.1) && (!decide (y.2 = .free) || (decide (sc.names.lookup y.1 = some .cell) || decide (sc.names.lookup y.1 = some .free))))))
theorem lamN_by {N : List Str} {sc scope : Scope} (h : lamNB N sc scope = true) : LamN N sc scope := by
  unfold lamNB at h
  simp only [Bool.and_eq_true, Bool.or_eq_true, Bool.not_eq_true', decide_eq_true_eq, decide_eq_false_iff_not, List.all_eq_true] at h
  obtain ⟨a, b, c, d⟩ := h
  refine ⟨a, b, c, fun y hy => ⟨(d y hy).1, fun e hm => ?_⟩, fun y hy e => ?_⟩
  · rcases (d y hy).2.1 with z | z
    · exact z e
    · have : N.contains y.1 = true := List.contains_iff_mem.mpr hm
      rw [this] at z; cases z
  · rcases (d y hy).2.2 with z | z
    · exact absurd e z
    · exact z
section
variable {X : Cx} {pins : List (Addr × Obj)} {σ : L2.St} {H HZ : Hp} {s s1 : Shared}
theorem LamN.has {scope : Scope} (L : LamN X.N X.env.scope scope) (ok : X.Ok) : ∀ y ∈ scope.names, y.2 = .free → ∃ c, X.env.cells.lookup y.1 = some c := fun y hy e => (L.free y hy e).elim (fun k => ok.has _ (.inl k)) fun k => ok.has _ (.inr k)
abbrev lamQ (X : Cx) : Str := X.env.qual ++ "<lambda>"
abbrev lamO (X : Cx) (params : Arguments) (body : Expr) (scope : Scope) (dV doc pm : Value) (c' : Addr) (ctv : Value) : Obj :=
  PySem.W.kdv_obj "<lambda>" (lamQ X) params (.expr body) scope (cloFrom X.env.cells scope.names []) dV doc pm c' ctv
/-- the function object is made, its default's tuple at hand -/
theorem lam_tail {T : List (Addr × Str)} {c P : Addr} {params : Arguments} {body : Expr} {scope : Scope} {pos : Pos} {dV : Value} {E Q : Value → Shared → Prop} (I : Inv X pins σ H s) (TB : TabB X.base X.mg c P) (hcode : X.env.code = .ref c) (hm : (P, lamQ X) ∈ T)
    (hu : ∀ p ∈ T, p.1 = P → p.2 = lamQ X) (hT : Tabs T H) (hfree : ∀ y ∈ scope.names, y.2 = .free → ∃ c, X.env.cells.lookup y.1 = some c)
    (h : ∀ (f c' : Addr) (doc pm ctv : Value) (H1 : Hp) (s' : Shared), Inv X pins σ H1 s' → Grow H H1 → Tabs T H1 → (∀ b o, b ≠ P → s.heap.get? b = some o → s'.heap.get? b = some o) → s'.heap.get? f = some (lamO X params body scope dV doc pm c' ctv) → H1 f = none → f ∉ frs X.stack →
      H1 c' = some (CodeO c' (lamQ X)) → (∀ b, H b = none → s.heap.get? b ≠ none → H1 b = none) → Q (.ref f) s') :
    wpAny (model X.prog X.w) X.A (makeTail "<lambda>" (lamQ X) params (.expr body) scope X.env dV .none none pos pos.line) Q E s := by
  obtain ⟨ps, hP, ht, ha⟩ := hT _ hm
  have bP : s.heap.BuiltinsAt X.mg P := TB.bm.keeps I.bk
  have eP : s.heap.get? P = some { cls := .none, data := .fields ps } := I.hok P _ hP
  have away : ∀ f, s.heap.objs.size ≤ f → f ∉ frs X.stack := fun f hf z => (List.mem_cons.mp (I.stkSub _ z)).elim (fun e => Nat.lt_irrefl _ (Nat.lt_of_lt_of_le (e ▸ I.lt) hf)) fun e => I.nofs hf e
  cases hc : codeAmong pos ps.toList with
  | some cv =>
    obtain ⟨c', e, hco⟩ := ha pos cv hc
    subst e
    refine PySem.W.kdv_makeTailHit (mg := X.mg) (c := c) (P := P) (ps := ps) (closure_ok hfree) I.ok.glob (I.mod.glob.keeps I.bk) hcode (TB.code.keeps I.bk) eP ht hc bP fun ctv doc h' tk hx hsz => ?_
    have kp : ∀ b o, s.heap.get? b = some o → (h'.push (lamO X params body scope dV doc ((X.mg "__name__").getD .none) c' ctv)).get? b = some o := fun b o e => Heap.get?_push_of_some _ (hx b o e)
    exact h h'.objs.size c' doc ((X.mg "__name__").getD .none) ctv H _ (I.kept kp) (.refl H) hT (fun b o _ e => kp b o e) (Heap.get?_push_size _ rfl) (I.hok.fresh hsz) (away _ hsz) hco fun b e _ => e
  | none =>
    refine PySem.W.kdv_makeTail (mg := X.mg) (c := c) (P := P) (ps := ps) (closure_ok hfree) I.ok.glob (I.mod.glob.keeps I.bk) hcode (TB.code.keeps I.bk) eP ht hc TB.gP bP fun c' ctv doc h' tk hx hge hlt hrec htb => ?_
    obtain ⟨c2, oc, vs, t, e2, hoc, hd, hv⟩ := hrec
    cases e2
    have hsz : s.heap.objs.size ≤ h'.objs.size := Nat.le_trans hge (Nat.le_of_lt hlt)
    have nC : H c' = none := I.hok.fresh hge
    have nPc : P ≠ c' := ne_of_none hP nC
    have kp : ∀ b o, b ≠ P → s.heap.get? b = some o → (h'.push (lamO X params body scope dV doc ((X.mg "__name__").getD .none) c' ctv)).get? b = some o := fun b o hb e => Heap.get?_push_of_some _ (hx b o hb e)
    have J := inv_table (t' := tk) (q := lamQ X) (more := #[rawInt pos.line, rawInt pos.col, .ref c']) I hP kp (Heap.get?_push_of_some _ htb) hge ⟨oc, vs, t, Heap.get?_push_of_some _ hoc, hd, hv⟩
    obtain ⟨H1, eH⟩ : ∃ H1, H1 = upd (upd H P (.tbl (ps ++ #[rawInt pos.line, rawInt pos.col, .ref c']))) c' (CodeO c' (lamQ X)) := ⟨_, rfl⟩
    have atC : H1 c' = some (CodeO c' (lamQ X)) := by rw [eH, upd_same]
    have atP : H1 P = some (.tbl (ps ++ #[rawInt pos.line, rawInt pos.col, .ref c'])) := by rw [eH, upd_ne nPc, upd_same]
    have at_ : ∀ b, b ≠ P → b ≠ c' → H1 b = H b := fun b h1 h2 => by rw [eH, upd_ne h2, upd_ne h1]
    have gr : Grow H H1 := ⟨fun b o e n => (at_ b (fun z => n ps (Option.some.inj (e.symm.trans (by rw [z]; exact hP)))) (ne_of_none e nC)).trans e, fun b e => by
      by_cases h1 : b = P
      · rw [h1, atP] at e; cases e
      · by_cases h2 : b = c'
        · rw [h2, atC] at e; cases e
        · rw [← at_ b h1 h2]; exact e⟩
    have eL : (ps ++ #[rawInt pos.line, rawInt pos.col, .ref c']).toList = ps.toList ++ [rawInt pos.line, rawInt pos.col, .ref c'] := by simp
    have T1 : Tabs T H1 := fun p hp => by
      by_cases hb : p.1 = P
      · rw [hu p hp hb, hb]
        refine ⟨_, atP, by rw [eL]; exact PySem.TriplesOk_snoc _ _ _ _ ht, fun p' cv hcv => ?_⟩
        rw [eL] at hcv
        rcases among_app _ ht hcv with z | z
        · obtain ⟨c0, e1, e2⟩ := ha p' cv z
          exact ⟨c0, e1, gr.keep _ _ e2 codeO_ne⟩
        · exact ⟨c', z, atC⟩
      · obtain ⟨ps', a1, a2, a3⟩ := hT p hp
        refine ⟨ps', (at_ _ hb (ne_of_none a1 nC)).trans a1, a2, fun p' cv hcv => ?_⟩
        obtain ⟨c0, e1, e2⟩ := a3 p' cv hcv
        exact ⟨c0, e1, gr.keep _ _ e2 codeO_ne⟩
    rw [← eH] at J
    have nPs : h'.objs.size ≠ P := fun z => Nat.lt_irrefl _ (Nat.lt_of_lt_of_le (z ▸ Heap.lt_size eP) hsz)
    refine h h'.objs.size c' doc ((X.mg "__name__").getD .none) ctv H1 _ J gr T1 kp (Heap.get?_push_size _ rfl) ((at_ _ nPs (Nat.ne_of_gt hlt)).trans (I.hok.fresh hsz)) (away _ hsz) atC fun b e hb => ?_
    refine (at_ b (fun z => ?_) fun z => hb ?_).trans e
    · rw [z, hP] at e; cases e
    · rw [z]; exact Heap.get?_none_of_le hge
end
end Va
namespace Va
open PySem PySem.Spec PyProof.Rows L2 LamX
/-- no parameter, or one with a default that is a whole number -/
def LamP (params : Arguments) (body : Expr) (scope : Scope) : Option Str → Prop
  | none => params.defaults = [] ∧ params.kw_defaults = [] ∧ ∀ (q : Str) (cl : List (Str × Addr)) (doc pm cdv ctv : Value), bindArgs (PySem.W.kdv_fn "<lambda>" q params (.expr body) scope cl .none doc pm cdv ctv) ⟨[], []⟩ = pure []
  | some x => (∃ i j p, params.defaults = [.Constant (.int i) j p]) ∧ params.kw_defaults = [] ∧ scope.names.lookup x = some .local ∧ ∀ (t : Addr) (u : Value) (q : Str) (cl : List (Str × Addr)) (doc pm cdv ctv : Value),
      ∃ k, bindArgs (PySem.W.kdv_fn "<lambda>" q params (.expr body) scope cl (.ref t) doc pm cdv ctv) ⟨[], []⟩ = seqItems? (.ref t) >>= k ∧ k (some #[u]) = pure [(x, u)]
/-- the default's tuple, where it lies -/
def DflAt (o : Option Str) (dV : Value) (h : Heap) (H : Hp) (fs : List Addr) (u : Value) : Prop := match o with
  | none => dV = .none
  | some _ => ∃ t, dV = .ref t ∧ h.get? t = some (PySem.W.kdv_tup [u]) ∧ H t = none ∧ t ∉ fs
def bindL (o : Option Str) (u : Value) : List (Str × Value) := match o with
  | none => []
  | some x => [(x, u)]
section
variable {X : Cx} {pins : List (Addr × Obj)} {σ : L2.St} {H HZ : Hp} {s s1 : Shared}
theorem lam_make {T : List (Addr × Str)} {c P : Addr} {params : Arguments} {body : Expr} {scope : Scope} {o : Option Str} {pos : Pos} {E Q : Value → Shared → Prop} (I : Inv X pins σ H s) (TB : TabB X.base X.mg c P) (hcode : X.env.code = .ref c) (hm : (P, lamQ X) ∈ T)
    (hu : ∀ p ∈ T, p.1 = P → p.2 = lamQ X) (hT : Tabs T H) (hfree : ∀ y ∈ scope.names, y.2 = .free → ∃ c, X.env.cells.lookup y.1 = some c) (hp : LamP params body scope o)
    (h : ∀ (f c' : Addr) (dV doc pm ctv u : Value) (H1 : Hp) (s' : Shared), Inv X pins σ H1 s' → Grow H H1 → Tabs T H1 → s'.heap.get? f = some (lamO X params body scope dV doc pm c' ctv) → H1 f = none → f ∉ frs X.stack → H1 c' = some (CodeO c' (lamQ X)) →
      DflAt o dV s'.heap H1 (frs X.stack) u → Q (.ref f) s') : wpAny (model X.prog X.w) X.A (eval (.Lambda params body scope pos) X.env) Q E s := by
  obtain ⟨a1, a2, a3, a4, a5, kwd, a6⟩ := params
  cases o with
  | none =>
    obtain ⟨e1, e2, _⟩ := hp
    dsimp only at e1 e2
    subst e1 e2
    refine PySem.W.kla_eval rfl ?_
    rw [makeFunction_eq]
    simp only [List.zip_nil_right, List.filterMap_nil, List.isEmpty_nil, if_true, pure_bind]
    exact lam_tail I TB hcode hm hu hT hfree fun f c' doc pm ctv H1 s' J g T1 _ hf hfn hfr hco _ => h f c' .none doc pm ctv .none H1 s' J g T1 hf hfn hfr hco rfl
  | some x =>
    obtain ⟨⟨i, j, p, e1⟩, e2, _⟩ := hp
    dsimp only at e1 e2
    subst e1 e2
    have hpi : PE X (.Constant (.int i) j p) (tC (.int i)) := pe_int
    refine PySem.W.kdv_lam rfl rfl (PySem.W.kdv_all1 (thn (hpi.run pins s σ H (fun v H' => v = .int i ∧ H' = H) I ⟨rfl, rfl⟩) fun u s1 ⟨v, H', I1, rv, ev, eH⟩ => PySem.W.kdv_all0 ?_))
    subst ev eH
    rw [makeFunction_eq]
    simp only [List.zip_nil_right, List.filterMap_nil, List.isEmpty_nil, if_true, pure_bind, List.isEmpty_cons, Bool.false_eq_true, if_false]
    refine wpAny_bind (wpAny_newTextTuple ?_)
    have kp : ∀ b o, s1.heap.get? b = some o → (s1.heap.push (PySem.W.kdv_tup [u])).get? b = some o := fun b o e => Heap.get?_push_of_some _ e
    have I2 : Inv X pins σ H' { s1 with heap := s1.heap.push (PySem.W.kdv_tup [u]) } := I1.kept kp
    have et : (s1.heap.push (PySem.W.kdv_tup [u])).get? s1.heap.objs.size = some (PySem.W.kdv_tup [u]) := Heap.get?_push_size _ rfl
    have nt : H' s1.heap.objs.size = none := I1.hok.fresh (Nat.le_refl _)
    have nfr : s1.heap.objs.size ∉ frs X.stack := fun z => (List.mem_cons.mp (I1.stkSub _ z)).elim (fun e => Nat.lt_irrefl _ (e ▸ I1.lt)) fun e => I1.nofs (Nat.le_refl _) e
    refine lam_tail I2 TB hcode hm hu hT hfree fun f c' doc pm ctv H1 s' J g T1 hk hf hfn hfr hco hn => h f c' (.ref s1.heap.objs.size) doc pm ctv u H1 s' J g T1 hf hfn hfr hco ⟨_, rfl, hk _ _ (fun z => ?_) et, hn _ nt (by rw [et]; exact Option.some_ne_none _), nfr⟩
    obtain ⟨ps, hP, _⟩ := hT _ hm
    rw [z, hP] at nt
    cases nt
theorem lam_start {A : Around} {outer : List Env} {E : XK} {scope : Scope} {f c' : Addr} {h₁ : Heap} {tk : Nat} {mp : Str → Option Value} (I : Inv X pins σ H s) (L : LamN X.N X.env.scope scope) (e0 : Env0 X.prog X.w X.K X.mg X.base A outer s1 HZ) (hd : A.handled = none)
    (un : Un (frs X.stack) [] H HZ s.heap s1.heap) (hns : h₁.Ns s1.heap.objs.size mp) (kp : ∀ b o, s1.heap.get? b = some o → h₁.get? b = some o) : Inv (lamCx X A outer s1 HZ E scope f c') [] σ HZ { s1 with heap := h₁, toks := tk } := by
  have hfree := L.has I.ok
  have back : ∀ {y c}, (cloFrom X.env.cells scope.names []).lookup y = some c → X.env.cells.lookup y = some c := fun {y c} e => by
    rcases cloFrom_mem (PySem.mem_of_lookup e) with z | ⟨z1, z2⟩
    · cases z
    · obtain ⟨c1, hc⟩ := hfree _ z1 rfl
      have hc : X.env.cells.lookup y = some c1 := hc
      have : c = c1 := by rw [z2, hc] <;> rfl
      rw [this]; exact hc
  have there : ∀ {y}, scope.names.lookup y = some .free → ∃ c, (cloFrom X.env.cells scope.names []).lookup y = some c := fun {y} hl => mem_lookup (cloFrom_has (cells := X.env.cells) (acc := []) (PySem.mem_of_lookup hl))
  have cellK : ∀ {c : Addr} {v : Option Value}, H c = none → s.heap.IsCell c v → h₁.IsCell c v := fun {c v} n ⟨o, ho, hd⟩ => by
    obtain ⟨sl, q⟩ := un.any ho n (by simp)
    exact ⟨_, kp _ _ q, hd⟩
  have none_ : ∀ b : Addr, b ∉ (lamCx X A outer s1 HZ E scope f c').ex := fun b z => absurd (show b ∈ ([] : List Addr) from z) (by simp)
  refine
    ⟨⟨e0.mod, L.kind, rfl, rfl, Nat.le_refl _, fun y z c e1 e2 => I.ok.inj y z c (back e1) (back e2), fun y hy => ?_, fun y c z _ => absurd (show false = true from z) Bool.false_ne_true, fun _ => hd, Around.frames_deeper e0.frames, .inr ⟨rfl, rfl⟩, fun b z => absurd z (none_ b), e0.bs, e0.bsz, fun b _ _ => none_ b, fun b z => absurd z (none_ b), e0.funs, e0.frf⟩,
    rfl, e0.bare, Un.kept kp, ⟨_, hns, fun i y v e1 e2 e3 => ?_⟩, fun y c e => ?_, e0.hok.fresh (Nat.le_refl _), fun y c e => ?_, fun q hq => absurd (show q ∈ ([] : List (Addr × Obj)) ++ [] from hq) (by simp), e0.hok.kept kp, I.len⟩
  · rcases (show scope.names.lookup y = some .cell ∨ scope.names.lookup y = some .free from hy) with z | z
    · exact absurd rfl (L.own _ (PySem.mem_of_lookup z)).1
    · exact there z
  · have hyN : y ∈ X.N := List.mem_of_getElem? (show X.N[i]? = some y from e1)
    rcases (show Vis scope y from e3) with k | k | k
    · exact absurd hyN ((L.own _ (PySem.mem_of_lookup k)).2 rfl)
    · exact absurd rfl (L.own _ (PySem.mem_of_lookup k)).1
    · obtain ⟨m, hn, hl⟩ := I.loc
      have fr := L.free _ (PySem.mem_of_lookup k) rfl
      obtain ⟨w', r, q⟩ := hl i y v e1 e2 (fr.elim (fun k => .inr (.inl k)) fun k => .inr (.inr k))
      obtain ⟨c2, h2⟩ := there k
      refine ⟨w', r, .inr ⟨.inr k, c2, h2, ?_⟩⟩
      rcases q with ⟨k', _⟩ | ⟨_, c3, e', z⟩
      · have k' : X.env.scope.names.lookup y = some .local := k'
        rcases fr with k2 | k2 <;> rw [show X.env.scope.names.lookup y = _ from k2] at k' <;> cases k'
      · have c1 := back h2
        rw [c1] at e'
        cases e'
        exact cellK (I.freeC y _ c1) z
  · obtain ⟨w', z⟩ := I.cell y c (back e)
    exact ⟨w', cellK (I.freeC y c (back e)) z⟩
  · obtain ⟨v, o, ho, hd⟩ := I.cell y c (back e)
    exact un.free c o ho (I.freeC y c (back e)) (by simp)
/-- a(), in the def that got the lambda -/
theorem pe_actP {CXg : CXT} {Eg : XK} {Ng : List Str} {qg : Str} {sg : Scope} {g f c' : Addr} {cdg dV doc pm ctv u : Value} {params : Arguments} {body : Expr} {scope : Scope} {k i : Nat} {a : Str} {o : Option Str} {pn : List (Addr × Obj)} {xe : Value → Shared → Prop} {W : WX} {E : XK} {tb : TE} {p1 p2 : Pos}
    (I : Inv X pins σ H s) (L : LamN X.N X.env.scope scope) (hf : s.heap.get? f = some (lamO X params body scope dV doc pm c' ctv)) (hfn : H f = none) (hfr : f ∉ frs X.stack) (hp : LamP params body scope o) (hdf : DflAt o dV s.heap H (frs X.stack) u)
    (tk : Takes ((cxOf CXg X.prog X.w X.K X.mg X.base Ng qg sg g cdg X.A X.stack s H Eg).tr pn xe) W) (hW : ∀ cls d σ' H', E cls d H' → W cls d σ' H') (hr : Room (k + 1) (X.A.deeper (envOfC qg sg s.heap.objs.size g cdg)))
    (hbody : ∀ (A : Around) (outer : List Env) (s : Shared) (H : Hp), Room k (A.deeper (lamEnv X scope s.heap.objs.size f c')) → PE (lamCx X A outer s H E scope f c') body tb)
    (hN : Ng[i]? = some a) (hv : Vis sg a) (hd : (a == ("__debug__" : Str)) = false := by decide) (hcd : (a == ("__classdict__" : Str)) = false := by decide) :
    PE ((cxOf CXg X.prog X.w X.K X.mg X.base Ng qg sg g cdg X.A X.stack s H Eg).tr pn xe) (.Call (.Name a p1) [] [] p2) (fun σZ HZ Q => σZ[i]? = some (some (.ref f)) ∧ HZ c' = some (CodeO c' (lamQ X)) ∧ tb σ HZ Q) := ⟨fun pinsZ sZ σZ HZ Q IZ ⟨hs, hc, ht⟩ => by
  refine wpAny_Call_Name_kw (thn ((pe_var (pos := p1) (i := i) hN hv hd hcd).run pinsZ sZ σZ HZ (fun v H1 => v = .ref f ∧ H1 = HZ) IZ ⟨.ref f, hs, rfl, rfl⟩) fun u' s1 ⟨v, H1, I1, r1, ev, eH⟩ => ?_)
  subst ev
  rw [eH] at I1
  obtain rfl : u' = Value.ref f := r1
  have nx : ∀ b : Addr, ¬ b ∈ ([] : List Addr) := fun b z => nomatch z
  have of1 : s1.heap.get? f = some (lamO X params body scope dV doc pm c' ctv) := I1.base.keep f _ hf hfn hfr (nx f)
  refine PySem.W.callWith_F0 ⟨_, _, _, _, of1⟩ ?_
  have un : Un (frs X.stack) [] H HZ s.heap s1.heap := I1.base
  obtain ⟨⟨oc, vs, t, hoc, hdc, hvc⟩, _, _⟩ := I1.hok c' _ hc
  have hbind : BindsTo s1 (PySem.W.kdv_fn "<lambda>" (lamQ X) params (.expr body) scope (cloFrom X.env.cells scope.names []) dV doc pm (.ref c') ctv) ⟨[], []⟩ (bindL o u) := by
    cases o with
    | none =>
      obtain ⟨_, _, hb⟩ := hp
      have : dV = .none := hdf
      subst this
      exact .of_eq (hb _ _ _ _ _ _)
    | some x =>
      obtain ⟨_, _, _, hb⟩ := hp
      obtain ⟨t2, rfl, e1, e2, e3⟩ := hdf
      obtain ⟨kk, h1, h2⟩ := hb t2 u (lamQ X) (cloFrom X.env.cells scope.names []) doc pm (.ref c') ctv
      exact BindsTo.of_defaults rfl (I1.base.keep t2 _ e1 e2 e3 (nx t2)) rfl h1 h2
  have hloc : ∀ y ∈ bindL o u, scope.names.lookup y.1 = some .local := fun y hy => by
    cases o with
    | none => cases hy
    | some x =>
      rcases List.mem_cons.mp hy with e | e
      · rw [e]; exact hp.2.2.1
      · cases e
  have rc : codeAny (model X.prog X.w) (X.A.deeper (envOfC qg sg s.heap.objs.size g cdg)) (.call (.ref f) ⟨[], []⟩) (CR (L2.CX X.prog X.w) (envOfC qg sg s.heap.objs.size g cdg :: X.stack) X.prog X.w HZ s1 Q E) s1 := by
    refine PySem.W.kla_callFunE hr.depth of1 rfl L.co L.gen rfl ⟨c', oc, vs, t, rfl, hoc, hdc, hvc⟩ (hbind _ _ _ _ ?_)
    refine wpAny_newFunctionEnv (fun y hy => (L.own y hy).1) hloc (fun h₁ hns hsb => ⟨I1.nolimit.fresh _ hsb, ?_⟩) L.kind
    show codeAny _ _ (.expr body (lamEnv X scope s1.heap.objs.size f c')) _ _
    have kp : ∀ b o, s1.heap.get? b = some o → h₁.get? b = some o := fun b o e => hsb.extBut b o (Nat.ne_of_lt (Heap.lt_size e)) (Heap.get?_push_of_some _ e)
    have J := lam_start (A := X.A.deeper (envOfC qg sg s.heap.objs.size g cdg)) (outer := envOfC qg sg s.heap.objs.size g cdg :: X.stack) (E := E) (f := f) (c' := c') (tk := s1.toks + (bindL o u).length) I L I1.env0 hr.hd un hns kp
    exact PySem.W.kla_codeExpr (wpAny_mono ((hbody _ _ s1 HZ (hr.deeper _)).run [] _ _ HZ Q J ht) (fun v s' ⟨w', H', J', rv, q⟩ => ⟨w', H', J'.os, J'.bare, J'.base, J'.hok, rv, q⟩) fun e s' hq => hq)
  have hx : Passes (L2.CX X.prog X.w) ((cxOf CXg X.prog X.w X.K X.mg X.base Ng qg sg g cdg X.A X.stack s H Eg).tr pn xe) E := passes_call tk hW
  refine wpAny_call (codeAny_mono rc fun r s' hq => ?_)
  cases r with
  | error e => exact hx pinsZ σZ HZ s1 e s' I1 hq
  | ok fl =>
    cases fl with
    | ret u => exact I1.after hq
    | next => exact False.elim hq
    | brk => exact False.elim hq
    | cont => exact False.elim hq⟩
/-- x(lambda: body) -/
theorem pe_try {T : List (Addr × Str)} {TT : (XK → Hp → VK → Prop) → Hp → VK → Prop} {x a : Str} {g c P : Addr} {k : Nat} {pg : Arguments} {bg : List Stmt} {sg : Scope} {dV kV doc pm cdv ct oc : Value} {an od : Option Addr} {osl : Array (Option Value)} {Ng : List Str}
    {params : Arguments} {body : Expr} {scope : Scope} {o : Option Str} {t : XK → TE} {p lpos pos : Pos} (hg : Gl X x) (hm : X.mg x = some (.ref g)) (hk : PySem.W.keepIn X.K (.ref g) = true)
    (lk : X.K.lookup g = some ⟨oc, od, .func (PySem.W.fnOf x x pg bg sg dV kV doc pm an cdv ct), osl⟩) (hcg : PySem.W.codeIn X.K cdv x = true) (hb : L2.Binds X.K (PySem.W.fnOf x x pg bg sg dV kV doc pm an cdv ct) [a] []) (Sg : FnScope Ng [a] sg) (hNg : Ng[0]? = some a) (hva : Vis sg a)
    (hG : GivesTo X Ng x sg g cdv bg a (lamQ X) TT) (TB : TabB X.base X.mg c P) (hcode : X.env.code = .ref c) (hmT : (P, lamQ X) ∈ T) (hu : ∀ p ∈ T, p.1 = P → p.2 = lamQ X) (hr : Room (k + 2) X.A) (L : LamN X.N X.env.scope scope) (hp : LamP params body scope o)
    (hbody : ∀ (A : Around) (outer : List Env) (s : Shared) (H : Hp) (E : XK) (f c' : Addr), Room k (A.deeper (lamEnv X scope s.heap.objs.size f c')) → PE (lamCx X A outer s H E scope f c') body (t E))
    (hdb : (x == ("__debug__" : Str)) = false := by decide) (hd : (a == ("__debug__" : Str)) = false := by decide) (hcd : (a == ("__classdict__" : Str)) = false := by decide) :
    PE X (.Call (.Name x p) [.Lambda params body scope lpos] [] pos) (fun σ H Q => Tabs T H ∧ ∀ H1, Grow H H1 → Tabs T H1 → TT (fun E H' Q' => t E σ H' Q') H1 Q) := ⟨fun pins s σ H Q I ⟨hT, h⟩ => by
  refine wpAny_Call_Name_kw (ld_glob I hg hm ?_ hdb)
  refine PySem.W.callWith_K (h₀ := X.base) I.ok.mod.kin hk ?_ (by rfl) (by rfl)
  show wpAny _ _ (spliced ((false, eval (.Lambda params body scope lpos) X.env) :: backTo pos (starEach [] X.env))) _ _ s
  refine PySem.Calls.spliced_cons (lam_make I TB hcode hmT hu hT (L.has I.ok) hp fun f c' dV' doc' pm' ctv u H1 s' I1 gr T1 hf hfn hfr hco hdf => ?_)
  refine PySem.Calls.spliced_nil ⟨I1.kIn, ?_⟩
  have rc : codeAny (model X.prog X.w) X.A (.call (.ref g) ⟨[.ref f], []⟩) (CR C8.CX0 X.stack X.prog X.w H1 s' Q C8.E0) s' := by
    refine run_ofS (N := Ng) (ps := [a]) (us := [.ref f]) (vs := [.ref f]) lk hcg Sg hr I1.env0 (hb s' [.ref f] I1.kIn rfl) (.cons rfl .nil) rfl fun hr' => ?_
    obtain ⟨t', ht', hq'⟩ := hG f c' s' H1 Q (fun E H' Q' => t E σ H' Q') (fun W pn xe E p1 p2 tk hW => pe_actP (i := 0) I1 L hf hfn hfr hp hdf tk hW hr' (fun A outer s H hr2 => hbody A outer s H E f c' hr2) hNg hva hd hcd) hco (h H1 gr T1)
    exact ⟨t', ht'.nox, hq'⟩
  refine wpAny_call (codeAny_mono rc fun r s2 hq => ?_)
  cases r with
  | error e => exact (show False from hq).elim
  | ok fl =>
    cases fl with
    | ret u => exact I1.after hq
    | next => exact False.elim hq
    | brk => exact False.elim hq
    | cont => exact False.elim hq⟩
end
end Va
namespace Va
open PySem PySem.Spec PyProof.Rows L2 LamX
/-- what is owned is a list or a dict -/
def Own1 (H : Hp) (a : Addr) : Prop := (∃ vs, H a = some (.lst vs)) ∨ (∃ kvs, H a = some (.dK kvs)) ∨ ∃ vs, H a = some (.ext (NdRaw a vs))
mutual
theorem Rep.own {K : PySem.W.Frag} {Fz : Addr → Prop} {H : Hp} : ∀ {d v f}, (h : Rep K Fz H d v f) → ∀ a, a ∈ f → Own1 H a
  | _, _, _, .non, _, h => nomatch h
  | _, _, _, .bl _, _, h => nomatch h
  | _, _, _, .int _, _, h => nomatch h
  | _, _, _, .str _, _, h => nomatch h
  | _, _, _, .tup _ _ _, _, h => nomatch h
  | _, _, _, .lstF _ _ _, _, h => nomatch h
  | _, _, _, .rol _ _, _, h => nomatch h
  | _, _, _, .dicF _ _ _, _, h => nomatch h
  | _, _, _, .lstO q r, a, h => (List.mem_cons.mp h).elim (fun e => by rw [e]; exact .inl ⟨_, q⟩) fun e => RepL.own r a e
  | _, _, _, .dicO q r, a, h => (List.mem_cons.mp h).elim (fun e => by rw [e]; exact .inr (.inl ⟨_, q⟩)) fun e => RepK.own r a e
  | _, _, _, .ndF _ _ _, _, h => nomatch h
  | _, _, _, .ndO q r, a, h => (List.mem_cons.mp h).elim (fun e => by rw [e]; exact .inr (.inr ⟨_, q⟩)) fun e => RepN.own r a e
  | _, _, _, .ldF _ _ _, _, h => nomatch h
theorem RepL.own {K : PySem.W.Frag} {Fz : Addr → Prop} {H : Hp} : ∀ {d v f}, (h : RepL K Fz H d v f) → ∀ a, a ∈ f → Own1 H a
  | _, _, _, .nil, _, h => nomatch h
  | _, _, _, .cons r s, a, h => (List.mem_append.mp h).elim (fun e => Rep.own r a e) fun e => RepL.own s a e
theorem RepK.own {K : PySem.W.Frag} {Fz : Addr → Prop} {H : Hp} : ∀ {d v f}, (h : RepK K Fz H d v f) → ∀ a, a ∈ f → Own1 H a
  | _, _, _, .nil, _, h => nomatch h
  | _, _, _, .cons _ r s, a, h => (List.mem_append.mp h).elim (fun e => Rep.own r a e) fun e => RepK.own s a e
theorem RepN.own {K : PySem.W.Frag} {Fz : Addr → Prop} {H : Hp} : ∀ {d v f}, (h : RepN K Fz H d v f) → ∀ a, a ∈ f → Own1 H a
  | _, _, _, .nil, _, h => nomatch h
  | _, _, _, .cons _ _ r s, a, h => (List.mem_append.mp h).elim (fun e => Rep.own r a e) fun e => RepN.own s a e
end
theorem raw_code {c : Addr} {vs : List (NestedKey × Addr × V)} {q : Str} (e : HO.ext (NdRaw c vs) = CodeO c q) : False := by
  unfold CodeO at e
  injection e with e
  have h : NdRaw c vs { objs := Array.replicate (c + 1) { cls := .none, data := .fields #[.none, .str q default] } } := by
    rw [e]
    refine ⟨{ cls := .none, data := .fields #[.none, .str q default] }, #[.none, .str q default], default, ?_, rfl, rfl⟩
    unfold Heap.get?
    simp
  obtain ⟨_, _, us, _, o, es, ep, h1, _, h3, _⟩ := h
  unfold Heap.get? at h1
  simp at h1
  rw [← h1] at h3
  cases h3
/-- not a table -/
def NoT (H : Hp) (a : Addr) : Prop := ∀ ps, H a ≠ some (.tbl ps)
mutual
theorem Rep.strip {K : PySem.W.Frag} {Fz : Addr → Prop} {H : Hp} : ∀ {d v f}, Rep K Fz H d v f → Rep K (fun a => Fz a ∧ NoT H a) H d v f
  | _, _, _, .non => .non
  | _, _, _, .bl b => .bl b
  | _, _, _, .int i => .int i
  | _, _, _, .str x => .str x
  | _, _, _, .tup q z r => .tup q ⟨z, fun ps e => by obtain ⟨o, q, _⟩ := q; rw [q] at e; cases e⟩ (RepL.strip r)
  | _, _, _, .rol q r => .rol (q.imp (fun ⟨x, z⟩ => ⟨x, z, fun ps e => by rcases x with x | ⟨_, x⟩ <;> rw [x] at e <;> cases e⟩) id) (RepL.strip r)
  | _, _, _, .lstF q z r => .lstF q ⟨z, fun ps e => by rw [q] at e; cases e⟩ (RepL.strip r)
  | _, _, _, .lstO q r => .lstO q (RepL.strip r)
  | _, _, _, .dicF q z r => .dicF q ⟨z, fun ps e => by rw [q] at e; cases e⟩ (RepK.strip r)
  | _, _, _, .dicO q r => .dicO q (RepK.strip r)
  | _, _, _, .ndF q z r => .ndF q ⟨z, fun ps e => by rw [q] at e; cases e⟩ (RepN.strip r)
  | _, _, _, .ndO q r => .ndO q (RepN.strip r)
  | _, _, _, .ldF q z r => .ldF q ⟨z, fun ps e => by rw [q] at e; cases e⟩ (RepK.strip r)
theorem RepL.strip {K : PySem.W.Frag} {Fz : Addr → Prop} {H : Hp} : ∀ {d v f}, RepL K Fz H d v f → RepL K (fun a => Fz a ∧ NoT H a) H d v f
  | _, _, _, .nil => .nil
  | _, _, _, .cons r s => .cons (Rep.strip r) (RepL.strip s)
theorem RepK.strip {K : PySem.W.Frag} {Fz : Addr → Prop} {H : Hp} : ∀ {d v f}, RepK K Fz H d v f → RepK K (fun a => Fz a ∧ NoT H a) H d v f
  | _, _, _, .nil => .nil
  | _, _, _, .cons e r s => .cons e (Rep.strip r) (RepK.strip s)
theorem RepN.strip {K : PySem.W.Frag} {Fz : Addr → Prop} {H : Hp} : ∀ {d v f}, RepN K Fz H d v f → RepN K (fun a => Fz a ∧ NoT H a) H d v f
  | _, _, _, .nil => .nil
  | _, _, _, .cons e rk r s => .cons e (Rep.strip rk) (Rep.strip r) (RepN.strip s)
end
section
variable {K : PySem.W.Frag} {Fz Fz' : Addr → Prop} {H H' : Hp} {st P : S} {σ PV : List (Option V)} {fp fp' : List Addr}
theorem RepS.own (h : RepS K Fz H st σ fp) : ∀ a ∈ fp, Own1 H a := by
  induction h with
  | nil => intro a h; exact nomatch h
  | cons r s ih =>
    intro a h
    rcases List.mem_append.mp h with e | e
    · cases r with
      | skip => exact nomatch e
      | som r => exact r.own a e
    · exact ih a e
theorem RepS.strip (h : RepS K Fz H st σ fp) : RepS K (fun a => Fz a ∧ NoT H a) H st σ fp := by
  induction h with
  | nil => exact .nil
  | cons r s ih =>
    cases r with
    | skip => exact .cons .skip ih
    | som r => exact .cons (.som r.strip) ih
theorem Own1.noT {a : Addr} (h : Own1 H a) : NoT H a := fun ps e => by
  rcases h with ⟨_, h⟩ | ⟨_, h⟩ | ⟨_, h⟩ <;> rw [h] at e <;> cases e
/-- tables grow beside it -/
theorem Cfg.grow (C : Cfg K Fz H st σ fp) (g : Grow H H') : Cfg K (fun a => Fz a ∧ NoT H a) H' st σ fp := by
  refine ⟨C.rep.strip.keep (fun _ h => h) (fun a o z e => g.keep a o e fun ps h => z.2 ps (by rw [e, h])) fun a o h e => g.keep a o e fun ps h' => (C.rep.own a h).noT ps (by rw [e, h']), C.nd, fun a h z => C.fz a h z.1, fun a z e => C.ft a z.1 (g.dom a e)⟩
/-- nothing that is held is changed -/
theorem Cfg.all (C : Cfg K Fz H st σ fp) (k : ∀ a o, H a = some o → H' a = some o) (d : ∀ a, H' a = none → H a = none) : Cfg K Fz H' st σ fp :=
  ⟨C.rep.keep (fun _ h => h) (fun a o _ e => k a o e) fun a o _ e => k a o e, C.nd, C.fz, fun a z e => C.ft a z (d a e)⟩
theorem tabs_keep {T : List (Addr × Str)} (h : Tabs T H) (C : Cfg K Fz H st σ fp) (k : ∀ a o, H a = some o → a ∉ fp → H' a = some o) : Tabs T H' := fun p hp => by
  obtain ⟨ps, h1, h2, h3⟩ := h p hp
  refine ⟨ps, k _ _ h1 fun z => (C.rep.own _ z).noT _ h1, h2, fun pos cv hc => ?_⟩
  obtain ⟨c, e1, e2⟩ := h3 pos cv hc
  refine ⟨c, e1, k _ _ e2 fun z => ?_⟩
  rcases C.rep.own _ z with ⟨_, q⟩ | ⟨_, q⟩ | ⟨vs, q⟩
  · rw [q] at e2; unfold CodeO at e2; cases e2
  · rw [q] at e2; unfold CodeO at e2; cases e2
  · rw [q] at e2
    exact raw_code (Option.some.inj e2)
end
/-- how the heap goes on in a law that holds tables -/
structure GoT (H : Hp) (fp : List Addr) (H' : Hp) (fp' : List Addr) : Prop where
  keep : ∀ a o, H a = some o → a ∉ fp → (∀ ps, o ≠ .tbl ps) → H' a = some o
  dom : ∀ a, H' a = none → H a = none
  fpn : ∀ a, a ∈ fp' → a ∈ fp ∨ H a = none
theorem GoT.refl {H : Hp} {fp : List Addr} : GoT H fp H fp := ⟨fun _ _ h _ _ => h, fun _ h => h, fun _ h => .inl h⟩
theorem GoT.trans {H H1 H2 : Hp} {f f1 f2 : List Addr} (g : GoT H f H1 f1) (g' : GoT H1 f1 H2 f2) : GoT H f H2 f2 :=
  ⟨fun a o h n t => g'.keep a o (g.keep a o h n t) (fun q => (g.fpn a q).elim n fun z => by rw [h] at z; cases z) t, fun a h => g.dom a (g'.dom a h), fun a h => (g'.fpn a h).elim (g.fpn a) fun z => .inr (g.dom a z)⟩
theorem GoT.sub {H H1 : Hp} {f f1 f2 : List Addr} (g : GoT H f H1 f1) (h : ∀ a ∈ f2, a ∈ f1) : GoT H f H1 f2 := ⟨g.keep, g.dom, fun a q => g.fpn a (h a q)⟩
theorem Go.t {Fz Fz' : Addr → Prop} {H H' : Hp} {f f' : List Addr} (g : Go Fz H f Fz' H' f') : GoT H f H' f' := ⟨fun a o h n _ => g.keep a o h n, g.dom, g.fpn⟩
/-- slots that hold defs -/
abbrev Pins := List (Nat × Str)
def Pin (K : PySem.W.Frag) (pn : Pins) (σ : List (Option V)) : Prop := ∀ p ∈ pn, σ[p.1]? = some (some (.ref (He.ga K p.2)))
/-- the law's code object and its table -/
def TabOk (X : Cx) (T : List (Addr × Str)) : Prop := ∃ c P, TabB X.base X.mg c P ∧ X.env.code = .ref c ∧ T = [(P, lamQ X)]
def rdE (K : PySem.W.Frag) (T : List (Addr × Str)) (pn : Pins) (m : M D) : TE := fun σ H Q => ∃ Fz fp P PV st, P.length = PV.length ∧ Cfg K Fz H (P ++ st) (PV ++ σ) fp ∧ Tabs T H ∧ Pin K pn σ ∧ ∃ d st', m st = some (d, st') ∧
  ∀ v H' Fz' fp', Cfg K Fz' H' (some d :: (P ++ st')) (some v :: (PV ++ σ)) fp' → Tabs T H' → GoT H fp H' fp' → Q v H'
def rdB (K : PySem.W.Frag) (T : List (Addr × Str)) (pn : Pins) (m : M Bool) : L2.TT := fun σ H Q => ∃ Fz fp P PV st, P.length = PV.length ∧ Cfg K Fz H (P ++ st) (PV ++ σ) fp ∧ Tabs T H ∧ Pin K pn σ ∧ ∃ d st', m st = some (d, st') ∧
  ∀ H' Fz' fp', Cfg K Fz' H' (P ++ st') (PV ++ σ) fp' → Tabs T H' → GoT H fp H' fp' → Q d H'
def rdAT (K : PySem.W.Frag) (T : List (Addr × Str)) (pn : Pins) (m : M (List D)) : TA := fun σ H Q => ∃ Fz fp P PV st, P.length = PV.length ∧ Cfg K Fz H (P ++ st) (PV ++ σ) fp ∧ Tabs T H ∧ Pin K pn σ ∧ ∃ ds st', m st = some (ds, st') ∧
  ∀ vs H' Fz' fp', vs.length = ds.length → Cfg K Fz' H' (ds.map some ++ (P ++ st')) (vs.map some ++ (PV ++ σ)) fp' → Tabs T H' → GoT H fp H' fp' → Q vs H'
def LE (Γ : Gam) (Φ : GCx → Prop) (pn : Pins) (e : Expr) (m : M D) : Prop := ∀ X T, On Γ Φ X → TabOk X T → PE X e (rdE X.K T pn m)
def LT (Γ : Gam) (Φ : GCx → Prop) (pn : Pins) (e : Expr) (m : M Bool) : Prop := ∀ X T, On Γ Φ X → TabOk X T → PT X e (rdB X.K T pn m)
def LW (Γ : Gam) (Φ : GCx → Prop) (pn : Pins) (e : Expr) (m : M Bool) : Prop := ∀ X T, On Γ Φ X → TabOk X T → PW X e (rdB X.K T pn m)
def LA (Γ : Gam) (Φ : GCx → Prop) (pn : Pins) (es : List Expr) (m : M (List D)) : Prop := ∀ X T, On Γ Φ X → TabOk X T → PA X es (rdAT X.K T pn m)
section
variable {Γ : Gam} {Φ : GCx → Prop} {pn : Pins}
theorem le_se {e : Expr} {m : M D} (h : SE Γ Φ e m) : LE Γ Φ pn e m := fun X T o _ => pe_imp (h X o) fun σ H Q q => by
  obtain ⟨Fz, fp, P, PV, st, hl, C, hT, hP, d, st', e, k⟩ := q
  exact rd.run C hl e fun v H' Fz' fp' C' g => k v H' Fz' fp' C' (tabs_keep hT C fun a o h n => g.keep a o h n) g.t
theorem la_nil : LA Γ Φ pn [] mNil := fun X T o _ => pa_imp pa_nil fun σ H Q q => by
  obtain ⟨Fz, fp, P, PV, st, hl, C, hT, hP, d, st', e, k⟩ := q
  cases e
  exact k [] H Fz fp rfl C hT .refl
theorem la_cons {e : Expr} {es : List Expr} {m : M D} {r : M (List D)} (h : LE Γ Φ pn e m) (hr : LA Γ Φ pn es r) (ns : NoStar e := by intro _ _; rfl) : LA Γ Φ pn (e :: es) (mCons m r) := fun X T o t => pa_imp (pa_cons (h X T o t) (hr X T o t) (ns _ _)) fun σ H Q q => by
  obtain ⟨Fz, fp, P, PV, st, hl, C, hT, hP, d, st', e, k⟩ := q
  unfold mCons at e
  split at e
  · rename_i d s hm
    split at e
    · rename_i ds' s' hr
      cases e
      refine ⟨Fz, fp, P, PV, st, hl, C, hT, hP, _, _, hm, fun v H1 Fz1 fp1 C1 hT1 g1 => ?_⟩
      refine ⟨Fz1, fp1, some d :: P, some v :: PV, s, by simp [hl], C1, hT1, hP, _, _, hr, fun vs H2 Fz2 fp2 hv C2 hT2 g2 => ?_⟩
      obtain ⟨f3, C3, p3⟩ := Cfg.float (x := some d) (y := some v) (P := ds'.map some) (PV := vs.map some) (by simp [hv]) C2
      exact k (v :: vs) H2 Fz2 f3 (by simp [hv]) C3 hT2 ((g1.trans g2).sub fun a h => p3.mem_iff.mp h)
    · cases e
  · cases e
theorem le_lst {es : List Expr} {m : M (List D)} {pos} (h : LA Γ Φ pn es m) : LE Γ Φ pn (.List es pos) (mLst m) := fun X T o t => pe_imp (pe_lst (h X T o t)) fun σ H Q q => by
  obtain ⟨Fz, fp, P, PV, st, hl, C, hT, hP, d, st', e, k⟩ := q
  unfold mLst at e
  split at e
  · rename_i ds s hm
    split at e
    · rename_i hz
      cases e
      refine ⟨Fz, fp, P, PV, st, hl, C, hT, hP, _, _, hm, fun vs H1 Fz1 fp1 hv C1 hT1 g1 => ⟨by rw [hv, ← LN_eq]; exact Nat.le_of_ble_eq_true hz, fun p hp => ?_⟩⟩
      obtain ⟨f1, f2, rfl, a, b⟩ := C1.rep.split (by simp [hv])
      have rl := temps_rep hv a
      have kk : ∀ {a u}, H1 a = some u → upd H1 p (.lst vs) a = some u := fun {a u} e => by rw [upd_ne (ne_of_none e hp)]; exact e
      have np : p ∉ f1 ++ f2 := fun q => C1.there p q hp
      refine k (.ref p) _ Fz1 (p :: (f1 ++ f2)) ⟨?_, List.nodup_cons.mpr ⟨np, C1.nd⟩, fun a h z => ?_, fun a z => ?_⟩ (tabs_keep hT1 C1 fun a o e _ => kk e) (g1.trans ⟨fun a u e _ _ => kk e, fun a e => ?_, fun a h => ?_⟩)
      · exact RepS.cons (f := p :: f1) (.som (.lstO upd_same (rl.keep (fun _ h => h) (fun _ _ _ e => kk e) fun _ _ _ e => kk e))) (b.keep (fun _ h => h) (fun _ _ _ e => kk e) fun _ _ _ e => kk e)
      · rcases List.mem_cons.mp h with rfl | h
        · exact C1.ft _ z hp
        · exact C1.fz a h z
      · by_cases e : a = p
        · subst e; exact absurd hp (C1.ft _ z)
        · rw [upd_ne e]; exact C1.ft a z
      · by_cases e' : a = p
        · rw [e']; exact hp
        · rw [upd_ne e'] at e; exact e
      · rcases List.mem_cons.mp h with rfl | h
        · exact .inr hp
        · exact .inl h
    · cases e
  · cases e
/-- two values, then an operation -/
def mBoth (m n : M D) (f : D → D → Option D) : M D := fun st => match m st with
  | some (d, s) => match n s with
    | some (e, s') => match f d e with
      | some z => some (z, s')
      | none => none
    | none => none
  | none => none
theorem both {K : PySem.W.Frag} {T : List (Addr × Str)} {m n : M D} {f : D → D → Option D} {r : R2} (hs : R2Snd K r f) {σ H Q} (q : rdE K T pn (mBoth m n f) σ H Q) : tOp r (rdE K T pn m) (rdE K T pn n) σ H Q := by
  obtain ⟨Fz, fp, P, PV, st, hl, C, hT, hP, d, st', e, k⟩ := q
  unfold mBoth at e
  split at e
  · rename_i d s hm
    split at e
    · rename_i d' s' hn
      split at e
      · rename_i z hz
        cases e
        refine ⟨Fz, fp, P, PV, st, hl, C, hT, hP, _, _, hm, fun v H1 Fz1 fp1 C1 hT1 g1 => ?_⟩
        refine ⟨Fz1, fp1, some d :: P, some v :: PV, s, by simp [hl], C1, hT1, hP, _, _, hn, fun u H2 Fz2 fp2 C2 hT2 g2 => ?_⟩
        obtain ⟨u', fb, eb, rb, _⟩ := C2.head
        cases eb
        obtain ⟨f3, C3, p3⟩ := Cfg.float (x := some d) (y := some v) (P := [some d']) (PV := [some u]) rfl C2
        obtain ⟨v', fa, ea, ra, _⟩ := C3.head
        cases ea
        refine hs (Fz := Fz2) (H := H2) (fp := fp2) (s := P ++ st') (σ := PV ++ σ) (T := [some d', some d]) (TV := [some u, some v]) hz rfl C2 .refl ra rb fun w H3 Fz3 f4 C4 g4 => ?_
        exact k w H3 Fz3 f4 C4 (tabs_keep hT2 C2 fun a o h n => g4.keep a o h n) ((g1.trans g2).trans g4.t)
      · cases e
    · cases e
  · cases e
theorem le_bin {op : Operator} {a b : Expr} {m n : M D} {f : D → D → Option D} {pos : Pos} (hr : ∀ X : Cx, X.A.units + 100 < cLine → X.calm = true → ∃ r, OpR X (binaryOp op) r ∧ R2Snd X.K r f) (ha : LE Γ Φ pn a m) (hb : LE Γ Φ pn b n) : LE Γ Φ pn (.BinOp a op b pos) (mBoth m n f) := fun X T o t => by
  obtain ⟨r, h1, h2⟩ := hr X o.hu o.calm
  exact pe_imp (pe_op h1 (ha X T o t) (hb X T o t)) fun σ H Q q => both h2 q
theorem le_add {a b : Expr} {m n : M D} {pos : Pos} (ha : LE Γ Φ pn a m) (hb : LE Γ Φ pn b n) : LE Γ Φ pn (.BinOp a .Add b pos) (mBoth m n addF) := le_bin (fun _ _ _ => bin_add) ha hb
theorem lt_cmp {op : CmpOp} {a b : Expr} {m n : M D} {pos : Pos} (ha : LE Γ Φ pn a m) (hb : LE Γ Φ pn b n) (hm : behindInMarks op b = false := by rfl) : LT Γ Φ pn (.Compare a [op] [b] pos) (mB (mBoth m n (cmpF op))) := fun X T o t => by
  obtain ⟨r, h1, h2⟩ := cmp_all o.hu op
  refine pt_imp (pt_cmpR h1 (ha X T o t) (hb X T o t) hm) fun σ H Q q => ?_
  obtain ⟨Fz, fp, P, PV, st, hl, C, hT, hP, d, st', e, k⟩ := q
  unfold mB at e
  split at e
  · rename_i b s hm
    cases e
    refine both h2 ⟨Fz, fp, P, PV, st, hl, C, hT, hP, _, _, hm, fun v H' Fz' fp' C' hT' g => ?_⟩
    obtain ⟨v', f, e', rv, _⟩ := C'.head
    cases e'
    obtain ⟨f2, C2, h2⟩ := C'.drop
    exact ⟨_, rv.bli, k H' Fz' f2 C2 hT' (g.sub h2)⟩
  · cases e
theorem LW.lt {a : Expr} {m : M Bool} (h : LW Γ Φ pn a m) : LT Γ Φ pn a m := fun X T o t => (h X T o t).pt
end
def unD (i : Nat) (D : Ends) : Ends := { nx := fun σ' H' => D.nx (σ'.set i none) H', rt := D.rt, bk := fun σ' H' => D.bk (σ'.set i none) H', ct := fun σ' H' => D.ct (σ'.set i none) H' }
abbrev ClA := Value × Option Nat × (Addr → Value → Option Addr → TS)
/-- what the clauses wish of an exception of the body, one after the other -/
def wManyA (K : PySem.W.Frag) (Wout : WX) (D : Ends) : List ClA → WX
  | [] => Wout
  | (c, none, ts) :: r => fun cls d σ H => ∃ b, PySem.W.exmOne K cls c = some b ∧ (b = true → ∀ a, H a = none → ts a cls d D σ H) ∧ (b = false → wManyA K Wout D r cls d σ H)
  | (c, some i, ts) :: r => fun cls d σ H => ∃ b, PySem.W.exmOne K cls c = some b ∧ (b = true → ∀ a, H a = none → ∀ σ2 : L2.St, σ2[i]? = some (some (.ref a)) → ts a cls d (unD i D) σ2 H) ∧ (b = false → wManyA K Wout D r cls d σ H)
inductive HdsOkA (X : Cx) : List ExceptHandler → List ClA → Prop
  | nil : HdsOkA X [] []
  | cons {x : Str} {c : Value} {ts : Addr → Value → Option Addr → TS} {b₀ : Stmt} {suite : List Stmt} {np pos' : Pos} {hds : List ExceptHandler} {l : List ClA} (hc : Names X x c)
      (hsu : ∀ (a : Addr) (oe : Obj) (cls : Value) (d : Option Addr) (pn : List (Addr × Obj)), Zc cls d oe → (∃ vs, oe.data = .fields vs) → PSs (X.suite a ((a, oe) :: pn)) (b₀ :: suite) (ts a cls d)) (r : HdsOkA X hds l) :
      HdsOkA X (.ExceptHandler (some (.Name x np)) none (b₀ :: suite) pos' :: hds) ((c, none, ts) :: l)
  | consA {x n : Str} {i : Nat} {c : Value} {ts : Addr → Value → Option Addr → TS} {b₀ : Stmt} {suite : List Stmt} {np pos' : Pos} {hds : List ExceptHandler} {l : List ClA} (hi : X.N[i]? = some n) (hln : X.env.kindOf n = some .local) (hc : Names X x c)
      (hsu : ∀ (a : Addr) (oe : Obj) (cls : Value) (d : Option Addr) (pn : List (Addr × Obj)), Zc cls d oe → (∃ vs, oe.data = .fields vs) → PSs (X.suite a ((a, oe) :: pn)) (b₀ :: suite) (ts a cls d)) (r : HdsOkA X hds l) :
      HdsOkA X (.ExceptHandler (some (.Name x np)) (some n) (b₀ :: suite) pos' :: hds) ((c, some i, ts) :: l)
section
variable {X : Cx} {body : List Stmt} {h₀ : ExceptHandler} {hds : List ExceptHandler} {l : List ClA} {pos : Pos} {tb : WX → TS} {Wout : WX}
theorem ps_try_manyA (hs : X.stack = X.env :: X.outer) (hf : X.env.frame = some X.env.locals) (hN : X.N.Nodup) (tk : Takes X Wout)
    (hb : ∀ (W : WX) (pn : List (Addr × Obj)) (xe : Value → Shared → Prop), Takes (X.tr pn xe) W → PassesOwn (model X.prog X.w) X.A X.env xe → PSs (X.tr pn xe) body (tb W))
    (hh : HdsOkA X (h₀ :: hds) l) : PS X (.Try body (h₀ :: hds) [] [] pos) (fun D σ H => tb (wManyA X.K Wout D l) D σ H) := by
  refine ⟨fun pins s σ H D I h => ?_⟩
  have ok := I.ok
  have hfr : X.A.frames = some (X.env :: X.outer) := by rw [ok.frames, hs]
  refine wpAny_Try_except ?_
  refine wpAny_mono ((hb (wManyA X.K Wout D l) (X.pn ++ pins) (fun e s₁ => wpAny (model X.prog X.w) X.A (noteFrame e X.env) (fun _ s₂ => wpAny (model X.prog X.w) X.A (setFlight e none) (fun _ s₃ =>
    wpAny (model X.prog X.w) X.A (handleBy e X.env (h₀ :: hds)) (L2.SP X pins D) X.xe s₃) X.xe s₂) X.xe s₁) (fun u s' xx => ?_) PassesOwn.looking).run [] s σ H D (I.toTry _) h) (fun f s1 hsp => ?_) (fun e s1 he => he)
  · obtain ⟨a, B, sI, pins', σ', H', cls, d, rfl, J', nb, up, sky, na, os, ag, w⟩ := xx
    have J : Inv X pins σ' H' sI := J'.ofTry ok
    have sky' : Sky B (X.env :: X.outer) a (Zc cls d) X.env.locals s'.heap := by rw [← hs]; exact sky
    show wpAny (model X.prog X.w) X.A (noteFrame (.ref a) X.env) _ _ _
    refine Sky.land Zc.steady hfr hf sky' fun h3 fl3 up3 => ?_
    have J3 : Inv X pins σ' H' { s' with heap := h3 } := J.landed nb fl3.1 (up.trans up3) os ag
    obtain ⟨oe3, vs3, he3, hz3, hd3⟩ := fl3.there
    have notFr : ∀ {h : Heap} {o : Obj} {vs : Array Value}, h.FunFrames B (X.env :: X.outer) → h.get? a = some o → o.data = .fields vs → a ∉ frs (X.env :: X.outer) := fun {h o vs} ff e dd hm => by
      obtain ⟨_, o', e', hnf⟩ := ff.mem hm
      rw [e] at e'; cases e'
      exact hnf _ dd
    have nfr := notFr fl3.2.2.1 he3 hd3
    have nL : a ≠ X.env.locals := fun z => nfr (List.mem_filterMap.mpr ⟨X.env, List.mem_cons_self, by rw [hf, z]⟩)
    have nF : a ∉ X.fs := fun hm => by
      obtain ⟨e, he, q⟩ := List.mem_filterMap.mp hm
      exact nfr (List.mem_filterMap.mpr ⟨e, List.mem_cons_of_mem _ he, q⟩)
    have S3 := J3.suite he3 hd3 na nL nF
    have LT : PySem.W.Looks (model X.prog X.w) h3 (typeOf (.ref a)) cls := fun A Q E s k q => wpAny_typeOf_ref (k _ _ he3) (by rw [hz3.1]; exact q)
    have test : ∀ {x : Str} {np : Pos} {c : Value} {Q : Value → Shared → Prop} {E : Value → Shared → Prop}, Names X x c → Q c { s' with heap := h3 } → wpAny (model X.prog X.w) (X.A.mark (some (.ref a))) (eval (.Name x np) X.env) Q E { s' with heap := h3 } := fun {x np c Q E} hc q => by
      obtain ⟨hg, hdbg, hm | ⟨hm, hv, hnn⟩⟩ := hc
      · exact ld_glob (X := X.suite a ((a, oe3) :: (X.pn ++ pins))) S3 hg hm q hdbg
      · exact ld_blt (X := X.suite a ((a, oe3) :: (X.pn ++ pins))) S3 hg hm hv q hnn hdbg
    have go : ∀ {hds' : List ExceptHandler} {l' : List ClA}, HdsOkA X hds' l' → wManyA X.K Wout D l' cls d σ' H' →
        wpAny (model X.prog X.w) X.A (handleBy (.ref a) X.env hds') (L2.SP X pins D) X.xe { s' with heap := h3 } := by
      intro hds' l' hk
      induction hk with
      | nil =>
        intro w
        refine wpAny_handleBy_nil ?_
        obtain ⟨k1, k2, k3, oe, vs, T, oT, ts', he, hz, hd, h1, hr⟩ := id fl3
        unfold PySem.passOn
        refine wpAny_bind (wpAny_field he hd h1 ?_)
        rw [if_neg (show ¬ ((Value.ref T == Value.none) = true) from by simp)]
        have fin : wpAny (model X.prog X.w) X.A (setFlight (.ref a) X.env.frame) (fun _ s4 => wpAny (model X.prog X.w) X.A (throw (.ref a) : Sem Flow) (L2.SP X pins D) X.xe s4) X.xe { s' with heap := h3 } := by
          rw [hf]
          refine HandSPX.setFlight_upZ fl3 fun h4 hh4 up4 => wpAny_throw (tk _ _ ?_)
          exact ⟨a, B, sI, pins, σ', H', cls, d, rfl, J, nb, (up.trans up3).trans up4, .inr (.inr (by rw [hs]; exact hh4)), na, os, ag, w⟩
        first
          | exact wpAny_bind (wpAny_pure (wpAny_bind fin))
          | exact wpAny_bind fin
      | @cons x c ts b₀ suite np pos' hds2 l2 hc hsu r ih =>
        intro w
        obtain ⟨b, hb1, hyes, hno⟩ := w
        refine wpAny_handleBy_cons (codeAny_handlers_test ?_) (by intro q; cases q)
        have LM := PySem.W.exm_one (M := model X.prog X.w) (J3.kIn) LT hb1
        refine test hc (LM.here ?_)
        cases b with
        | true =>
          refine codeAny_handlers_suite ?_
          refine HandSPX.lands_againZ fl3 fun h4 fl4 up4 => ?_
          have J4 : Inv X pins σ' H' { s' with heap := h4 } := J.landed nb fl4.1 ((up.trans up3).trans up4) os ag
          obtain ⟨oe4, vs4, he4, hz4, hd4⟩ := fl4.there
          have S4 := J4.suite he4 hd4 na nL nF
          refine wpAny_mono ((hsu a oe4 cls d (X.pn ++ pins) hz4 ⟨_, hd4⟩).run [] _ _ H' _ S4 (hyes rfl a na)) (fun f s6 hsp => ?_) (fun _ _ z => False.elim z)
          cases f with
          | next =>
            obtain ⟨σ6, H6, S6, q6⟩ := hsp
            exact ⟨_, _, S6.unsuite ok, q6⟩
          | brk =>
            obtain ⟨σ6, H6, S6, q6⟩ := hsp
            exact ⟨_, _, S6.unsuite ok, q6⟩
          | cont =>
            obtain ⟨σ6, H6, S6, q6⟩ := hsp
            exact ⟨_, _, S6.unsuite ok, q6⟩
          | ret u =>
            obtain ⟨v6, σ6, H6, S6, r6, q6⟩ := hsp
            exact ⟨_, _, _, S6.unsuite ok, r6, q6⟩
        | false =>
          show wpAny _ X.A (handleBy (.ref a) X.env hds2) _ _ _
          exact ih (hno rfl)
      | @consA x n i c ts b₀ suite np pos' hds2 l2 hi hln hc hsu r ih =>
        intro w
        obtain ⟨b, hb1, hyes, hno⟩ := w
        refine wpAny_handleBy_cons (codeAny_handlers_test ?_) (by intro q; cases q)
        have LM := PySem.W.exm_one (M := model X.prog X.w) (J3.kIn) LT hb1
        refine test hc (LM.here ?_)
        cases b with
        | true =>
          refine codeAny_handlers_suite_as ?_
          refine HandSPX.lands_againZ fl3 fun h4 fl4 up4 => ?_
          have J4 : Inv X pins σ' H' { s' with heap := h4 } := J.landed nb fl4.1 ((up.trans up3).trans up4) os ag
          obtain ⟨oe4, vs4, he4, hz4, hd4⟩ := fl4.there
          have S4 := J4.suite he4 hd4 na nL nF
          have iσ : i < σ'.length := by rw [J.len]; exact (List.getElem?_eq_some_iff.mp hi).1
          refine store_ok (X := X.suite a ((a, oe4) :: (X.pn ++ pins))) (v := .ref a) S4 hN hi (.inl hln) rfl (fun s5 S5 => ?_) (.inr hln)
          refine wpAny_mono ((hsu a oe4 cls d (X.pn ++ pins) hz4 ⟨_, hd4⟩).run [] s5 _ H' _ S5 (hyes rfl a na _ (List.getElem?_set_self iσ))) (fun f s6 hsp => ?_) (fun _ _ z => False.elim z)
          have end_ : ∀ {σ6 : L2.St} {H6 : Hp} {Q : Shared → Prop}, Inv (X.suite a ((a, oe4) :: (X.pn ++ pins))) [] σ6 H6 s6 → (∀ s7, Inv X pins (σ6.set i none) H6 s7 → Q s7) →
              wpAny (model X.prog X.w) X.A (do bindName X.env n .none; unbindBehindTheSuite X.env n pos') (fun _ s7 => Q s7) X.xe s6 := fun {σ6 H6 Q} S6 hq => gone_ok (S6.unsuite ok) hN hi hln hq
          cases f with
          | next =>
            obtain ⟨σ6, H6, S6, q6⟩ := hsp
            exact end_ S6 fun s7 J7 => ⟨_, _, J7, q6⟩
          | brk =>
            obtain ⟨σ6, H6, S6, q6⟩ := hsp
            exact end_ S6 fun s7 J7 => ⟨_, _, J7, q6⟩
          | cont =>
            obtain ⟨σ6, H6, S6, q6⟩ := hsp
            exact end_ S6 fun s7 J7 => ⟨_, _, J7, q6⟩
          | ret u =>
            obtain ⟨v6, σ6, H6, S6, r6, q6⟩ := hsp
            exact end_ S6 fun s7 J7 => ⟨_, _, _, J7, r6, q6⟩
        | false =>
          show wpAny _ X.A (handleBy (.ref a) X.env hds2) _ _ _
          exact ih (hno rfl)
    exact go hh w
  · cases f with
    | next =>
      obtain ⟨σ', H', J', q⟩ := hsp
      exact wpAny_execs_nil ⟨σ', H', J'.ofTry ok, q⟩
    | brk =>
      obtain ⟨σ', H', J', q⟩ := hsp
      exact ⟨σ', H', J'.ofTry ok, q⟩
    | cont =>
      obtain ⟨σ', H', J', q⟩ := hsp
      exact ⟨σ', H', J'.ofTry ok, q⟩
    | ret u =>
      obtain ⟨v, σ', H', J', r, q⟩ := hsp
      exact ⟨v, σ', H', J'.ofTry ok, r, q⟩
/-- isinstance(e, ValueError), e an exception with a field -/
theorem call_isF {X : Cx} {a D dd : Addr} {mn : Str} {oe : Obj} {pn : List (Addr × Obj)} (T : FldK X.prog X.K D mn) (hz : Zc (.ref D) (some dd) oe) (hf : ∃ vs, oe.data = .fields vs) :
    CallR (X.suite a ((a, oe) :: pn)) (.builtin "isinstance") (fun xs H Q => ∃ fs, xs = [.ref a, .ty "ValueError"] ∧ H dd = some (.xd fs) ∧ Q (.bl true) H) := by
  intro pins s σ H xs us Q I r h
  obtain ⟨fs, rfl, ea, q⟩ := h
  cases r with
  | cons rx rr =>
    cases rr with
    | cons rt rr =>
      cases rr
      cases rx
      obtain rfl := rt
      obtain ⟨hget, _⟩ := I.pin (a, oe) (List.mem_append.mpr (.inl List.mem_cons_self))
      obtain ⟨vs, hv⟩ := hf
      have hx : ObjOk X.prog X.w H s.heap dd (.xd fs) := I.hok dd _ ea
      obtain ⟨mA, hns, hr⟩ := hx
      obtain ⟨od, ho, hl⟩ := lookIn_ns hns
      have J : PySem.W.InstAt s.heap a oe D (some od) := ⟨hget, hz.1, by unfold PySem.W.notCls; rw [hv] <;> rfl, by rw [hz.2]; exact ho⟩
      obtain ⟨nm, q', N, bs, bm, sn, sub, ab, col, dd', k0, k1, k2, k3, k5, hC, hbm⟩ := T.cls.cls
      have hcl : (PySem.W.clsIn X.K D).isSome = true := by unfold PySem.W.clsIn; rw [hC] <;> rfl
      exact PySem.W.kia_one (PySem.W.kitx_exc hcl T.xf.ga T.xf.gg T.xf.exC T.ha T.hn T.ht T.hm) I.kIn J T.kit (fun z => nomatch z) fun tk => ⟨.bl true, H, I.kept (t' := tk) fun _ _ z => z, rfl, q⟩
end
/-- the first clause that takes the class -/
def chain (K : PySem.W.Frag) : List (Str × Str) → Value → (Str → Prop) → Prop
  | [], _, _ => False
  | (e, r) :: l, cls, R => ∃ b, PySem.W.exmOne K cls (.ref (He.ga K e)) = some b ∧ (b = true → R r) ∧ (b = false → chain K l cls R)
/-- the clause's answer: a text; or the class's name with its field -/
def Rcl (K : PySem.W.Frag) (cls : Value) (d : Option Addr) (r : Str) (Q : VK) (H : Hp) : Prop := match xfld r with
  | none => Q (.str r) H
  | some _ => cls = .ref (He.ga K (xbase r)) ∧ ∃ dd i, d = some dd ∧ H dd = some (.xd [(xnam (xbase r), .int i)]) ∧ TupQ H [.str (xbase r), .int i] Q
def TErr (K : PySem.W.Frag) (l : List (Str × Str)) : (XK → Hp → VK → Prop) → Hp → VK → Prop := fun tl H Q =>
  tl (fun cls d H' => chain K l cls fun r => Rcl K cls d r Q H') H fun _ H' => Q (.str "") H'
/-- ("C", e.f) if isinstance(e, ValueError) else .. -/
def tFld (K : PySem.W.Frag) (r : Str) : Addr → Value → Option Addr → TS := fun a cls d D σ H => σ[1]? = some (some (.ref a)) ∧ cls = .ref (He.ga K (xbase r)) ∧
  ∃ dd i, d = some dd ∧ H dd = some (.xd [(xnam (xbase r), .int i)]) ∧ TupQ H [.str (xbase r), .int i] D.rt
inductive ClsOf (K : PySem.W.Frag) : List (Str × Str) → List ClA → Prop
  | nil : ClsOf K [] []
  | plain {e r : Str} {l : List (Str × Str)} {L : List ClA} : xfld r = none → ClsOf K l L → ClsOf K ((e, r) :: l) ((.ref (He.ga K e), none, fun _ _ _ => tRet (tC (.str r))) :: L)
  | fld {e r : Str} {i : Nat} {l : List (Str × Str)} {L : List ClA} : xfld r = some i → ClsOf K l L → ClsOf K ((e, r) :: l) ((.ref (He.ga K e), some 1, tFld K r) :: L)
theorem chain_many {K : PySem.W.Frag} {D : Ends} {σ : L2.St} {H : Hp} {Wout : WX} {d : Option Addr} : ∀ {l : List (Str × Str)} {L : List ClA} {cls : Value}, ClsOf K l L → chain K l cls (fun r => Rcl K cls d r D.rt H) → wManyA K Wout D L cls d σ H
  | [], _, _, _, h => h.elim
  | (e, r) :: l, _, cls, .plain hx c, ⟨b, h1, h2, h3⟩ => ⟨b, h1, fun hb a _ => by
      have h : Rcl K cls d r D.rt H := h2 hb
      unfold Rcl at h
      rw [hx] at h
      exact h, fun hb => chain_many c (h3 hb)⟩
  | (e, r) :: l, _, cls, .fld hx c, ⟨b, h1, h2, h3⟩ => ⟨b, h1, fun hb a _ σ2 hσ => by
      have h : Rcl K cls d r D.rt H := h2 hb
      unfold Rcl at h
      rw [hx] at h
      exact ⟨hσ, h⟩, fun hb => chain_many c (h3 hb)⟩
theorem pss_fld {X : Cx} {r r0 : Str} {mn : Str} (T : FldK X.prog X.K (He.ga X.K (xbase r)) mn) (h0 : xbase r = r0) (hn : xnam (xbase r) = mn) (hN : X.N[1]? = some ("e" : Str)) (hv : Vis X.env.scope "e") (hgi : Gl X "isinstance") (hmi : X.mg "isinstance" = none) (hgv : Gl X "ValueError") (hmv : X.mg "ValueError" = none)
    {a : Addr} {oe : Obj} {cls : Value} {d : Option Addr} {pn : List (Addr × Obj)} (hz : Zc cls d oe) (hf : ∃ vs, oe.data = .fields vs) {j j2 cx : Nat} {p1 p2 p3 p4 q1 q2 q3 q4 q5 q6 q7 : Pos}
    (hb : attributeBase (.Name "e" q2) mn X.env (eval (.Name "e" q2) X.env) = eval (.Name "e" q2) X.env)
    (he : starEach [.Name "e" p2, .Name "ValueError" p3] X.env = (false, eval (.Name "e" p2) X.env) :: starEach [.Name "ValueError" p3] X.env) (hpl : (backTo p4 (starEach ([.Name "ValueError" p3] : List Expr) X.env)).any (·.1) = false) :
    PSs (X.suite a ((a, oe) :: pn)) [.Return (some (.IfExp (.Call (.Name "isinstance" p1) [.Name "e" p2, .Name "ValueError" p3] [] p4) (.Tuple [.Constant (.str r0) j q1, .Attribute (.Name "e" q2) mn q3] cx q4) (.Constant (.str "other") j2 q5) q6)) q7] (tFld X.K r a cls d) := ⟨fun pins s σ H D I q => by
  obtain ⟨hσ, rfl, dd, i, rfl, hdd, hk⟩ := q
  subst h0 hn
  refine (pss_one (ps_ret (pe_ifExp (pt_val (pe_callB (X := X.suite a ((a, oe) :: pn)) (call_isF T hz hf) hgi hmi PyProof.Rows.boot_isinstance (pa_cons (pe_var hN hv) (pa_cons (pe_bltn (v := .ty "ValueError") hgv hmv PyProof.Rows.Boot.«ValueError» rfl (by decide) (by decide)) pa_nil) he) (by decide) (by decide) he hpl))
    (pe_tupZ (pa_cons pe_str (pa_cons (pe_xf T.xf T.nof hz hf (pe_var hN hv) hb) pa_nil))) pe_str))).run pins s σ H D I ?_
  refine ⟨.ref a, hσ, [(xnam (xbase r), .int i)], rfl, hdd, true, rfl, ?_⟩
  refine iteT ?_
  refine ⟨.ref a, hσ, rfl, rfl, dd, [(xnam (xbase r), .int i)], .int i, rfl, hdd, ?_, ?_, hk⟩
  · rw [List.lookup_cons, beq_self_eq_true]
  · show 2 ≤ sizeLine
    rw [sizeLine_eq]
    omega⟩
/-- the def that tries what it gets -/
theorem err_gives {X : Cx} {Ng : List Str} {x a q : Str} {sg : Scope} {g : Addr} {cdg : Value} {l : List (Str × Str)} {L : List ClA} {h0 : ExceptHandler} {hds : List ExceptHandler} {j : Nat} {bg : List Stmt} {p1 p2 p3 p4 p5 p6 : Pos}
    (hb : bg = [.Try [.Expr (.Call (.Name a p1) [] [] p2) p3] (h0 :: hds) [] [] p4, .Return (some (.Constant (.str "") j p5)) p6]) (hN : Ng.Nodup) (hL : ClsOf X.K l L) (hh : ∀ s H, HdsOkA (cxOf C8.CX0 X.prog X.w X.K X.mg X.base Ng x sg g cdg X.A X.stack s H C8.E0).nox (h0 :: hds) L)
    (h0' : ∀ f : Addr, (L2.start Ng [V.ref f])[0]? = some (some (V.ref f))) (hsw : ∀ env : Env, swapsWith (.Call (.Name a p1) [] [] p2) none p3.line env = pure false := by intro _; rfl) : GivesTo X Ng x sg g cdg bg a q (TErr X.K l) := fun f c' s H Q tl act hc h => by
  subst hb
  refine ⟨_, pss_cons (ps_try_manyA (X := (cxOf C8.CX0 X.prog X.w X.K X.mg X.base Ng x sg g cdg X.A X.stack s H C8.E0).nox) (l := L)
      (tb := fun W D σ H => ∃ Ech : XK, (∀ cls d σ' H', Ech cls d H' → W cls d σ' H') ∧ σ[0]? = some (some (.ref f)) ∧ H c' = some (CodeO c' q) ∧ tl Ech H fun _ H' => D.nx σ H')
      rfl rfl hN takes_none5 (fun W pn xe tk _ => ?_) (hh s H)) (pss_one (ps_ret pe_str)), ?_⟩
  · refine ⟨fun pins s' σ H' D I ⟨Ech, hW, h1, h2, h3⟩ => ?_⟩
    exact (pss_one (ps_expr (pos := p3) (act W pn xe Ech p1 p2 tk hW) (hsw _))).run pins s' σ H' D I ⟨h1, h2, h3⟩
  · exact ⟨fun cls d H' => chain X.K l cls fun r => Rcl X.K cls d r Q H', fun cls d σ' H' z => chain_many hL z, h0' f, hc, h⟩
end Va
namespace Va
open PySem PySem.Spec PyProof.Rows L2 LamX
abbrev MXL := S → Option (Str × S)
def rdXL (K : PySem.W.Frag) (E : XK) (m : MXL) : TE := fun σ H _ => ∃ Fz fp st c s, Cfg K Fz H st σ fp ∧ m st = some (c, s) ∧ ∀ H' Fz' fp' d, Cfg K Fz' H' s σ fp' → Go Fz H fp Fz' H' fp' → Xat c d H' → E (.ref (He.ga K (xbase c))) d H'
def SXL (Γ : Gam) (Φ : GCx → Prop) (pn : Pins) (e : Expr) (m : MXL) : Prop := ∀ X (E : XK), On Γ Φ X → Takes X (fun cls d _ H => E cls d H) → PE X e fun σ H Q => Pin X.K pn σ ∧ rdXL X.K E m σ H Q
def xCallS (φ : FX) (m : M (List D)) : MXL := fun st => match m st with
  | some (ds, s) => match ds.all imm with
    | true => match φ ds with
      | some c => some (c, s)
      | none => none
    | false => none
  | none => none
theorem xcall_reads {K : PySem.W.Frag} {φ : FX} {m : M (List D)} {b : Back} {n : Nat} {E : XK} {σ H Q} (hn : b.length = n) (q : rdXL K E (xCallS φ m) σ H Q) : rdL K m b σ H fun vs H1 => spX K n φ vs H1 Q E := by
  obtain ⟨Fz, fp, st, c, s0, C, e, kk⟩ := q
  unfold xCallS at e
  split at e
  · rename_i ds s hm
    split at e
    · rename_i hi
      split at e
      · rename_i c' hφ
        cases e
        refine ⟨Fz, fp, st, C, ds, _, hm, fun vs H1 Fz1 fp1 hl hbl hL C1 g1 => ?_⟩
        obtain ⟨f1, f2, hf, r1, r2⟩ := RepS.split (by simp [hl]) C1.rep
        have := reps_imm r1 hi
        subst this
        rw [List.nil_append] at hf
        subst hf
        have Cs : Cfg K Fz1 H1 _ σ fp1 := ⟨r2, C1.nd, C1.fz, C1.ft⟩
        refine ⟨Fz1, ds, _, by omega, by omega, ⟨r1, List.nodup_nil, fun _ h => (nomatch h), C1.ft⟩, hφ, fun H' Fz' fp' d g y => ?_⟩
        have kp : ∀ a o, H1 a = some o → H' a = some o := fun a o h => g.keep a o h fun z => nomatch z
        exact kk H' Fz1 _ d (Cs.all kp g.dom) (g1.trans ⟨fun a o h _ => kp a o h, g.dom, fun _ h => h, fun _ h => .inl h, fun _ h => .inl h⟩) y
      · cases e
    · cases e
  · cases e
section
variable {Γ : Gam} {Φ : GCx → Prop} {pn : Pins}
theorem sxl_glob {x : Str} {n : Nat} {φ : FX} {e : Expr} {es : List Expr} {m : M (List D)} {b : Back} {p pos : Pos} (hc : ∀ g, Φ g → CallX g x n φ) (ha : SL Γ Φ (e :: es) m b) (hn : b.length = n := by rfl) (hg : gGl Γ.sc x = true := by rfl) (hd : (x == ("__debug__" : Str)) = false := by decide)
    (ns : NoStar e := by intro _ _; rfl) (hpl : ∀ env : Env, (backTo pos (starEach es env)).any (·.1) = false := by intro _; rfl) : SXL Γ Φ pn (.Call (.Name x p) (e :: es) [] pos) (xCallS φ m) := fun X E o tk => by
  obtain ⟨f, fd, ps, k, F, hr, hm, hk, hb⟩ := (hc _ o.phi).ex
  exact pe_imp (pe_callS F hr (o.gl hg) hm hk hb (passAt tk) (ha X o) hd (ns _ _) (hpl _)) fun σ H Q q => xcall_reads hn q.2
/-- x(e, ..), x a local name that holds the def fn -/
theorem sxl_call (i : Nat) {x fn : Str} {n : Nat} {φ : FX} {e : Expr} {es : List Expr} {m : M (List D)} {b : Back} {p pos : Pos} (hc : ∀ g, Φ g → CallX g fn n φ) (hgl : ∀ g, Φ g → g.mg fn = some (.ref (He.ga g.K fn))) (hpn : (i, fn) ∈ pn) (ha : SL Γ Φ (e :: es) m b) (hN : Γ.N[i]? = some x := by rfl) (hv : gVis Γ.sc x = true := by rfl)
    (hn : b.length = n := by rfl) (hd : (x == ("__debug__" : Str)) = false := by decide) (hcd : (x == ("__classdict__" : Str)) = false := by decide) (ns : NoStar e := by intro _ _; rfl) (hpl : ∀ env : Env, (backTo pos (starEach es env)).any (·.1) = false := by intro _; rfl) :
    SXL Γ Φ pn (.Call (.Name x p) (e :: es) [] pos) (xCallS φ m) := fun X E o tk => by
  obtain ⟨f, fd, ps, k, F, hr, hm, hk, hb⟩ := (hc _ o.phi).ex
  have ef : f = He.ga X.K fn := by
    have h1 := hm.symm.trans (hgl _ o.phi)
    cases h1
    rfl
  subst ef
  refine pe_imp (pe_callL (i := i) (dvs := []) (E := E) F hr (o.slot hN) (o.vis hv) hk hb .nil (passes_call tk fun _ _ _ _ h => h) (ha X o) hd hcd (ns _ _) (hpl _)) fun σ H Q q => ⟨q.1 _ hpn, ?_⟩
  have e0 : (fun (vs : List V) (H1 : Hp) => spX X.K n φ (vs ++ []) H1 Q E) = fun vs H1 => spX X.K n φ vs H1 Q E := by
    funext vs H1
    rw [List.append_nil]
  show rdL X.K m b σ H (fun vs H1 => spX X.K n φ (vs ++ []) H1 Q E)
  rw [e0]
  exact xcall_reads hn q.2
end
/-- the class is told, or a class above it -/
def subX (c e : Str) : Bool := decide (c = e) || decide (e = "BagError")
def tell (l : List (Str × Str)) (c : Str) : Option Str := match l with
  | [] => none
  | (e, r) :: l => match subX c e with
    | true => some r
    | false => tell l c
/-- the clause's answer -/
def ansD (r c : Str) : Option D := match xfld r with
  | none => some (.str r)
  | some _ => match decide (xbase c = xbase r) with
    | true => match xfld c with
      | some i => some (.tup [.str (xbase r), .int (i : Int)])
      | none => none
    | false => none
def mErr (xs : List Str) (l : List (Str × Str)) (mx : MXL) : M D := fun st => match mx st with
  | some (c, s) => match xs.any fun x => decide (x = xbase c) with
    | true => match tell l (xbase c) with
      | some r => match ansD r c with
        | some d => some (d, s)
        | none => none
      | none => none
    | false => none
  | none => none
/-- nothing is raised -/
def mErr0 (m : M D) : M D := fun st => match m st with
  | some (_, s) => some (.str "", s)
  | none => none
structure ErrAt (g : GCx) (x a : Str) (l : List (Str × Str)) (Φl : GCx → Prop) : Prop where
  ex : ∃ (f : Addr) (pg : Arguments) (bg : List Stmt) (sg : Scope) (dV kV doc pm cdv ct oc : Value) (an od : Option Addr) (osl : Array (Option Value)) (Ng : List Str) (k : Nat),
    g.mg x = some (.ref f) ∧ PySem.W.keepIn g.K (.ref f) = true ∧ g.K.lookup f = some ⟨oc, od, .func (PySem.W.fnOf x x pg bg sg dV kV doc pm an cdv ct), osl⟩ ∧ PySem.W.codeIn g.K cdv x = true ∧
      L2.Binds g.K (PySem.W.fnOf x x pg bg sg dV kV doc pm an cdv ct) [a] [] ∧ FnScope Ng [a] sg ∧ Ng[0]? = some a ∧ Vis sg a ∧ (∀ X : Cx, gOf X = g → GivesTo X Ng x sg f cdv bg a (lamQ X) (TErr g.K l)) ∧ Room (k + 2) g.A ∧
      ∀ A, Room k A → Φl ⟨g.prog, g.w, g.K, g.mg, g.base, A⟩
theorem chain_tell {K : PySem.W.Frag} {c : Str} {R : Str → Prop} : ∀ {l : List (Str × Str)} {r : Str}, (∀ p ∈ l, PySem.W.exmOne K (.ref (He.ga K c)) (.ref (He.ga K p.1)) = some (subX c p.1)) → tell l c = some r → R r → chain K l (.ref (He.ga K c)) R
  | [], _, _, h, _ => by cases h
  | (e, r') :: l, r, hx, h, hR => by
    refine ⟨subX c e, hx (e, r') (List.mem_cons_self ..), fun hb => ?_, fun hb => ?_⟩
    · unfold tell at h
      rw [hb] at h
      cases h
      exact hR
    · unfold tell at h
      rw [hb] at h
      exact chain_tell (fun p hp => hx p (List.mem_cons_of_mem _ hp)) h hR
section
variable {Γ : Gam} {Φ Φl : GCx → Prop} {pn : Pins}
theorem le_err {xs : List Str} {l : List (Str × Str)} {x a : Str} {params : Arguments} {body : Expr} {scope : Scope} {o : Option Str} {mx : MXL} {p lpos pos : Pos} (he : ∀ g, Φ g → ErrAt g x a l Φl)
    (hx : ∀ g, Φ g → ∀ c ∈ xs, ∀ e ∈ l, PySem.W.exmOne g.K (.ref (He.ga g.K c)) (.ref (He.ga g.K e.1)) = some (subX c e.1)) (hp : LamP params body scope o) (hb : SXL { N := Γ.N, sc := scope, fnm := fun _ => false } Φl pn body mx) (hL : lamNB Γ.N Γ.sc scope = true := by decide +kernel)
    (hg : gGl Γ.sc x = true := by rfl) (hdb : (x == ("__debug__" : Str)) = false := by decide) (hd : (a == ("__debug__" : Str)) = false := by decide) (hcd : (a == ("__classdict__" : Str)) = false := by decide) :
    LE Γ Φ pn (.Call (.Name x p) [.Lambda params body scope lpos] [] pos) (mErr xs l mx) := fun X T on t => by
  obtain ⟨c, P, TB, hcode, rfl⟩ := t
  obtain ⟨f, pg, bg, sg, dV, kV, doc, pm, cdv, ct, oc, an, od, osl, Ng, k, hm, hk, lk, hcg, hbd, Sg, hNg, hva, hG, hr, hΦ⟩ := (he _ on.phi).ex
  have hL' : LamN X.N X.env.scope scope := lamN_by (by rw [on.N, on.sc]; exact hL)
  refine pe_imp (pe_try (T := [(P, lamQ X)]) (k := k) (on.gl hg) hm hk lk hcg hbd Sg hNg hva (hG X rfl) TB hcode (List.mem_singleton.mpr rfl) (fun p hp _ => by rw [List.mem_singleton.mp hp]) hr hL' hp (t := fun E σ H Q => Pin X.K pn σ ∧ rdXL X.K E mx σ H Q)
    (fun A outer s H E f' c' hr2 => hb (lamCx X A outer s H E scope f' c') E
      { N := on.N, sc := rfl, nd := on.nd, calm := rfl, kind := hL'.kind, fn := fun _ h => absurd h Bool.false_ne_true, hu := by have := hr2.un; show (A.deeper _).units + 100 < cLine; omega, phi := hΦ _ hr2 } (takes_of rfl rfl rfl rfl)) hdb hd hcd) fun σ H Q q => ?_
  obtain ⟨Fz, fp, P', PV, st, hl, C, hT, hP, d, st', e, kk⟩ := q
  unfold mErr at e
  split at e
  · rename_i cl s hmx
    split at e
    · rename_i hin
      split at e
      · rename_i r htl
        split at e
        · rename_i dz han
          cases e
          refine ⟨hT, fun H1 gr hT1 => ⟨hP, ?_⟩⟩
          have C1 := C.grow gr
          obtain ⟨fP, f0, C0, fr⟩ := C1.frame hl
          refine ⟨_, f0, st, cl, _, C0, hmx, fun H' Fz' fp' d C' g y => ?_⟩
          obtain ⟨f2, C2, g2, _⟩ := fr C' g
          obtain ⟨y', hy, ey⟩ := List.any_eq_true.mp hin
          have hmem : xbase cl ∈ xs := by rw [← of_decide_eq_true ey]; exact hy
          refine chain_tell (fun p hp => hx _ on.phi (xbase cl) hmem p hp) htl ?_
          unfold ansD at han
          unfold Rcl
          split at han
          · rename_i hr0
            cases han
            try rw [hr0]
            exact kk (.str r) H' _ _ (Cfg.atom C2 (.str r)) (tabs_keep hT1 C1 fun a o h n => g2.keep a o h n) ⟨fun a o h n t => g2.keep a o (gr.keep a o h t) n, fun a h => gr.dom a (g2.dom a h), fun a h => (g2.fpn a h).imp id (gr.dom a)⟩
          · rename_i j hr0
            try rw [hr0]
            split at han
            · rename_i hbb
              have hbb := of_decide_eq_true hbb
              split at han
              · rename_i i hci
                cases han
                unfold Xat at y
                rw [hci, hbb] at y
                obtain ⟨dd, e1, e2⟩ := y
                refine ⟨by rw [hbb], dd, (i : Int), e1, e2, ?_⟩
                exact fin_tup (T := []) (TV := []) (H := H') (fp := f2) (fun v H2 Fz2 fp2 C3 g3 => kk v H2 Fz2 fp2 C3 (tabs_keep hT1 C1 fun a o h n => (g2.trans g3).keep a o h n)
                  ⟨fun a o h n t => (g2.trans g3).keep a o (gr.keep a o h t) n, fun a h => gr.dom a ((g2.trans g3).dom a h), fun a h => ((g2.trans g3).fpn a h).imp id (gr.dom a)⟩) rfl C2 .refl (.cons (f := []) (g := []) (.str _) (.cons (f := []) (g := []) (.int _) .nil))
              · cases han
            · cases han
        · cases e
      · cases e
    · cases e
  · cases e
end
def rdTS (K : PySem.W.Frag) (T : List (Addr × Str)) (pn : Pins) (RO : Nat → Bool) (m : M Fl) : TS := fun D' σ H => ∃ Fz fp st, Cfg K Fz H st σ fp ∧ Tabs T H ∧ Pin K pn σ ∧ ∃ fl st', m st = some (fl, st') ∧
  ∀ σ' H' Fz' fp', (∀ i, RO i = true → σ'[i]? = σ[i]?) → GoT H fp H' fp' → Tabs T H' → Out K D' fl st' σ' H' Fz' fp'
def LS1 (Γ : Gam) (Φ : GCx → Prop) (pn : Pins) (RO : Nat → Bool) (st : Stmt) (m : M Fl) : Prop := ∀ X T, On Γ Φ X → TabOk X T → PassesOwn (model X.prog X.w) X.A X.env X.xe → PS X st (rdTS X.K T pn RO m)
def LS (Γ : Gam) (Φ : GCx → Prop) (pn : Pins) (RO : Nat → Bool) (st : List Stmt) (m : M Fl) : Prop := ∀ X T, On Γ Φ X → TabOk X T → PassesOwn (model X.prog X.w) X.A X.env X.xe → PSs X st (rdTS X.K T pn RO m)
section
variable {Γ : Gam} {Φ : GCx → Prop} {pn : Pins} {RO : Nat → Bool}
theorem Pin.ro {K : PySem.W.Frag} {σ σ' : L2.St} (h : Pin K pn σ) (hp : pn.all (fun p => RO p.1) = true) (r : ∀ i, RO i = true → σ'[i]? = σ[i]?) : Pin K pn σ' := fun p hm => (r p.1 (List.all_eq_true.mp hp p hm)).trans (h p hm)
theorem ls_st {st : Stmt} {m : M Fl} (h : ST1 Γ Φ RO st m) : LS1 Γ Φ pn RO st m := fun X T o _ hp => ps_imp (h X o hp) fun D' σ H q => by
  obtain ⟨Fz, fp, st, C, hT, hP, fl, st', e, k⟩ := q
  refine ⟨Fz, fp, st, C, fl, st', e, fun σ' H' Fz' fp' ro g => ?_⟩
  exact k σ' H' Fz' fp' ro g.t (tabs_keep hT C fun a o h n => g.keep a o h n)
theorem ls_nil : LS Γ Φ pn RO [] mNx := fun X T o _ hp => pss_imp pss_nil fun D' σ H q => by
  obtain ⟨Fz, fp, st, C, hT, hP, fl, st', e, k⟩ := q
  cases e
  exact k σ H Fz fp (fun _ _ => rfl) .refl hT C
theorem ls_cons {st : Stmt} {sts : List Stmt} {a b : M Fl} (h : LS1 Γ Φ pn RO st a) (hr : LS Γ Φ pn RO sts b) (hpn : pn.all (fun p => RO p.1) = true := by rfl) : LS Γ Φ pn RO (st :: sts) (mSeq a b) := fun X T o t hp => pss_imp (pss_cons (h X T o t hp) (hr X T o t hp)) fun D' σ H q => by
  obtain ⟨Fz, fp, st, C, hT, hP, fl, st', e, k⟩ := q
  show rdTS X.K T pn RO a { D' with nx := rdTS X.K T pn RO b D' } σ H
  unfold mSeq at e
  split at e
  · rename_i s hm
    refine ⟨Fz, fp, st, C, hT, hP, .nx, s, hm, fun σ1 H1 Fz1 fp1 r1 g1 t1 C1 => ?_⟩
    exact ⟨Fz1, fp1, s, C1, t1, hP.ro hpn r1, fl, st', e, fun σ2 H2 Fz2 fp2 r2 g2 t2 => k σ2 H2 Fz2 fp2 (fun i hi => (r2 i hi).trans (r1 i hi)) (g1.trans g2) t2⟩
  · rename_i hne
    refine ⟨Fz, fp, st, C, hT, hP, fl, st', e, fun σ1 H1 Fz1 fp1 r1 g1 t1 => ?_⟩
    exact (k σ1 H1 Fz1 fp1 r1 g1 t1).mono (fun σ H hn => by subst hn; exact absurd e (hne st')) rfl rfl rfl
theorem ls_one {st : Stmt} {a : M Fl} (h : LS1 Γ Φ pn RO st a) : LS Γ Φ pn RO [st] a := fun X T o t hp => pss_one (h X T o t hp)
theorem ls_if {c : Expr} {a b : List Stmt} {mc : M Bool} {ma mb : M Fl} {pos : Pos} (hc : LT Γ Φ pn c mc) (ha : LS Γ Φ pn RO a ma) (hb : LS Γ Φ pn RO b mb) : LS1 Γ Φ pn RO (.If c a b pos) (mIf mc ma mb) := fun X T o t hp => ps_imp (ps_if (hc X T o t) (ha X T o t hp) (hb X T o t hp)) fun D' σ H q => by
  obtain ⟨Fz, fp, st, C, hT, hP, fl, st', e, k⟩ := q
  unfold mIf at e
  split at e
  · rename_i s hm
    exact ⟨Fz, fp, [], [], st, rfl, C, hT, hP, _, _, hm, fun H1 Fz1 fp1 C1 t1 g1 => iteT ⟨Fz1, fp1, s, C1, t1, hP, fl, st', e, fun σ2 H2 Fz2 fp2 r2 g2 => k σ2 H2 Fz2 fp2 r2 (g1.trans g2)⟩⟩
  · rename_i s hm
    exact ⟨Fz, fp, [], [], st, rfl, C, hT, hP, _, _, hm, fun H1 Fz1 fp1 C1 t1 g1 => iteF ⟨Fz1, fp1, s, C1, t1, hP, fl, st', e, fun σ2 H2 Fz2 fp2 r2 g2 => k σ2 H2 Fz2 fp2 r2 (g1.trans g2)⟩⟩
  · cases e
theorem ls_set (i : Nat) {x : Str} {e : Expr} {m : M D} {p pos : Pos} (h : LE Γ Φ pn e m) (hN : Γ.N[i]? = some x := by rfl) (hl : gLoc Γ x = true := by rfl) (hr : RO i = false := by rfl) (hs : ∀ env : Env, swapsWith e (some (.Name x p)) pos.line env = pure false := by intro _; rfl) :
    LS1 Γ Φ pn RO (.Assign [.Name x p] e pos) (mSet i m) := fun X T o t hp => ps_imp (ps_set o.nd (o.slot hN) (o.loc hl) (h X T o t) (hs _) (o.fnl hl)) fun D' σ H q => by
  obtain ⟨Fz, fp, st, C, hT, hP, fl, st', e, k⟩ := q
  unfold mSet at e
  split at e
  · rename_i d s hm
    cases e
    refine ⟨Fz, fp, [], [], st, rfl, C, hT, hP, _, _, hm, fun v H1 Fz1 fp1 C1 t1 g1 => ?_⟩
    obtain ⟨f2, C2, h2⟩ := C1.store (i := i)
    exact k _ H1 Fz1 f2 (ro_set hr) (g1.sub h2) t1 C2
  · cases e
/-- for x in range(e) -/
theorem ls_range {x : Str} {i : Nat} {e : Expr} {m : M D} {body : List Stmt} {mb : M Fl} {p p2 pos pos2 : Pos} (h : SE Γ Φ e m) (hg : ∀ g, Φ g → g.mg "range" = none) (ht : SG Γ Φ (.Name x p2) (.n i)) (hb : LS Γ Φ pn RO body mb) (hgl : gGl Γ.sc "range" = true := by rfl) (ns : NoStar e := by intro _ _; rfl) (hro : RO i = false := by rfl)
    (hpn : pn.all (fun p => RO p.1) = true := by rfl) (hs : ∀ (env : Env) x, foldedSetIterable (.Call (.Name "range" p) [e] [] pos) env x = pure x := by intro _ _; rfl) : LS1 Γ Φ pn RO (.For (.Name x p2) (.Call (.Name "range" p) [e] [] pos) body [] pos2) (mFor (mRg1 m) (.n i) mb) := fun X T o t hp => by
  refine ps_imp (ps_for hp o.calm (pi_range1 (o.gl hgl) (hg _ o.phi) (pa_cons (h X o) pa_nil (ns _ _)) (by exact ns _ _)) (ht X o) (hb X T o t hp) (hs _)) fun D' σ0 H0 q => ?_
  obtain ⟨Fz0, fp0, st0, C0, hT0, hP0, fl, st', e0, k0⟩ := q
  unfold mFor at e0
  split at e0
  · rename_i ds s0 hm0
    unfold mRg1 at hm0
    split at hm0
    · rename_i n s hm
      split at hm0
      · rename_i hsm
        cases hm0
        refine ⟨Fz0, fp0, st0, C0, _, _, hm, fun v H1 Fz1 fp1 C1 g1 => ?_⟩
        obtain ⟨v', f, e', r, _⟩ := C1.head
        cases e'
        obtain ⟨f2, C2, h2⟩ := C1.drop
        have hs' := smallI_ok hsm
        refine ⟨n, by rw [r.inti], hs'.1, hs'.2, ?_⟩
        have g1' := (g1.sub h2).t
        have t1 := tabs_keep hT0 C0 fun a o h n => g1.keep a o h n
        refine ⟨fun j m σ H => ∃ Fz fp st, Cfg X.K Fz H st σ fp ∧ Tabs T H ∧ m + j = n.toNat ∧ forL (.n i) mb ((rgD 0 n).drop j) st = some (fl, st') ∧ (∀ i, RO i = true → σ[i]? = σ0[i]?) ∧ GoT H0 fp0 H fp, ⟨n.toNat, Fz1, f2, _, C2, t1, rfl, e0, fun _ _ => rfl, g1'⟩, ?_⟩
        have hlen : (rgD 0 n).length = n.toNat := by unfold rgD; simp
        rintro j m σ H ⟨Fz, fp, st, C, hTj, hmi, e, ro, gg⟩
        by_cases hlt : j < n.toNat
        · right
          refine ⟨hlt, fun σ' H' => ∃ Fz fp st, Cfg X.K Fz H' st σ' fp ∧ Tabs T H' ∧ forL (.n i) mb ((rgD 0 n).drop (j + 1)) st = some (fl, st') ∧ (∀ i, RO i = true → σ'[i]? = σ0[i]?) ∧ GoT H0 fp0 H' fp, fun σ' H' ⟨Fz, fp, st, C, tt, e, ro, g⟩ => ⟨m - 1, by omega, Fz, fp, st, C, tt, by omega, e, ro, g⟩, fun x H' y => ?_⟩
          obtain ⟨rfl, rfl⟩ := y
          have hj : j < (rgD 0 n).length := by rw [hlen]; exact hlt
          have hd : (rgD 0 n)[j]? = some (rgD 0 n)[j] := List.getElem?_eq_getElem hj
          rw [List.drop_eq_getElem_cons hj] at e
          have hdj := rgD_get hd
          rw [hdj] at e
          unfold forL at e
          have e : (match mb (st.set i (some (.int (0 + (j : Nat))))) with
            | some (.nx, s') => forL (.n i) mb ((rgD 0 n).drop (j + 1)) s'
            | some (.ct, s') => forL (.n i) mb ((rgD 0 n).drop (j + 1)) s'
            | some (.bk, s') => some (.nx, s')
            | some (.ret d, s') => some (.ret d, s')
            | none => none) = some (fl, st') := e
          obtain ⟨f4, C4, h4⟩ := store0 (i := i) (d := .int (0 + (j : Nat))) (v := .int (0 + (j : Nat))) C (.int _)
          have ro4 : ∀ l, RO l = true → (σ.set i (some (V.int (0 + (j : Nat)))))[l]? = σ0[l]? := fun l hl => (ro_set hro l hl).trans (ro l hl)
          have P4 := hP0.ro hpn ro4
          show rdTS X.K T pn RO mb _ (σ.set i (some (V.int (0 + (j : Nat))))) H'
          split at e
          · rename_i s' hb'
            exact ⟨_, f4, _, C4, hTj, P4, .nx, s', hb', fun σ2 H2 Fz2 fp2 r2 g2 t2 C2 => ⟨Fz2, fp2, s', C2, t2, e, fun i hi => (r2 i hi).trans (ro4 i hi), (gg.sub h4).trans g2⟩⟩
          · rename_i s' hb'
            exact ⟨_, f4, _, C4, hTj, P4, .ct, s', hb', fun σ2 H2 Fz2 fp2 r2 g2 t2 C2 => ⟨Fz2, fp2, s', C2, t2, e, fun i hi => (r2 i hi).trans (ro4 i hi), (gg.sub h4).trans g2⟩⟩
          · rename_i s' hb'
            cases e
            exact ⟨_, f4, _, C4, hTj, P4, .bk, _, hb', fun σ2 H2 Fz2 fp2 r2 g2 t2 C2 => k0 σ2 H2 Fz2 fp2 (fun i hi => (r2 i hi).trans (ro4 i hi)) ((gg.sub h4).trans g2) t2 C2⟩
          · rename_i d s' hb'
            cases e
            exact ⟨_, f4, _, C4, hTj, P4, .ret d, _, hb', fun σ2 H2 Fz2 fp2 r2 g2 t2 v C2 => k0 σ2 H2 Fz2 fp2 (fun i hi => (r2 i hi).trans (ro4 i hi)) ((gg.sub h4).trans g2) t2 v C2⟩
          · cases e
        · left
          refine ⟨by show n.toNat ≤ j; omega, ?_⟩
          rw [List.drop_eq_nil_of_le (by rw [hlen]; omega)] at e
          cases e
          exact k0 σ H Fz fp ro gg hTj C
      · cases hm0
    · cases hm0
  · cases e0
end
end Va
namespace Va
open PySem PySem.Spec PyProof.Rows L2 LamX
inductive Names (Γ : Gam) (Φ : GCx → Prop) : List Expr → List Str → Prop
  | nil : Names Γ Φ [] []
  | cons {n : Str} {p : Pos} {es : List Expr} {ns : List Str} : (∀ g, Φ g → g.mg n = some (.ref (He.ga g.K n))) → gGl Γ.sc n = true → (n == ("__debug__" : Str)) = false → Names Γ Φ es ns → Names Γ Φ (.Name n p :: es) (n :: ns)
theorem pa_names {Γ : Gam} {Φ : GCx → Prop} {X : Cx} (o : On Γ Φ X) : ∀ {es : List Expr} {ns : List Str}, Names Γ Φ es ns → PA X es fun σ H Q => Q (ns.map fun n => V.ref (He.ga X.K n)) H
  | _, _, .nil => pa_imp pa_nil fun σ H Q q => q
  | _, _, .cons hm hg hd r => pa_imp (pa_cons (pe_glob (v := .ref (He.ga X.K _)) (o.gl hg) (hm _ o.phi) rfl hd) (pa_names o r) (by rfl)) fun σ H Q q => q
inductive Bods (Γ : Gam) (Φ : GCx → Prop) (w : Nat) (pn : Pins) (RO : Nat → Bool) (body : List Stmt) : List (Str × M Fl) → Prop
  | nil : Bods Γ Φ w pn RO body []
  | cons {n : Str} {m : M Fl} {L : List (Str × M Fl)} : LS Γ Φ ((w, n) :: pn) RO body m → Bods Γ Φ w pn RO body L → Bods Γ Φ w pn RO body ((n, m) :: L)
theorem Bods.get {Γ : Gam} {Φ : GCx → Prop} {w : Nat} {pn : Pins} {RO : Nat → Bool} {body : List Stmt} : ∀ {L : List (Str × M Fl)}, Bods Γ Φ w pn RO body L → ∀ p ∈ L, LS Γ Φ ((w, p.1) :: pn) RO body p.2
  | _, .cons h r, p, hp => by
    rcases List.mem_cons.mp hp with e | e
    · rw [e]; exact h
    · exact r.get p e
def mForF (w : Nat) : List (M Fl) → M Fl
  | [] => fun st => some (.nx, st)
  | m :: ms => fun st => match m (st.set w none) with
    | some (.nx, s) => mForF w ms s
    | some (.ct, s) => mForF w ms s
    | some (.bk, s) => some (.nx, s)
    | some (.ret d, s) => some (.ret d, s)
    | none => none
section
variable {Γ : Gam} {Φ : GCx → Prop} {pn : Pins} {RO : Nat → Bool}
theorem ls_forF (w : Nat) {x : Str} {es : List Expr} {L : List (Str × M Fl)} {body : List Stmt} {p lp pos : Pos} (hn : Names Γ Φ es (L.map (·.1))) (hb : Bods Γ Φ w pn (fun i => i == w || RO i) body L) (ht : SG Γ Φ (.Name x p) (.n w)) (hN : Γ.N[w]? = some x := by rfl) (hro : RO w = false := by rfl) (hpn : pn.all (fun p => RO p.1) = true := by rfl)
    (hlen : Nat.ble L.length 1000 = true := by rfl) (hs : ∀ (env : Env) x, foldedSetIterable (.List es lp) env x = pure x := by intro _ _; rfl) : LS1 Γ Φ pn RO (.For (.Name x p) (.List es lp) body [] pos) (mForF w (L.map (·.2))) := fun X T o t hp => by
  have hbody : PSs X body fun D σ H => ∃ q ∈ L, Pin X.K pn σ ∧ (∀ i, RO i = true → RO i = true) ∧ σ[w]? = some (some (.ref (He.ga X.K q.1))) ∧ rdTS X.K T ((w, q.1) :: pn) (fun i => i == w || RO i) q.2 D σ H := ⟨fun pins s σ H D I ⟨q, hq, _, _, _, h⟩ => (hb.get q hq X T o t hp).run pins s σ H D I h⟩
  have hbody2 : PSs X body fun D σ H => ∃ q ∈ L, (w < X.N.length → σ.length = X.N.length → Pin X.K ((w, q.1) :: pn) σ) ∧ (Pin X.K ((w, q.1) :: pn) σ → rdTS X.K T ((w, q.1) :: pn) (fun i => i == w || RO i) q.2 D σ H) := ⟨fun pins s σ H D I ⟨q, hq, h1, h2⟩ => (hb.get q hq X T o t hp).run pins s σ H D I (h2 (h1 (List.getElem?_eq_some_iff.mp (o.slot hN)).1 I.len))⟩
  refine ps_imp (ps_for hp o.calm (pi_list (pe_lst (pa_names o hn))) (ht X o) hbody2 (hs _)) fun D' σ0 H0 q => ?_
  obtain ⟨Fz0, fp0, st0, C0, hT0, hP0, fl, st', e0, k0⟩ := q
  obtain ⟨vs, evs⟩ : ∃ vs, vs = (L.map (·.1)).map fun n => V.ref (He.ga X.K n) := ⟨_, rfl⟩
  show (List.map (fun n => V.ref (He.ga X.K n)) (L.map (·.1))).length ≤ sizeLine ∧ _
  rw [← evs]
  have hvl : vs.length = L.length := by rw [evs]; simp
  refine ⟨by rw [hvl, sizeLine_eq]; have := Nat.le_of_ble_eq_true hlen; omega, fun a ha => ⟨a, rfl, ⟨vs, .inl (.inl upd_same)⟩, ?_⟩⟩
  have kk : ∀ b u, H0 b = some u → upd H0 a (.lst vs) b = some u := fun b u e => by rw [upd_ne (ne_of_none e ha)]; exact e
  have dd : ∀ b, upd H0 a (.lst vs) b = none → H0 b = none := fun b e => by
    by_cases hb : b = a
    · rw [hb]; exact ha
    · rw [upd_ne hb] at e; exact e
  have na : a ∉ fp0 := fun z => C0.there a z ha
  refine ⟨fun j m σ H => ∃ Fz fp st, Cfg X.K Fz H st σ fp ∧ Tabs T H ∧ Pin X.K pn σ ∧ m + j = L.length ∧ mForF w ((L.map (·.2)).drop j) st = some (fl, st') ∧ (∀ i, RO i = true → σ[i]? = σ0[i]?) ∧ GoT H0 fp0 H fp ∧ H a = some (.lst vs) ∧ a ∉ fp,
    ⟨L.length, Fz0, fp0, st0, C0.all kk dd, tabs_keep hT0 C0 fun b u h _ => kk b u h, hP0, rfl, e0, fun _ _ => rfl, ⟨fun b u h _ _ => kk b u h, dd, fun _ h => .inl h⟩, upd_same, na⟩, ?_⟩
  rintro j m σ H ⟨Fz, fp, st, C, hT, hP, hmj, e, ro, gg, hHa, nfa⟩
  by_cases hlt : j < L.length
  · right
    have hjv : j < vs.length := by omega
    refine ⟨⟨vs, vs[j], .inl (.inl hHa), List.getElem?_eq_getElem hjv⟩, fun σ' H' => ∃ Fz fp st, Cfg X.K Fz H' st σ' fp ∧ Tabs T H' ∧ Pin X.K pn σ' ∧ mForF w ((L.map (·.2)).drop (j + 1)) st = some (fl, st') ∧ (∀ i, RO i = true → σ'[i]? = σ0[i]?) ∧ GoT H0 fp0 H' fp ∧ H' a = some (.lst vs) ∧ a ∉ fp,
      fun σ' H' ⟨Fz, fp, st, C, tt, pp, e, ro, g, h1, h2⟩ => ⟨m - 1, by omega, Fz, fp, st, C, tt, pp, by omega, e, ro, g, h1, h2⟩, fun x H' ⟨eH, hy⟩ => ?_⟩
    subst eH
    have ex : vs[j]? = some x := hy vs (.inl (.inl hHa))
    have hq : L[j] ∈ L := List.getElem_mem hlt
    have ex : x = .ref (He.ga X.K L[j].1) := by
      rw [evs, List.getElem?_map, List.getElem?_map, List.getElem?_eq_getElem hlt] at ex
      exact (Option.some.inj ex).symm
    subst ex
    obtain ⟨f4, C4, h4⟩ := C.unset (i := w) (y := some (.ref (He.ga X.K L[j].1)))
    have ro4 : ∀ l, RO l = true → (σ.set w (some (V.ref (He.ga X.K L[j].1))))[l]? = σ0[l]? := fun l hl => (ro_set hro l hl).trans (ro l hl)
    have P4 : Pin X.K pn (σ.set w (some (V.ref (He.ga X.K L[j].1)))) := hP0.ro hpn ro4
    show ∃ q ∈ L, _
    refine ⟨L[j], hq, fun h1 h2 => fun p hm => ?_, fun hPin => ?_⟩
    · rcases List.mem_cons.mp hm with e | e
      · rw [e]
        have h2 : (σ.set w (some (V.ref (He.ga X.K L[j].1)))).length = X.N.length := h2
        have hw : w < σ.length := by rw [List.length_set] at h2; omega
        show (σ.set w (some (V.ref (He.ga X.K L[j].1))))[w]? = _
        rw [List.getElem?_set_self hw]
      · exact P4 p e
    · have hPin : Pin X.K ((w, L[j].1) :: pn) (σ.set w (some (V.ref (He.ga X.K L[j].1)))) := hPin
      have hjm : j < (L.map (·.2)).length := by simpa using hlt
      rw [List.drop_eq_getElem_cons hjm] at e
      unfold mForF at e
      rw [List.getElem_map] at e
      show rdTS X.K T ((w, L[j].1) :: pn) (fun i => i == w || RO i) L[j].2 _ (σ.set w (some (V.ref (He.ga X.K L[j].1)))) H'
      have nf4 : a ∉ f4 := fun z => nfa (h4 a z)
      have stay : ∀ {H2 : Hp} {f2 : List Addr}, GoT H' f4 H2 f2 → H2 a = some (.lst vs) ∧ a ∉ f2 := fun g => ⟨g.keep a _ hHa nf4 (fun ps z => by cases z), fun z => (g.fpn a z).elim nf4 fun z => by rw [hHa] at z; cases z⟩
      have ro5 : ∀ {σ2 : L2.St}, (∀ i, (i == w || RO i) = true → σ2[i]? = (σ.set w (some (V.ref (He.ga X.K L[j].1))))[i]?) → ∀ i, RO i = true → σ2[i]? = σ0[i]? := fun r2 i hi => (r2 i (by rw [hi, Bool.or_true])).trans (ro4 i hi)
      split at e
      · rename_i s' hb'
        exact ⟨_, f4, _, C4, hT, hPin, .nx, s', hb', fun σ2 H2 Fz2 fp2 r2 g2 t2 C2 => ⟨Fz2, fp2, s', C2, t2, hP0.ro hpn (ro5 r2), e, ro5 r2, (gg.sub h4).trans g2, (stay g2).1, (stay g2).2⟩⟩
      · rename_i s' hb'
        exact ⟨_, f4, _, C4, hT, hPin, .ct, s', hb', fun σ2 H2 Fz2 fp2 r2 g2 t2 C2 => ⟨Fz2, fp2, s', C2, t2, hP0.ro hpn (ro5 r2), e, ro5 r2, (gg.sub h4).trans g2, (stay g2).1, (stay g2).2⟩⟩
      · rename_i s' hb'
        cases e
        exact ⟨_, f4, _, C4, hT, hPin, .bk, _, hb', fun σ2 H2 Fz2 fp2 r2 g2 t2 C2 => k0 σ2 H2 Fz2 fp2 (ro5 r2) ((gg.sub h4).trans g2) t2 C2⟩
      · rename_i d s' hb'
        cases e
        exact ⟨_, f4, _, C4, hT, hPin, .ret d, _, hb', fun σ2 H2 Fz2 fp2 r2 g2 t2 v C2 => k0 σ2 H2 Fz2 fp2 (ro5 r2) ((gg.sub h4).trans g2) t2 v C2⟩
      · cases e
  · left
    refine ⟨⟨vs, .inl (.inl hHa), by omega⟩, ?_⟩
    rw [List.drop_eq_nil_of_le (by simp; omega)] at e
    cases e
    exact k0 σ H Fz fp ro gg hT C
end
abbrev XEnt := (Nat → Fn) → (Nat → FX) → MX
def rhoX (T : List Ent) (XT : List XEnt) : Nat → Nat → FX
  | 0, _ => fun _ => none
  | k + 1, i => match T[i]?, XT[i]? with
    | some e, some x => runX e.N.length e.ps.length (x (rho T k) (rhoX T XT k))
    | _, _ => fun _ => none
structure PhiX (sig : List (Str × Nat)) (bs : List Str) (gis : List (Str × Int)) (xs : List Str) (ρ : Nat → Fn) (ρX : Nat → FX) (g : GCx) : Prop extends Phi sig bs gis ρ g where
  fnX : ∀ (i : Nat) p, sig[i]? = some p → CallX g p.1 p.2 (ρX i)
  exc : ∀ (i : Nat) x, xs[i]? = some x → ExcAt g x
  gl : ∀ (i : Nat) p, sig[i]? = some p → g.mg p.1 = some (.ref (He.ga g.K p.1))
inductive OksX (sig : List (Str × Nat)) (bs : List Str) (gis : List (Str × Int)) (xs : List Str) : List Ent → List XEnt → Prop
  | nil : OksX sig bs gis xs [] []
  | cons {e : Ent} {x : XEnt} {T : List Ent} {XT : List XEnt} : (∀ ρ ρX, SX { N := e.N, sc := e.d.scope } (PhiX sig bs gis xs ρ ρX) e.d.body (x ρ ρX)) → OksX sig bs gis xs T XT → OksX sig bs gis xs (e :: T) (x :: XT)
theorem OksX.get {sig : List (Str × Nat)} {bs : List Str} {gis : List (Str × Int)} {xs : List Str} : ∀ {T : List Ent} {XT : List XEnt}, OksX sig bs gis xs T XT → ∀ {i : Nat} {e : Ent}, T[i]? = some e → ∃ x, XT[i]? = some x ∧ ∀ ρ ρX, SX { N := e.N, sc := e.d.scope } (PhiX sig bs gis xs ρ ρX) e.d.body (x ρ ρX)
  | _, _, .nil, _, _, h => by simp at h
  | _, _, .cons (x := x) a r, 0, e, h => by simp at h; subst h; exact ⟨x, rfl, a⟩
  | _, _, .cons a r, i + 1, e, h => by
    obtain ⟨x, h1, h2⟩ := r.get (i := i) (e := e) (by simpa using h)
    exact ⟨x, by simpa using h1, h2⟩
/-- defs that the evaluator does not look into -/
theorem ss_no {Γ : Gam} {Φ : GCx → Prop} {RO : Nat → Bool} {sts : List Stmt} : SS Γ Φ RO sts (fun _ => none) := fun X o hp => ⟨fun pins s σ H D I q => by
  obtain ⟨_, _, _, _, _, _, e, _⟩ := q
  cases e⟩
/-- facts beside the table's -/
def exOf (xs : List Str) (l : List (Str × Str)) : List He.Fa := xs.map .glo ++ ((xs.filter fun x => !isFld x).map .exc ++ xs.flatMap fun c => l.map fun e => .exm c e.1 (subX c e.1))
section
variable {P : Program} {w : World} {K : PySem.W.Frag} {h : Heap} {mg : Str → Option Value} {sig : List (Str × Nat)} {bs : List Str} {gis : List (Str × Int)} {xs : List Str} {T : List Ent} {XT : List XEnt} {l : List (Str × Str)}
theorem says_less {fa ex : List He.Fa} {fn : List He.DefD} (c : He.SaysD (fa ++ ex) fn K) : He.SaysD fa fn K := by
  have c1 : (((fa ++ ex).all fun f => f.ok K) && fn.all fun d => d.ok K) = true := congrArg (fun z : He.AlD => z.1) c
  have c2 : (fn.map fun d => He.fnW K d.at_) = fn.map He.DefD.val := congrArg (fun z : He.AlD => z.2) c
  have c3 : ((fa.all fun f => f.ok K) && fn.all fun d => d.ok K) = true := by
    simp only [List.all_append, Bool.and_eq_true] at c1 ⊢
    exact ⟨c1.1.1, c1.2⟩
  show ((fa.all fun f => f.ok K) && fn.all fun d => d.ok K, fn.map fun d => He.fnW K d.at_) = He.valD fn
  rw [c3, c2]
  rfl
structure Hd (P : Program) (sig : List (Str × Nat)) (bs : List Str) (gis : List (Str × Int)) (xs : List Str) (l : List (Str × Str)) (T : List Ent) (K : PySem.W.Frag) (h : Heap) (mg : Str → Option Value) : Prop where
  X : K.In h
  G : h.Ns mainGlobals mg
  c : He.SaysD (faOf bs gis T ++ exOf xs l) (T.map (·.d)) K
  ok : Oks sig bs gis T
  hsig : sig = T.map fun e => (e.d.name, e.ps.length)
  fl : ∀ x ∈ xs, isFld x = true → FldK P K (He.ga K x) (xnam x)
theorem Hd.fact (D : Hd P sig bs gis xs l T K h mg) {f : He.Fa} (hf : f ∈ exOf xs l) : f.ok K = true := D.c.facts (List.mem_append_right _ hf)
theorem Hd.exc (D : Hd P sig bs gis xs l T K h mg) (base : Heap) {A : Around} (hr : Room 1 A) {x : Str} (hx : x ∈ xs) : ExcAt ⟨P, w, K, mg, base, A⟩ x :=
  ⟨He.glo_ok D.X D.G (D.fact (List.mem_append_left _ (List.mem_map_of_mem hx))), fun hf => D.fact (List.mem_append_right _ (List.mem_append_left _ (List.mem_map_of_mem (List.mem_filter.mpr ⟨hx, by rw [hf]; rfl⟩)))), fun hf => ⟨D.fl x hx hf, hr⟩⟩
theorem Hd.exm (D : Hd P sig bs gis xs l T K h mg) : ∀ c ∈ xs, ∀ e ∈ l, PySem.W.exmOne K (.ref (He.ga K c)) (.ref (He.ga K e.1)) = some (subX c e.1) := fun c hc e he =>
  He.exm_ok (D.fact (List.mem_append_right _ (List.mem_append_right _ (List.mem_flatMap.mpr ⟨c, hc, List.mem_map.mpr ⟨e, he, rfl⟩⟩))))
theorem Hd.fd (D : Hd P sig bs gis xs l T K h mg) {i : Nat} {e : Ent} (he : T[i]? = some e) : ∃ fd, FunD K e.d.name e.d.qual e.d.params e.d.body e.d.scope [] [] (He.ga K e.d.name) fd := by
  have o := D.ok.get he
  obtain ⟨fd, F⟩ := D.c.defs (d := e.d) (List.mem_map.mpr ⟨e, List.mem_of_getElem? he, rfl⟩)
  refine ⟨fd, ?_⟩
  unfold He.DefD.dvs He.DefD.kws He.fAd at F
  rw [o.dfl, o.kwd, o.hat] at F
  exact F
theorem Hd.glo (D : Hd P sig bs gis xs l T K h mg) {i : Nat} {e : Ent} (he : T[i]? = some e) : mg e.d.name = some (.ref (He.ga K e.d.name)) := by
  refine He.glo_ok D.X D.G ((says_less D.c).facts (f := .glo e.d.name) ?_)
  unfold faOf
  exact List.mem_append_right _ (List.mem_append_right _ (List.mem_map.mpr ⟨e, List.mem_of_getElem? he, rfl⟩))
theorem Hd.at (D : Hd P sig bs gis xs l T K h mg) {i : Nat} {p : Str × Nat} (hp : sig[i]? = some p) : ∃ e, T[i]? = some e ∧ p = (e.d.name, e.ps.length) := by
  rw [D.hsig, List.getElem?_map] at hp
  cases e : T[i]? with
  | none => rw [e] at hp; cases hp
  | some e' => rw [e] at hp; cases hp; exact ⟨e', rfl, rfl⟩
/-- what a text may lean on where there is room -/
theorem Hd.phi (D : Hd P sig bs gis xs l T K h mg) (base : Heap) (k : Nat) {A : Around} (hr : Room (k + 1) A) : Phi sig bs gis (rho T k) ⟨P, w, K, mg, base, A⟩ := by
  have c := says_less D.c
  refine ⟨fun i x hx => ?_, fun i p hp hf => ?_, fun i p hp hf => ?_, fun i p hp => ?_⟩
  · refine He.free_ok D.X D.G (c.facts (f := .free x) ?_)
    exact List.mem_append_left _ (List.mem_map_of_mem (List.mem_of_getElem? hx))
  · refine He.int_ok D.X D.G (c.facts (f := .int p.1 p.2) ?_)
    exact List.mem_append_right _ (List.mem_append_left _ (List.mem_map.mpr ⟨p, List.mem_of_getElem? hp, by unfold gFa; rw [hf]⟩))
  · refine He.str_ok D.X D.G (c.facts (f := .str p.1 figT) ?_)
    exact List.mem_append_right _ (List.mem_append_left _ (List.mem_map.mpr ⟨p, List.mem_of_getElem? hp, by unfold gFa; rw [hf]⟩))
  · obtain ⟨e, he, rfl⟩ := D.at hp
    obtain ⟨fd, F⟩ := D.fd he
    exact ⟨fun ds d outs h => rho_len T k i he ds d outs h, _, fd, e.ps, k + 1, all_ok D.ok D.hsig D.X D.G c base k i e he fd F, hr, D.glo he, F.kp, F.bindsN (D.ok.get he).bind⟩
theorem Hd.okX (D : Hd P sig bs gis xs l T K h mg) (ox : OksX sig bs gis xs T XT) (base : Heap) : ∀ (k i : Nat) (e : Ent), T[i]? = some e → ∀ fd, FunD K e.d.name e.d.qual e.d.params e.d.body e.d.scope [] [] (He.ga K e.d.name) fd →
    FnOk P w K mg base (L2.CX P w) (k + 1) (He.ga K e.d.name) fd e.ps (spX K e.ps.length (rhoX T XT k i)) := fun k => by
  induction k with
  | zero =>
    intro i e he fd F
    refine F.ok (D.ok.get he).sc (fun vs H Q E h => ?_) (fun cdv A outer s H vs Q E hr h => ?_)
    · obtain ⟨_, _, _, _, h, _⟩ := h
      exact h
    · obtain ⟨_, _, _, _, _, _, e, _⟩ := h
      cases e
  | succ k ih =>
    intro i e he fd F
    have o := D.ok.get he
    obtain ⟨x, hx, hs⟩ := ox.get he
    have er : rhoX T XT (k + 1) i = runX e.N.length e.ps.length (x (rho T k) (rhoX T XT k)) := by
      show (match T[i]?, XT[i]? with | some e, some x => runX e.N.length e.ps.length (x (rho T k) (rhoX T XT k)) | _, _ => fun _ => none) = _
      rw [he, hx]
    rw [er]
    refine def_okX F o.sc rfl (hs (rho T k) (rhoX T XT k)) fun A hr => { toPhi := D.phi base k hr, fnX := fun j p hp => ?_, exc := fun j x hx => D.exc base (hr.mono (by omega)) (List.mem_of_getElem? hx), gl := fun j p hp => ?_ }
    · obtain ⟨e', he', rfl⟩ := D.at hp
      obtain ⟨fd', F'⟩ := D.fd he'
      exact ⟨_, fd', e'.ps, k + 1, ih j e' he' fd' F', hr, D.glo he', F'.kp, F'.bindsN (D.ok.get he').bind⟩
    · obtain ⟨e', he', rfl⟩ := D.at hp
      exact D.glo he'
theorem Hd.phiX (D : Hd P sig bs gis xs l T K h mg) (ox : OksX sig bs gis xs T XT) (base : Heap) (k : Nat) {A : Around} (hr : Room (k + 1) A) : PhiX sig bs gis xs (rho T k) (rhoX T XT k) ⟨P, w, K, mg, base, A⟩ :=
  { toPhi := D.phi base k hr, fnX := fun j p hp => by
      obtain ⟨e', he', rfl⟩ := D.at hp
      obtain ⟨fd', F'⟩ := D.fd he'
      exact ⟨_, fd', e'.ps, k + 1, D.okX ox base k j e' he' fd' F', hr, D.glo he', F'.kp, F'.bindsN (D.ok.get he').bind⟩
    exc := fun j x hx => D.exc base (hr.mono (by omega)) (List.mem_of_getElem? hx), gl := fun j p hp => by
      obtain ⟨e', he', rfl⟩ := D.at hp
      exact D.glo he' }
/-- what the law may lean on -/
structure PhiL (sig : List (Str × Nat)) (bs : List Str) (gis : List (Str × Int)) (xs : List Str) (l : List (Str × Str)) (ρ ρ2 : Nat → Fn) (ρX : Nat → FX) (g : GCx) : Prop extends Phi sig bs gis ρ g where
  gl : ∀ (i : Nat) p, sig[i]? = some p → g.mg p.1 = some (.ref (He.ga g.K p.1))
  err : ErrAt g "_law_error" "_law_work" l (PhiX sig bs gis xs ρ2 ρX)
  exm : ∀ c ∈ xs, ∀ e ∈ l, PySem.W.exmOne g.K (.ref (He.ga g.K c)) (.ref (He.ga g.K e.1)) = some (subX c e.1)
/-- the text of the def that tries -/
structure ErrDef (bs : List Str) (l : List (Str × Str)) (d : He.DefD) (Ng : List Str) : Prop where
  name : d.name = "_law_error"
  qual : d.qual = "_law_error"
  sc : FnScope Ng ["_law_work"] d.scope
  n0 : Ng[0]? = some ("_law_work" : Str)
  vis : Vis d.scope "_law_work"
  bind : ∀ (kV doc pm : Value) (an : Option Addr) (cdv ct : Value) (us : List Value), us.length = ["_law_work"].length → bindArgs (PySem.W.fnOf d.name d.qual d.params d.body d.scope .none kV doc pm an cdv ct) ⟨us, []⟩ = pure ((["_law_work"] : List Str).zip us)
  gives : ∀ (X : Cx) (f : Addr) (cdv : Value) (q : Str), (∀ p ∈ l, X.mg p.1 = some (.ref (He.ga X.K p.1))) → (∀ p ∈ l, isFld p.1 = true → FldK X.prog X.K (He.ga X.K p.1) (xnam p.1)) → (∀ b ∈ bs, X.mg b = none) → GivesTo X Ng "_law_error" d.scope f cdv d.body "_law_work" q (TErr X.K l)
theorem Hd.err (D : Hd P sig bs gis xs l T K h mg) (ox : OksX sig bs gis xs T XT) (hlx : ∀ p ∈ l, p.1 ∈ xs) {i : Nat} {e : Ent} {Ng : List Str} (he : T[i]? = some e) (E : ErrDef bs l e.d Ng) (base : Heap) (k : Nat) {A : Around} (hr : Room (k + 3) A) :
    ErrAt ⟨P, w, K, mg, base, A⟩ "_law_error" "_law_work" l (PhiX sig bs gis xs (rho T k) (rhoX T XT k)) := by
  obtain ⟨fd, F⟩ := D.fd he
  have hb := F.bindsN (ps := ["_law_work"]) E.bind
  have hk := F.kp
  have hg := D.glo he
  obtain ⟨oc, od, dV, kV, doc, pm, an, cdv, ct, osl, rfl, lk, hcd, _, _⟩ := F.ex
  rw [E.name, E.qual] at lk hb
  rw [E.qual] at hcd
  rw [E.name] at hg hk
  exact ⟨_, _, _, _, _, _, _, _, _, _, _, _, _, _, Ng, k + 1, hg, hk, lk, hcd, hb, E.sc, E.n0, E.vis, fun X hX => by
    have h1 : X.mg = mg := congrArg GCx.mg hX
    have h2 : X.K = K := congrArg GCx.K hX
    have h3 : X.prog = P := congrArg GCx.prog hX
    have := E.gives X (He.ga K "_law_error") cdv (lamQ X) (fun p hp => by
      rw [h1, h2]
      exact He.glo_ok D.X D.G (D.fact (List.mem_append_left _ (List.mem_map_of_mem (hlx p hp))))) (fun p hp hf => by
      rw [h2, h3]
      exact D.fl p.1 (hlx p hp) hf) fun b hb' => by
      rw [h1]
      exact He.free_ok D.X D.G ((says_less D.c).facts (f := .free b) (List.mem_append_left _ (List.mem_map_of_mem hb')))
    rw [h2] at this
    exact this, hr, fun A hr2 => D.phiX ox base k hr2⟩
/-- the law's promise: its table is empty at first -/
def spLT (K : PySem.W.Frag) (Pt : Addr) (φ : Fn) : Sp := fun vs H Q _ => H Pt = some (.tbl #[]) ∧ vs.length = 1 ∧ ∃ Fz ds outs, ds.length = 1 ∧ Cfg K Fz H (ds.map some) (vs.map some) [] ∧ φ ds = some (.bl true, outs) ∧ ∀ H', Q (.bl true) H'
theorem Hd.law (D : Hd P sig bs gis xs l T K h mg) (ox : OksX sig bs gis xs T XT) (hlx : ∀ p ∈ l, p.1 ∈ xs) {i j : Nat} {e el : Ent} {Ng : List Str} (he : T[i]? = some e) (E : ErrDef bs l e.d Ng) (hl : T[j]? = some el) {x : Str} (hx : el.ps = [x]) {RO : Nat → Bool} {m : M Fl} (k : Nat)
    (hb : LS { N := el.N, sc := el.d.scope } (PhiL sig bs gis xs l (rho T (k + 2)) (rho T k) (rhoX T XT k)) [] RO el.d.body m) {fd : FuncData} (F : FunD K el.d.name el.d.qual el.d.params el.d.body el.d.scope [] [] (He.ga K el.d.name) fd) (base : Heap) {c Pt : Addr} (hc : ∀ p : Str × Option Str, p = el.d.at_ → He.codeOf K p = c) (TB : TabB base mg c Pt) :
    FnOk P w K mg base CX0 (k + 4) (He.ga K el.d.name) fd [x] (spLT K Pt (runD el.N.length 1 RO m)) := by
  have o := D.ok.get hl
  have sc := o.sc
  have ole := o.le
  rw [hx] at sc ole
  obtain ⟨oc, od, dV, kV, doc, pm, an, cdv, ct, osl, rfl, lk, hcd, _, _⟩ := F.ex
  obtain ⟨c', ec⟩ := He.codeIn_ref hcd
  have ecc : c' = c := by
    have h1 := hc el.d.at_ rfl
    have h2 : He.codeOf K el.d.at_ = c' := He.codeOf_eq (show K.lookup (He.fAd K el.d.at_) = some ⟨oc, od, .func (PySem.W.fnOf el.d.name el.d.qual el.d.params el.d.body el.d.scope dV kV doc pm an cdv ct), osl⟩ from by
      unfold He.fAd
      rw [o.hat]
      exact lk) ec
    rw [← h1, h2]
  subst ecc ec
  refine fn_of (CX := CX0) lk hcd sc (fun vs H Q E h => h.2.1) fun A outer s H vs Q E' hr hsp => ?_
  obtain ⟨hP, hv, Fz, ds, outs, hd, C, hφ, hQ⟩ := hsp
  have on : On { N := el.N, sc := el.d.scope } (PhiL sig bs gis xs l (rho T (k + 2)) (rho T k) (rhoX T XT k)) (cxOf CX0 P w K mg base el.N el.d.qual el.d.scope (He.ga K el.d.name) (.ref c') A outer s H E').nox :=
    { N := rfl, sc := rfl, nd := sc.nd, calm := rfl, kind := sc.kind, fn := fun _ _ => rfl, hu := (by have := hr.un; show (A.deeper _).units + 100 < cLine; omega), phi := { toPhi := D.phi base (k + 2) hr, gl := fun j p hp => (by obtain ⟨e', he', rfl⟩ := D.at hp; exact D.glo he'), err := D.err ox hlx he E base k hr, exm := D.exm } }
  refine ⟨_, PSs.nox (hb _ [(Pt, lamQ (cxOf CX0 P w K mg base el.N el.d.qual el.d.scope (He.ga K el.d.name) (.ref c') A outer s H E').nox)] on ⟨c', Pt, TB, rfl, rfl⟩ PassesOwn.never), ?_⟩
  obtain ⟨fl, s', hm, hl2, _, hfl⟩ := runD_some hφ
  have C1 : Cfg K Fz H (ds.map some ++ List.replicate (el.N.length - 1) none) (L2.start el.N vs) [] := by
    have R : RepS K Fz H (List.replicate (el.N.length - 1) (none : Option Va.D)) (List.replicate (el.N.length - 1) (none : Option V)) [] := by
      generalize el.N.length - 1 = j
      induction j with
      | zero => exact .nil
      | succ j ih => rw [List.replicate_succ, List.replicate_succ]; exact .cons (f := []) (g := []) .skip ih
    have RR := C.rep.app R
    rw [List.append_nil] at RR
    unfold L2.start
    rw [hv]
    exact ⟨RR, C.nd, C.fz, C.ft⟩
  refine ⟨Fz, [], _, C1, fun p hp => ?_, fun p hp => (nomatch hp), fl, s', hm, fun σ' H' Fz' fp' _ _ _ => ?_⟩
  · rw [List.mem_singleton.mp hp]
    exact TabS.nil hP
  · rcases hfl with rfl | ⟨_, e⟩
    · intro v C2
      obtain ⟨v', f, e', r, _⟩ := C2.head
      cases e'
      rw [r.bli]
      exact hQ H'
    · cases e
theorem Hd.lawAt {lw : PySem.W.OpenLaw} {fa : Addr} (D : Hd lw.prog sig bs gis xs l T K h mg) (ox : OksX sig bs gis xs T XT) (hlx : ∀ p ∈ l, p.1 ∈ xs) {i j : Nat} {e el : Ent} {Ng : List Str} (he : T[i]? = some e) (E : ErrDef bs l e.d Ng) (hl : T[j]? = some el) {x : Str} (hx : el.ps = [x]) {RO : Nat → Bool} {m : M Fl} (k : Nat)
    (hb : LS { N := el.N, sc := el.d.scope } (PhiL sig bs gis xs l (rho T (k + 2)) (rho T k) (rhoX T XT k)) [] RO el.d.body m) {fal : List He.Fa} {fnl : List He.DefD} {ex : PySem.W.Frag → Bool} (c : He.SaysX fal fnl [] [el.d.at_] ex w h K) (hfa : mg el.d.name = some (.ref fa))
    (hp : ∀ ns : List Int, ns.length ≤ 63 → ∃ outs, runD el.N.length 1 RO m [.rol (ns.map .int)] = some (.bl true, outs)) : LawAtS lw w K CX0 (k + 4) 63 x mg fa h := by
  have o := D.ok.get hl
  obtain ⟨fd, F⟩ := D.fd hl
  have ef := hfa.symm.trans (D.glo hl)
  cases ef
  refine ⟨fd, [He.cT K el.d.at_], spLT K (He.cT K el.d.at_).2 (runD el.N.length 1 RO m), fun p hm => ?_, fun p hm => ?_, fun p hm => ?_, fun s v => ?_, fun H a ns hlen hbits hT hS => ?_, fun base _ _ hTB => ?_⟩
  · rw [List.mem_singleton.mp hm]; exact c.empty _ (List.mem_singleton.mpr rfl)
  · rw [List.mem_singleton.mp hm]; exact c.out _ (List.mem_singleton.mpr rfl)
  · rw [List.mem_singleton.mp hm]; exact PySem.W.codeHd_of_K D.X (c.hd _ (List.mem_singleton.mpr rfl))
  · have := F.bindsA (ps := el.ps) o.bind s [v] (by rw [hx]; rfl)
    rw [hx] at this
    exact this
  · obtain ⟨outs, hr⟩ := hp ns hlen
    refine ⟨hT _ (List.mem_singleton.mpr rfl), rfl, fun b => b = a ∧ H b ≠ none, [.rol (ns.map .int)], outs, rfl, ⟨?_, List.nodup_nil, fun _ h => (nomatch h), fun _ h => h.1 ▸ h.2⟩, hr, fun H' => rfl⟩
    refine .cons (f := []) (g := []) (.som (.rol (vs := ns.map V.int) ?_ ?_)) .nil
    · rcases hS with hS | hS
      · refine .inl ⟨hS, rfl, ?_⟩
        rcases hS with h | ⟨_, h⟩ <;> rw [h] <;> exact Option.some_ne_none _
      · exact .inr hS
    · clear hr hS hp hlen hbits
      induction ns with
      | nil => exact .nil
      | cons n ns ih => exact .cons (f := []) (g := []) (.int n) ih
  · exact D.law ox hlx he E hl hx k hb F base (fun p hp => by rw [hp]; rfl) (hTB _ (List.mem_singleton.mpr rfl))
end
end Va
namespace Va
open PySem PySem.Spec PyProof.Rows L2
def dropD : List (D × D) → D → List (D × D)
  | [], _ => []
  | (a, y) :: r, k => match keyEq a k with
    | true => dropD r k
    | false => (a, y) :: dropD r k
section
variable {K : PySem.W.Frag} {Fz : Addr → Prop} {H : Hp} {s : S} {σ : L2.St} {fp : List Addr}
theorem RepK.drop : ∀ {kvs ws f}, RepK K Fz H kvs ws f → ∀ {k kk}, keyD k = some kk → ∃ h r, RepK K Fz H (dropD kvs k) (dropK ws kk) h ∧ (h ++ r).Perm f
  | _, _, _, .nil, k, kk, hk => ⟨[], [], .nil, .refl _⟩
  | _, _, _, .cons (k := a) (kk := ka) (f := f1) (g := f2) e r s, k, kk, hk => by
    have h2 := keyEq_iff e hk
    obtain ⟨h, r', rk, p⟩ := RepK.drop s hk
    unfold dropD dropK
    rw [List.filter_cons]
    by_cases q : ka = kk
    · rw [h2, decide_eq_true q, if_neg (by simp [q])]
      refine ⟨h, r' ++ f1, rk, ?_⟩
      rw [← List.append_assoc]
      exact (p.append_right f1).trans List.perm_append_comm
    · rw [h2, decide_eq_false q, if_pos (by simp [q])]
      refine ⟨f1 ++ h, r', .cons e r rk, ?_⟩
      rw [List.append_assoc]
      exact p.append_left f1
theorem Cfg.dropKey {xs : List (D × D)} {D0 : Addr} {k : D} {kk : Key} (C : Cfg K Fz H (some (.dic true xs) :: s) (some (.ref D0) :: σ) fp) (hk : keyD k = some kk) : ∃ acc, H D0 = some (.dK acc) ∧ (acc.any fun kv => decide (kv.1 = kk)) = hasD xs k ∧
    ∃ fp', Cfg K Fz (upd H D0 (.dK (dropK acc kk))) (some (.dic true (dropD xs k)) :: s) (some (.ref D0) :: σ) fp' ∧ Go Fz H fp Fz (upd H D0 (.dK (dropK acc kk))) fp' := by
  obtain ⟨acc, f, g, q, rl, rs, rfl, n1, n2, nd, z0, zf⟩ := C.partsD
  obtain ⟨h, r, rk, p⟩ := rl.drop hk
  have nh : ∀ a ∈ h, a ≠ D0 := fun a ha e => n1 (e ▸ p.mem_iff.mp (List.mem_append_left _ ha))
  have kb : ∀ {b u}, b ≠ D0 → H b = some u → upd H D0 (.dK (dropK acc kk)) b = some u := fun {b u} hb e => by rw [upd_ne hb]; exact e
  have kz : ∀ a u, Fz a → H a = some u → upd H D0 (.dK (dropK acc kk)) a = some u := fun a u z e => kb (fun ea => z0 (ea ▸ z)) e
  obtain ⟨fp', C', G'⟩ := Cfg.wrote (o := .dK (dropK acc kk)) (P' := [some (.dic true (dropD xs k))]) (PV' := [some (.ref D0)]) C.ft (by rw [q]; exact Option.some_ne_none _) rs n1 n2 nd z0 zf
    (RepS.cons (.som (.dicO upd_same (rk.keep (fun _ h => h) kz fun a u h e => kb (nh a h) e))) .nil) (r := r) (by simpa using p.cons D0)
  exact ⟨acc, q, (rl.has hk).symm, fp', C', G'⟩
end
def mDel (i : Nat) (mk : M D) : M Fl := fun st => match isBox i st with
  | true => match mk st with
    | some (k, s) => match s[i]? with
      | some (some (.dic true kvs)) => match keyD k with
        | some _ => match hasD kvs k with
          | true => some (.nx, s.set i (some (.dic true (dropD kvs k))))
          | false => none
        | none => none
      | _ => none
    | none => none
  | false => none
section
variable {Γ : Gam} {Φ : GCx → Prop} {RO : Nat → Bool}
theorem s_del (i : Nat) {x : Str} {ek : Expr} {mk : M D} {p p2 pos : Pos} (hk : SE Γ Φ ek mk) (hN : Γ.N[i]? = some x := by rfl) (hvis : gVis Γ.sc x = true := by rfl) (hd : (x == ("__debug__" : Str)) = false := by decide) (hcd : (x == ("__classdict__" : Str)) = false := by decide) :
    ST1 Γ Φ RO (.Delete [.Subscript (.Name x p) ek p2] pos) (mDel i mk) := fun X o hp => ps_imp (ps_ddel (pe_var (o.slot hN) (o.vis hvis) hd hcd) (hk X o)) fun D' σ H q => by
  obtain ⟨Fz, fp, st, C, fl, st', e, kk⟩ := q
  unfold mDel at e
  split at e
  · rename_i hbx
    split at e
    · rename_i k s hm
      split at e
      · rename_i kvs hx
        split at e
        · rename_i key hkey
          split at e
          · rename_i hh
            cases e
            obtain ⟨w, hw⟩ : ∃ w : V, σ[i]? = some (some w) := by
              unfold isBox at hbx
              split at hbx
              · rename_i dd hdd
                obtain ⟨w, _, e, _⟩ := C.get hdd
                exact ⟨w, e⟩
              · cases hbx
            refine ⟨w, hw, ⟨Fz, fp, st, C, _, _, hm, fun u H1 Fz1 fp1 C1 g1 => ?_⟩⟩
            obtain ⟨u', fu, eu, ru, _⟩ := C1.head
            cases eu
            obtain ⟨fc, Cc, hc⟩ := C1.drop
            obtain ⟨w', f4, ew, C4, h4⟩ := Cfg.takeP (P := []) (PV := []) (s := s) (σ := σ) rfl Cc hx rfl
            rw [hw] at ew
            cases ew
            obtain ⟨v0, f0, e0, r0, _⟩ := Cc.get hx
            rw [hw] at e0
            cases e0
            obtain ⟨a, ws, f', rfl, q0, _, _⟩ := r0.dic
            obtain ⟨acc, hacc, hla, f5, C5, g5⟩ := Cfg.dropKey (s := s.set i none) (σ := σ) C4 hkey
            obtain ⟨f6, C6, h6⟩ := Cfg.putback (P := []) (PV := []) (st := s.set i none) (σ := σ) (i := i) rfl C5 hw
            have C6 : Cfg X.K Fz1 _ ((s.set i none).set i (some (.dic true (dropD kvs k)))) σ f6 := C6
            rw [set_set_none] at C6
            have ek := keyD_v hkey ru
            subst ek
            refine ⟨a, acc, key, rfl, hacc, rfl, ?_, ?_⟩
            · rw [← valV_any, hla]; exact hh
            · exact kk σ _ Fz1 f6 (fun _ _ => rfl) ((g1.sub hc).trans ((g5.frame h4 fun b hb => .inl hb).sub h6)) C6
          · cases e
        · cases e
      · cases e
    · cases e
  · cases e
end
end Va
namespace Va
open PySem PySem.Spec PyProof.Rows L2 HT
section
variable {prog : Program} {w : World} {A : Around} {E : Value → Shared → Prop} {s : Shared}
theorem applied_back {sl : Addr} {vs : Value} {n : Nat} {Q : Int × Int × Nat → Shared → Prop} (hs : s.heap.IsSliceOf sl .none .none vs) (ps : IsPart vs (some (-1))) (h : Q ((n : Int) - 1, -1, n) s) : wpAny (model prog w) A (Builtin.Slice.sliceApplied (.ref sl) (pure (n : Int))) Q E s := by
  obtain ⟨os, hos, hcs, hds⟩ := id hs
  unfold Builtin.Slice.sliceApplied Builtin.Slice.sliceFields
  refine wpAny_bind (wpAny_bind (wpAny_field hos hds (x := .none) rfl (wpAny_bind (wpAny_field hos hds (x := .none) rfl (wpAny_bind (wpAny_field hos hds (x := vs) rfl (wpAny_pure ?_)))))))
  refine wpAny_bind (slicePart_ ps ?_)
  show wpAny _ _ (if ((-1 : Int) == 0) = true then _ else _) _ _ s
  rw [if_neg (by decide)]
  refine wpAny_bind (slicePart_none (wpAny_bind (slicePart_none (wpAny_bind (wpAny_pure ?_)))))
  have e1 : Builtin.Slice.sliceAdjust none none (-1) (n : Int) = ((n : Int) - 1, -1) := rfl
  have e2 : Builtin.Slice.slicePlaces ((n : Int) - 1) (-1) (-1) = n := by
    unfold Builtin.Slice.slicePlaces
    rw [if_neg (by decide)]
    by_cases hn : ((n : Int) - 1) > -1
    · rw [if_pos hn, Int.neg_neg, Int.ediv_one]
      omega
    · rw [if_neg hn]; omega
  show wpAny _ _ (match Builtin.Slice.sliceAdjust none none (-1) (n : Int) with | (lo, hi) => pure (lo, (-1 : Int), Builtin.Slice.slicePlaces lo hi (-1))) _ _ s
  rw [e1]
  show wpAny _ _ (pure ((n : Int) - 1, (-1 : Int), Builtin.Slice.slicePlaces ((n : Int) - 1) (-1) (-1))) _ _ s
  rw [e2]
  exact wpAny_pure h
theorem pick_back (xs : Array Value) : ((List.range xs.size).filterMap fun (m : Nat) => xs[((xs.size : Int) - 1 + (m : Int) * -1).toNat]?).toArray = xs.toList.reverse.toArray := by
  congr 1
  refine List.ext_getElem? fun i => ?_
  have e : ∀ l : List Nat, (∀ m ∈ l, m < xs.size) → l.filterMap (fun (m : Nat) => xs[((xs.size : Int) - 1 + (m : Int) * -1).toNat]?) = l.map fun m => xs.getD (xs.size - 1 - m) .none := fun l => by
    induction l with
    | nil => intro _; rfl
    | cons m l ih =>
      intro hl
      have hm := hl m (List.mem_cons_self ..)
      have e1 : ((xs.size : Int) - 1 + (m : Int) * -1).toNat = xs.size - 1 - m := by omega
      have h2 : xs.size - 1 - m < xs.size := by omega
      have e2 : xs[((xs.size : Int) - 1 + (m : Int) * -1).toNat]? = some (xs.getD (xs.size - 1 - m) .none) := by
        rw [e1, Array.getElem?_eq_getElem h2]
        unfold Array.getD
        rw [dif_pos h2]
        rfl
      rw [List.filterMap_cons, e2, List.map_cons, ih fun k hk => hl k (List.mem_cons_of_mem _ hk)]
  rw [e _ fun m hm => List.mem_range.mp hm, List.getElem?_map]
  by_cases hi : i < xs.size
  · rw [List.getElem?_range hi, List.getElem?_reverse (by simpa using hi)]
    have : xs.size - 1 - i < xs.size := by omega
    unfold Array.getD
    simp [this]
  · rw [List.getElem?_eq_none (by simp; omega), List.getElem?_eq_none (by simp; omega)]
    rfl
theorem getItem_back {t sl : Addr} {items : Array Value} {vs : Value} {Q : Value → Shared → Prop} (ht : IsTup s.heap t items) (hs : s.heap.IsSliceOf sl .none .none vs) (ps : IsPart vs (some (-1)))
    (h : Q (.ref s.heap.objs.size) { s with heap := s.heap.push { cls := .type "tuple", data := .seq items.toList.reverse.toArray } }) (hsz : items.size ≤ sizeLine) : wpAny (model prog w) A (getItem (.ref t) (.ref sl)) Q E s := by
  have hok : sizeOk (.seq items.toList.reverse.toArray) := by
    show items.toList.reverse.toArray.size ≤ sizeLine
    simpa using hsz
  obtain ⟨os, hos, hcs, hds⟩ := id hs
  have hTs : s.TypeIs (.ref sl) "slice" := ⟨os, hos, hcs⟩
  unfold getItem
  try with_reducible refine wpAny_holding ?_
  first | refine wpAny_bind (wpAny_pure ?_) | skip
  refine wpAny_bind (wpAny_sequenceKey ht.typeIs (by decide) (wpAny_bind (wpAny_callSpecial?_slot (name := Str.ofString "__getitem__") ht.typeIs PyProof.Rows.slot_tuple_getitem (wpAny_call_entry PyProof.Rows.slot_tuple_getitem ht.typeIs entry_tuple_getitem ?_ (args_tuple_getitem _ _)))))
  show wpAny _ _ (Builtin.Tuple.tupleItemsOf (.ref t) >>= _) _ _ s
  refine wpAny_bind (tupleItemsOf_ ht (wpAny_bind (wpAny_typeOf hTs ?_)))
  rw [if_pos (by decide)]
  refine wpAny_bind (applied_back hs ps ?_)
  have hno : ¬ ((((items.size : Int) - 1) == 0 && (-1 : Int) == 1 && items.size == items.size) = true) := fun q => by
    rw [Bool.and_eq_true, Bool.and_eq_true] at q
    exact absurd (eq_of_beq q.1.2) (by decide)
  show wpAny _ _ (if (((items.size : Int) - 1) == 0 && (-1 : Int) == 1 && items.size == items.size) = true then _ else _) _ _ s
  rw [if_neg hno, pick_back]
  first
    | exact wpAny_bind (m := Builtin.Tuple.tupleExact _) (wpAny_newObj_type (wpAny_pure ⟨_, rfl, wpAny_pure h⟩) hok)
    | exact wpAny_bind (m := Builtin.Tuple.tupleExact _) (wpAny_newObj_type (wpAny_bind (wpAny_pure (wpAny_pure ⟨_, rfl, wpAny_pure h⟩))) hok)
    | exact wpAny_bind (wpAny_bind (m := Builtin.Tuple.tupleExact _) (wpAny_newObj_type (wpAny_pure (wpAny_pure ⟨_, rfl, wpAny_pure h⟩)) hok))
    | exact wpAny_bind (wpAny_bind (m := Builtin.Tuple.tupleExact _) (wpAny_newObj_type (wpAny_pure ⟨_, rfl, wpAny_pure h⟩) hok))
end
def rBack (K : PySem.W.Frag) : V → Hp → VK → Prop := fun x H Q => ∃ a xs, x = .ref a ∧ SqT K H a xs ∧ TupQ H xs.reverse Q
theorem Vals.rev : ∀ {vs : List V} {us : List Value}, Vals vs us → Vals vs.reverse us.reverse
  | _, _, .nil => .nil
  | _, _, .cons r s => by
    rw [List.reverse_cons, List.reverse_cons]
    exact (Vals.rev s).append (.cons r .nil)
theorem pe_back {X : Cx} {e : Expr} {te : TE} {pos p2 cp sp : Pos} {j : Nat} (he : PE X e te) : PE X (.Subscript e (.Slice none none (some (.UnaryOp .USub (.Constant (.int 1) j cp) sp)) p2) pos) (tUn (rBack X.K) te) := by
  refine ⟨fun pins s σ H Q I h => ?_⟩
  refine Subscript_ (thn (he.run pins s σ H _ I h) fun v s1 ⟨x, H1, I1, r1, q1⟩ => ?_)
  have hst : PO X (some (.UnaryOp .USub (.Constant (.int 1) j cp) sp)) (tPart (tUn (rU fun i => .int (-i)) (tC (.int 1)))) := po_some (pe_un un_neg pe_int)
  refine wpAny_Slice (thn (po_none.run pins s1 σ H1 (fun o H4 => o = none ∧ H4 = H1) I1 ⟨rfl, rfl⟩) fun vl s2 ⟨l, H2, I2, pl, el, e2⟩ => thn (po_none.run pins s2 σ H2 (fun o H4 => o = none ∧ H4 = H2) I2 ⟨rfl, rfl⟩) fun vu s3 ⟨u, H3, I3, pu, eu, e3⟩ => ?_)
  subst el e2 eu e3
  refine thn (hst.run pins s3 σ _ (fun o H4 => o = some (-1) ∧ H4 = _) I3 ⟨1, rfl, -1, rfl, rfl, rfl⟩) fun vs s4 ⟨o, H4, I4, ps, eo, e4⟩ => ?_
  subst eo e4
  cases pl
  cases pu
  have I5 : L2.Inv X pins σ _ { s4 with heap := s4.heap.push { cls := .type "slice", data := .fields #[.none, .none, vs] } } := I4.kept (t' := s4.toks) fun b ob q => Heap.get?_push_of_some _ q
  show wpAny (model X.prog X.w) X.A (subscriptTail e (.Slice none none (some (.UnaryOp .USub (.Constant (.int 1) j cp) sp)) p2) v (.ref s4.heap.objs.size)) (EP X pins σ Q) X.xe { s4 with heap := s4.heap.push { cls := .type "slice", data := .fields #[.none, .none, vs] } }
  obtain ⟨a, xs, rfl, hx, q⟩ := q1
  cases r1
  obtain ⟨its, r, ht, hz⟩ := I5.tuple hx
  have hlen : its.toArray.size = xs.length := by rw [List.size_toArray]; exact r.length.symm
  refine tail_any (ops := [.ref a, .ref s4.heap.objs.size]) ht.typeIs PyProof.Rows.slot_tuple_getitem.lookup ?_ (by with_unfolding_all rfl)
  refine getItem_back ht (Heap.IsSliceOf.new _ .none .none vs) ps ?_ (by rw [hlen]; exact hz)
  exact tup_made I5 (Vals.rev r) (by rw [List.length_reverse]; exact hz) q
def revTF : D → Option D
  | .tup xs => some (.tup xs.reverse)
  | _ => none
section
variable {Γ : Gam} {Φ : GCx → Prop}
theorem RepL.rev {K : PySem.W.Frag} {Fz : Addr → Prop} {H : Hp} : ∀ {xs : List D} {vs : List V} {f}, RepL K Fz H xs vs f → f = [] → RepL K Fz H xs.reverse vs.reverse []
  | _, _, _, .nil, _ => .nil
  | _, _, _, .cons (f := f1) (g := f2) r s, h => by
    obtain ⟨h1, h2⟩ := List.append_eq_nil_iff.mp h
    subst h1 h2
    rw [List.reverse_cons, List.reverse_cons]
    have := (RepL.rev s rfl).app (.cons r .nil)
    simpa using this
theorem se_revT {e : Expr} {o1 : Opd} {pos p2 cp sp : Pos} {j : Nat} (he : SO Γ Φ e o1) : SE Γ Φ (.Subscript e (.Slice none none (some (.UnaryOp .USub (.Constant (.int 1) j cp) sp)) p2) pos) (m1 o1 revTF) := fun X o =>
  pe_imp (pe_back (he X o)) fun σ H Q q => one (r := rBack X.K) (f := revTF) (by
    intro Fz H fp σ s T TV Fz2 H2 fp2 a x fa z Q e hl C g ra k
    unfold revTF at e
    split at e
    · cases e
      obtain ⟨p, vs, rfl, hp, r⟩ := ra.tupl
      exact ⟨p, vs, rfl, .inl hp, fin_tup k hl C g (RepL.rev r rfl)⟩
    · cases e) q
end
end Va
namespace Va
open PySem PySem.Spec PyProof.Rows L2 LamX
end Va
namespace Va
open PySem PySem.Spec PySem.Calls PyProof.Rows L2 PySem.W
section
variable {prog : Program} {w : World} {A : Around} {E : Value → Shared → Prop} {s : Shared}
/-- the items of a tuple, collected -/
theorem col_tup {t : Addr} {us : List Value} {Q : List Value → Shared → Prop} (ht : IsTup s.heap t us.toArray) (hz : us.length ≤ sizeLine)
    (q : Q us { s with heap := (s.heap.push (seqObj "list" #[] 0)).update s.heap.objs.size (Obj.mapSeq (· ++ us.toArray)) }) : wpAny (model prog w) A (collect (.ref t)) Q E s := by
  obtain ⟨o, ho, hc, n, hd⟩ := ht
  have h0 : (s.heap.push (seqObj "list" #[] 0)).get? s.heap.objs.size = some (seqObj "list" #[] 0) := Heap.get?_push_size _ rfl
  have h1 : (s.heap.push (seqObj "list" #[] 0)).get? t = some o := Heap.get?_push_of_some _ ho
  have hk : (Builtin.List.listSameRef (.ref s.heap.objs.size) (.ref t) || (Value.type "tuple" == Value.type "list") || (Value.type "tuple" == Value.type "tuple")) = true := by
    rw [Bool.or_eq_true]
    exact .inr (by rfl)
  have e0 : ((#[] : Array Value) ++ us.toArray).toList = us := by simp
  unfold collect
  apply wpAny_bind
  refine wpAny_runValue (codeAny_builtin entry_proto_collect' (wpAny_bind (wpAny_newList (wpAny_pure ⟨Code.quiet_builtin _ (by decide +kernel), codeAny_builtin entry_list_iadd' ?_⟩))))
  show wpAny _ _ (Builtin.List.listExtendWith _ _ _) _ _ { s with heap := s.heap.push (seqObj "list" #[] 0) }
  unfold Builtin.List.listExtendWith
  refine wpAny_bind (wpAny_typeOf (T := "tuple") ⟨o, h1, hc⟩ ?_)
  rw [if_pos hk]
  refine wpAny_bind (listItems_at h1 hd (wpAny_bind (listItems_at h0 rfl ?_)))
  rw [if_neg (by simp)]
  refine wpAny_bind (listUpdate_at h0 rfl (wpAny_pure ?_) (Nat.zero_le _) (by simp only [Array.size_append, List.size_toArray, List.size_toArray, List.length_nil]; omega))
  refine wpAny_bind (wpAny_load (get?_update_seq h0 _) ?_)
  show wpAny _ _ (pure ((#[] : Array Value) ++ us.toArray).toList) Q E _
  rw [e0]
  exact wpAny_pure q
/-- sorted(t) -/
theorem sorted_tup {t : Addr} {us : List Value} {κ : KeyKind} {Q : Value → Shared → Prop} (ht : IsTup s.heap t us.toArray) (hz : us.length ≤ sizeLine) (S : SortsAt prog w A.in1.in1 { s with heap := sortingHeap (copyHeap s.heap us) (s.heap.objs.size + 1) us } κ us)
    (q : Q (.ref (s.heap.objs.size + 1)) { s with heap := sortedAll s.heap us (sortVals κ false us us).toArray }) : wpAny (model prog w) A (call (.builtin "sorted") [.ref t]) Q E s := by
  refine call_function_entry_kw kind_sorted plain_sorted entry_sorted (args_sorted1 _) ?_
  unfold Builtin.«sorted»
  have hsz : ((s.heap.push (seqObj "list" #[] 0)).update s.heap.objs.size (Obj.mapSeq (· ++ us.toArray))).objs.size = s.heap.objs.size + 1 := (Heap.size_update ..).trans (size_push' ..)
  refine wpAny_bind (m := checkCount "sorted" 1 1 _) (wpAny_pure (wpAny_bind (col_tup ht hz (wpAny_bind (wpAny_newList ?_ hz)))))
  show wpAny _ _ _ _ _ { s with heap := copyHeap s.heap us }
  rw [hsz]
  refine wpAny_bind (wpAny_holding (wpAny_call_entry_kw slot_list_sort ⟨_, copyHeap_at s.heap us, rfl⟩ entry_list_sort ?_ (args_list_sort _)))
  show wpAny (model prog w) A.in1.in1 (Builtin.«list.sort» ⟨[.ref (s.heap.objs.size + 1)], []⟩) _ _ _
  exact list_sort_vals (s := { s with heap := copyHeap s.heap us }) (copyHeap_at s.heap us) S hz ⟨_, rfl, wpAny_pure ⟨_, rfl, q⟩⟩
theorem sorted_dataT {β : Type} {us : List Value} {bs : List β} {enc : β → PyData} {R : Value → β → Prop} {t : Addr} {Q : Value → Shared → Prop} (ht : IsTup s.heap t us.toArray) (e : EachIs R us bs) (er : EachIs (fun v b => ∃ as, Reads s.heap v (enc b) as) us bs)
    (hal : AllAlike (bs.map enc)) (hk : Sortable (bs.map enc)) (hz : bs.length ≤ sizeLine) (hu : ∀ b, b ∈ bs → A.units + 2 + (enc b).depth < cLine)
    (h : ∀ out, out.length = bs.length → EachIs R out (bs.mergeSort (dataLe false enc)) → Q (.ref (s.heap.objs.size + 1)) { s with heap := sortedAll s.heap us (List.toArray out) }) : wpAny (model prog w) A (call (.builtin "sorted") [.ref t]) Q E s := by
  have r2 : EachIs (fun v b => ∃ as, Reads (sortingHeap (copyHeap s.heap us) (s.heap.objs.size + 1) us) v (enc b) as) us bs := er.mono fun _ _ z => z.imp fun _ r => PyProof.Rows.Reads.keeps (fun _ _ => sorting_copy_old) r
  have S := SortsAt.data (prog := prog) (w := w) (A := A.in1.in1) (s := { s with heap := sortingHeap (copyHeap s.heap us) (s.heap.objs.size + 1) us }) (each_map (R := fun v d => ∃ as, Reads (sortingHeap (copyHeap s.heap us) (s.heap.objs.size + 1) us) v d as) enc r2) hal hk (bound_map hu)
  exact sorted_tup ht (e.length ▸ hz) S (h _ ((sortVals_length false rfl).trans e.length) (sortVals_data false e r2 hal))
end
def rSortDT (K : PySem.W.Frag) : List V → Hp → VK → Prop := fun vs H Q => ∃ (a : Addr) (k : Nat) (bs : List (V × D)), vs = [V.ref a] ∧ k ≤ 3 ∧ SqT K H a (bs.map (·.1)) ∧ (∀ b ∈ bs, lvl k b.2 = true ∧ Dp K H b.1 (toP (k + 1) b.2)) ∧
  ∀ (cs : List (V × D)) (p : Addr), cs.Perm bs → cs.map (·.2) = isort (ltD k) (bs.map (·.2)) → H p = none → Q (.ref p) (upd H p (.lst (cs.map (·.1))))
theorem cr_sortDT {X : Cx} (hu : X.A.units + 100 < cLine) : CallR X (.builtin "sorted") (rSortDT X.K) := by
  intro pins s σ H vs us Q I r h
  obtain ⟨a, k, bs, rfl, hk3, hs, hb, q⟩ := h
  obtain ⟨its, rv, hl, hz⟩ := I.tuple hs
  rw [Vals.ref1 r]
  have e1 := Vals_each rv
  have hlen : bs.length ≤ sizeLine := by rw [List.length_map] at hz; exact hz
  have hal : PySem.W.AllAlike (bs.map fun b => toP (k + 1) b.2) := fun d hd d' hd' => by
    obtain ⟨b, hb1, rfl⟩ := List.mem_map.mp hd
    obtain ⟨b', hb2, rfl⟩ := List.mem_map.mp hd'
    exact lvl_alike k _ _ (hb b hb1).1 (hb b' hb2).1
  have hsb : PySem.W.Sortable (bs.map fun b => toP (k + 1) b.2) := by
    cases k with
    | zero =>
      refine .inr fun d hd => ?_
      obtain ⟨b, hb1, rfl⟩ := List.mem_map.mp hd
      have := (hb b hb1).1
      cases hb2 : b.2 <;> rw [hb2] at this <;> simp [lvl] at this
      exact ⟨by simp [toP], fun xs => by simp [toP]⟩
    | succ k =>
      refine .inl fun d hd => ?_
      obtain ⟨b, hb1, rfl⟩ := List.mem_map.mp hd
      have := (hb b hb1).1
      cases hb2 : b.2 <;> rw [hb2] at this <;> simp [lvl] at this
      rename_i xs
      cases xs with
      | nil => simp at this
      | cons x xs => exact ⟨toP (k + 1) x, xs.map (toP (k + 1)), by simp only [toP, List.map_cons]⟩
  refine sorted_dataT (R := fun u (b : V × D) => RelV b.1 u) (enc := fun b => toP (k + 1) b.2) hl (EachIs_imp (fun _ _ h => h.2) e1) (EachIs_imp (fun u b h => Dp.reads I _ _ _ (hb b h.1).2 h.2) e1) hal hsb hlen (fun b hb1 => ?_) fun out ho eo => ?_
  · have := toP_depth (k + 1) b.2
    omega
  · have P1 : (bs.mergeSort (PySem.W.dataLe false fun b => toP (k + 1) b.2)).Perm bs := List.mergeSort_perm ..
    obtain ⟨ep, he'⟩ := PyProof.Rows.sortedAll_at s.heap its out.toArray
    have hlen2 : ((bs.mergeSort (PySem.W.dataLe false fun b => toP (k + 1) b.2)).map (·.1)).length ≤ sizeLine := by rw [List.length_map, P1.length_eq]; exact hlen
    have ev := EachIs_vals (fun _ _ h => h) eo
    exact ⟨.ref _, upd H (s.heap.objs.size + 1) (.lst ((bs.mergeSort (PySem.W.dataLe false fun b => toP (k + 1) b.2)).map (·.1))), I.laid (t' := s.toks) (fun _ _ => PyProof.Rows.sortedAll_old) (Nat.le_succ _) ⟨hlen2, out, ep, ev, he'⟩, rfl,
      q _ _ P1 (sort_is (fun b : V × D => b.2) bs fun b h => (hb b h).1) (I.hok.fresh (Nat.le_succ _))⟩
def sortTF : D → Option D
  | .tup xs => match lvlOf xs with
    | some k => some (.lst true (isort (ltD k) xs))
    | none => none
  | _ => none
theorem b_sortT {X : Cx} (hu : X.A.units + 100 < cLine) : ∃ r, CallR X (.builtin "sorted") r ∧ R1Snd X.K (fun x H Q => r [x] H Q) sortTF := by
  refine ⟨_, cr_sortDT hu, ?_⟩
  intro Fz H fp σ s T TV Fz2 H2 fp2 a x fa z Q e hl C g ra k
  unfold sortTF at e
  split at e
  · rename_i xs
    split at e
    · rename_i kk hk
      cases e
      obtain ⟨hall, hk3⟩ := lvlOf_all hk
      obtain ⟨p, vs, rfl, sq, rl⟩ := ra.tupl
      obtain ⟨bs, h1, h2, h3⟩ := rl.zipd
      have rep0 : ∀ b ∈ bs, Rep X.K Fz2 H2 b.2 b.1 [] := fun b hb => by
        obtain ⟨g, r, hg⟩ := h3 b hb
        cases g with
        | nil => exact r
        | cons y ys => exact absurd (hg y (List.mem_cons_self ..)) (by simp)
      have hl2 : ∀ b ∈ bs, lvl kk b.2 = true := fun b hb => by
        rw [List.all_eq_true] at hall
        exact hall _ (by rw [← h2]; exact List.mem_map.mpr ⟨b, hb, rfl⟩)
      refine ⟨p, kk, bs, rfl, hk3, by rw [h1]; exact .inl sq, fun b hb => ⟨hl2 b hb, Rep.dp _ (rep0 b hb) (lvl_shp kk _ (hl2 b hb))⟩, fun cs q hp he hq => ?_⟩
      rw [h2] at he
      rw [← he] at k
      exact fin_lst k hl C g (RepL.of_pairs fun c hc => rep0 c (hp.mem_iff.mp hc)) q hq
    · cases e
  · cases e
end Va
namespace Va
open PySem PySem.Spec PyProof.Rows L2
end Va
namespace Va
open PySem PySem.Spec PyProof.Rows L2
def mKeysV (i : Nat) : M (List D) := fun st => match st[i]? with
  | some (some (.dic true kvs)) => some (kvs.map Prod.fst, st.set i none)
  | _ => none
@[simp] theorem ev_mKeysV (i : Nat) (st : S) : mKeysV i st = (match st[i]? with | some (some (.dic true kvs)) => some (kvs.map Prod.fst, st.set i none) | _ => none) := rfl
end Va
namespace Va
open PySem PySem.Spec PyProof.Rows L2
end Va
namespace Va
open PySem PySem.Spec PyProof.Rows L2
end Va
namespace Va
open PySem PySem.Spec PyProof.Rows L2
end Va
namespace Va
open PySem PySem.Spec PyProof.Rows L2
end Va
namespace Va
open PySem PySem.Spec PyProof.Rows L2
end Va
namespace Va
open PySem PySem.Spec PyProof.Rows L2
end Va
namespace Va
open PySem PySem.Spec PyProof.Rows L2
end Va
namespace Va
open PySem PySem.Spec PyProof.Rows L2
def setK : List (D × D) → D → D → List (D × D)
  | [], _, _ => []
  | (a, z) :: r, k, y => match keyEq a k with
    | true => (a, y) :: r
    | false => (a, z) :: setK r k y
end Va
namespace Va
open PySem PySem.Spec PyProof.Rows L2
end Va
namespace Va
open PySem PySem.Spec PyProof.Rows L2
end Va
namespace Va
open PySem PySem.Spec PyProof.Rows L2
end Va
namespace Va
open PySem PySem.Spec PySem.Calls PyProof.Rows L2 PySem.W
end Va
namespace Va
open PySem PySem.Spec PyProof.Rows L2
end Va
namespace Va
open PySem PySem.Spec PyProof.Rows L2
section
variable {P : Program} {w : World} {K : PySem.W.Frag} {Fz : Addr → Prop} {H : Hp} {h : Heap}
mutual
theorem keyN_is (ok : HOk P w H h) : ∀ {d v f}, Rep K Fz H d v f → ∀ {kk}, keyN d = some kk → ∀ {u}, RelV v u → NestedIs h kk u
  | _, _, _, .non, _, e, _, _ => by simp [keyN] at e
  | _, _, _, .bl b, _, e, _, ru => by
    simp only [keyN, Option.some.injEq] at e
    obtain rfl := ru
    rw [← e]
    exact .bool rfl
  | _, _, _, .int i, _, e, _, ru => by
    simp only [keyN, Option.some.injEq] at e
    obtain ⟨t, rfl⟩ := ru
    rw [← e]
    exact .int i t
  | _, _, _, .str _, _, e, _, _ => by simp [keyN] at e
  | _, _, _, .tup (a := a) (xs := xs) (vs := vs) q z r, kk, e, u, ru => by
    simp only [keyN] at e
    cases hk : keysN xs with
    | none => rw [hk] at e; cases e
    | some ks =>
      rw [hk] at e
      cases e
      obtain rfl : u = Value.ref a := ru
      obtain ⟨_, its, rv, o, h1, h2, n, h3⟩ := (show ObjOk P w H h a (.tup vs) from by obtain ⟨o, q, _⟩ := q; exact (ok a _ q).2)
      exact .tup h1 h2 h3 (keysN_is ok r hk (by simpa using rv))
  | _, _, _, .rol _ _, _, e, _, _ => by simp [keyN] at e
  | _, _, _, .lstF _ _ _, _, e, _, _ => by simp [keyN] at e
  | _, _, _, .lstO _ _, _, e, _, _ => by simp [keyN] at e
  | _, _, _, .dicF _ _ _, _, e, _, _ => by simp [keyN] at e
  | _, _, _, .dicO _ _, _, e, _, _ => by simp [keyN] at e
  | _, _, _, .ndF _ _ _, _, e, _, _ => by simp [keyN] at e
  | _, _, _, .ndO _ _, _, e, _, _ => by simp [keyN] at e
  | _, _, _, .ldF _ _ _, _, e, _, _ => by simp [keyN] at e
theorem keysN_is (ok : HOk P w H h) : ∀ {xs vs f}, RepL K Fz H xs vs f → ∀ {ks}, keysN xs = some ks → ∀ {us}, Vals vs us → NestedAll h ks us
  | _, _, _, .nil, ks, e, us, rv => by
    simp only [keysN, Option.some.injEq] at e
    rw [← e]
    cases rv
    exact .nil
  | _, _, _, .cons (x := x) (xs := xs) r s, ks, e, us, rv => by
    simp only [keysN] at e
    cases hk : keyN x with
    | none => rw [hk] at e; cases e
    | some k =>
      rw [hk] at e
      dsimp only at e
      cases hks : keysN xs with
      | none => rw [hks] at e; cases e
      | some k2 =>
        rw [hks] at e
        cases e
        cases rv with
        | cons ru rt => exact .cons (keyN_is ok r hk ru) (keysN_is ok s hks rt)
end
mutual
theorem keyN_hash (w : World) : ∀ (d : D) {kk}, keyN d = some kk → kk.hash w = hashK kk
  | .int i, _, e => by
    simp only [keyN, Option.some.injEq] at e
    rw [← e]
    rfl
  | .tup xs, kk, e => by
    simp only [keyN] at e
    cases hk : keysN xs with
    | none => rw [hk] at e; cases e
    | some ks =>
      rw [hk] at e
      cases e
      show reduceHash (Builtin.Tuple.tupleHashOf (NestedKey.hashes w ks)) = reduceHash (Builtin.Tuple.tupleHashOf (hashesK ks))
      rw [keysN_hash w xs hk]
  | .non, _, e => by simp [keyN] at e
  | .bl b, _, e => by
    simp only [keyN, Option.some.injEq] at e
    rw [← e]
    rfl
  | .str _, _, e => by simp [keyN] at e
  | .rol _, _, e => by simp [keyN] at e
  | .lst _ _, _, e => by simp [keyN] at e
  | .dic _ _, _, e => by simp [keyN] at e
  | .nd _ _, _, e => by simp [keyN] at e
  | .ld _, _, e => by simp [keyN] at e
theorem keysN_hash (w : World) : ∀ (xs : List D) {ks}, keysN xs = some ks → NestedKey.hashes w ks = hashesK ks
  | [], _, e => by
    simp only [keysN, Option.some.injEq] at e
    rw [← e]
    rfl
  | x :: xs, ks, e => by
    simp only [keysN] at e
    cases hk : keyN x with
    | none => rw [hk] at e; cases e
    | some k =>
      rw [hk] at e
      dsimp only at e
      cases hks : keysN xs with
      | none => rw [hks] at e; cases e
      | some k2 =>
        rw [hks] at e
        cases e
        show k.hash w :: NestedKey.hashes w k2 = hashK k :: hashesK k2
        rw [keyN_hash w x hk, keysN_hash w xs hks]
end
theorem keyT_keyN {d : D} {kk : NestedKey} (e : keyT d = some kk) : keyN d = some kk ∧ kk.depth ≤ 8 := by
  cases d with
  | tup xs =>
    simp only [keyT] at e
    cases hk : keysN xs with
    | none => rw [hk] at e; cases e
    | some ks =>
      rw [hk] at e
      dsimp only at e
      split at e
      · rename_i hb
        cases e
        exact ⟨by simp [keyN, hk], Nat.le_of_ble_eq_true hb⟩
      · cases e
  | _ => simp [keyT] at e
theorem keyT_is (ok : HOk P w H h) {d : D} {b : Addr} {f} (r : Rep K Fz H d (.ref b) f) {kk : NestedKey} (e : keyT d = some kk) : (nestedKind P w).is h kk b :=
  ⟨keyN_is ok r (keyT_keyN e).1 (show RelV (.ref b) (.ref b) from rfl), (keyT_keyN e).2⟩
theorem keyT_hash (w : World) {d : D} {kk : NestedKey} (e : keyT d = some kk) : kk.hash w = hashK kk := keyN_hash w d (keyT_keyN e).1
theorem keyT_ref {d : D} {v : V} {f} (r : Rep K Fz H d v f) {kk : NestedKey} (e : keyT d = some kk) : ∃ b, v = .ref b ∧ H b ≠ none ∧ f = [] := by
  cases r with
  | tup q z r => exact ⟨_, rfl, q.some, rfl⟩
  | _ => simp [keyT] at e
abbrev RU : NestedKey × Addr × V → NestedKey × Addr × Value → Prop := fun p q => p.1 = q.1 ∧ p.2.1 = q.2.1 ∧ RelV p.2.2 q.2.2
abbrev PU : List (NestedKey × Addr × V) → List (NestedKey × Addr × Value) → Prop := Paired RU
/-- keys and their tuples, without the heap of values -/
theorem RepN.rows (ok : HOk P w H h) : ∀ {kvs xs f}, RepN K Fz H kvs xs f → ∀ {us}, PU xs us → (∀ x ∈ us, (nestedKind P w).is h x.1 x.2.1) ∧ us.map (fun x => (⟨hashK x.1, .ref x.2.1, x.2.2⟩ : DictEntry)) = us.map (entryOfKey (nestedKind P w))
  | _, _, _, .nil, us, p => by
    cases p
    exact ⟨fun _ hx => (nomatch hx), rfl⟩
  | _, _, _, .cons (kk := kk) (b := b) e rk r s, us, p => by
    cases p with
    | @cons _ q _ qs hq t =>
      obtain ⟨h1, h2⟩ := RepN.rows ok s t
      obtain ⟨e1, e2, e3⟩ := hq
      dsimp only at e1 e2
      have hk := keyT_is ok rk e
      refine ⟨fun x hx => ?_, ?_⟩
      · rcases List.mem_cons.mp hx with rfl | hx
        · rw [← e1, ← e2]; exact hk
        · exact h1 x hx
      · rw [List.map_cons, List.map_cons, h2]
        congr 1
        show (⟨hashK q.1, .ref q.2.1, q.2.2⟩ : DictEntry) = ⟨q.1.hash w, .ref q.2.1, q.2.2⟩
        rw [← e1, keyT_hash w e]
/-- the dict as the library's -/
theorem nd_of {a : Addr} (ok : HOk P w H h) {kvs xs f} (e : H a = some (.ext (NdRaw a xs))) (r : RepN K Fz H kvs xs f) : xs.length ≤ sizeLine ∧ (a == sysModules) = false ∧ ∃ us, PU xs us ∧ h.DictOfH (nestedKind P w) a us := by
  obtain ⟨⟨hz, hs, us, p, o, es, ep, h1, h2, h3, h4, h5⟩, _⟩ := (show ObjOk P w H h a (.ext (NdRaw a xs)) from ok a _ e)
  obtain ⟨k1, k2⟩ := r.rows ok p
  exact ⟨hz, hs, us, p, o, es, ep, h1, h2, h3, by rw [h4, k2], k1, h5⟩
theorem ndRaw_stays (a : Addr) (xs : List (NestedKey × Addr × V)) : ∀ h1 h2 : Heap, NdRaw a xs h1 → (∀ o, h1.get? a = some o → h2.get? a = some o) → NdRaw a xs h2 := fun h1 h2 ⟨hz, hs, us, p, o, es, ep, e, r⟩ k => ⟨hz, hs, us, p, o, es, ep, k _ e, r⟩
theorem ndRaw_new {a : Addr} {xs : List (NestedKey × Addr × V)} {us : List (NestedKey × Addr × Value)} (hz : xs.length ≤ sizeLine) (hs : (a == sysModules) = false) (p : PU xs us) (hw : ∀ x ∈ us, x.1.hash w = hashK x.1) (dd : h.DictOfH (nestedKind P w) a us) : ObjOk P w H h a (.ext (NdRaw a xs)) := by
  obtain ⟨o, es, ep, h1, h2, h3, h4, _, h5⟩ := dd
  refine ⟨⟨hz, hs, us, p, o, es, ep, h1, h2, h3, ?_, h5⟩, ⟨o, h1⟩, ndRaw_stays a xs⟩
  rw [h4]
  refine List.map_congr_left fun x hx => ?_
  show (⟨x.1.hash w, .ref x.2.1, x.2.2⟩ : DictEntry) = _
  rw [hw x hx]
end
def nkEq (a k : D) : Bool := match keyT a with
  | some x => match keyT k with
    | some y => NestedKey.beq x y
    | none => false
  | none => false
def lookN : List (D × D) → D → Option D
  | [], _ => none
  | (a, x) :: r, k => match nkEq a k with
    | true => some x
    | false => lookN r k
def swapN : List (D × D) → D → D → List (D × D)
  | [], _, _ => []
  | (a, y) :: r, k, x => match nkEq a k with
    | true => (a, x) :: swapN r k x
    | false => (a, y) :: swapN r k x
def putN (kvs : List (D × D)) (k x : D) : List (D × D) := match (lookN kvs k).isSome with
  | true => swapN kvs k x
  | false => kvs ++ [(k, x)]
def atV (xs : List (NestedKey × Addr × V)) (kk : NestedKey) : Option V := (xs.find? fun x => decide (x.1 = kk)).map (·.2.2)
section
variable {K : PySem.W.Frag} {Fz : Addr → Prop} {H : Hp}
theorem nkEq_iff {a k : D} {x y : NestedKey} (ha : keyT a = some x) (hk : keyT k = some y) : nkEq a k = decide (x = y) := by
  unfold nkEq
  rw [ha, hk]
  exact (NestedKey.decide_eq x y).symm
theorem RepN.look : ∀ {kvs xs f}, RepN K Fz H kvs xs f → ∀ {k kk}, keyT k = some kk → (lookN kvs k = none ∧ atV xs kk = none) ∨ ∃ x v f', lookN kvs k = some x ∧ atV xs kk = some v ∧ Rep K Fz H x v f' ∧ ∀ a ∈ f', a ∈ f
  | _, _, _, .nil, _, _, _ => .inl ⟨rfl, rfl⟩
  | _, _, _, .cons (k := a) (x := x) (kk := ka) (b := b) (v := v) (vs := vs) e rk r s, k, kk, hk => by
    have h := nkEq_iff e hk
    unfold lookN
    rw [h]
    by_cases q : ka = kk
    · rw [decide_eq_true q]
      refine .inr ⟨x, v, _, rfl, ?_, r, fun _ m => List.mem_append_left _ m⟩
      unfold atV
      rw [List.find?_cons, show decide (((ka, b, v) : NestedKey × Addr × V).1 = kk) = true from decide_eq_true q]
      rfl
    · rw [decide_eq_false q]
      have e2 : atV ((ka, b, v) :: vs) kk = atV vs kk := by
        unfold atV
        rw [List.find?_cons, show decide (((ka, b, v) : NestedKey × Addr × V).1 = kk) = false from decide_eq_false q]
      rw [e2]
      rcases RepN.look s hk with h1 | ⟨x', v', f', h1, h2, h3, h4⟩
      · exact .inl h1
      · exact .inr ⟨x', v', f', h1, h2, h3, fun a m => List.mem_append_right _ (h4 a m)⟩
theorem RepN.length : ∀ {kvs xs f}, RepN K Fz H kvs xs f → kvs.length = xs.length
  | _, _, _, .nil => rfl
  | _, _, _, .cons _ _ _ s => by simp [RepN.length s]
theorem PU.at : ∀ {xs us}, PU xs us → ∀ kk, RelO (atV xs kk) ((atKey us kk).map (·.2))
  | _, _, .nil, _ => True.intro
  | _, _, .cons (a := p) (b := q) (l₁ := ps) (l₂ := qs) hq t, kk => by
    obtain ⟨e1, e2, e3⟩ := hq
    unfold atV atKey
    rw [List.find?_cons, List.find?_cons, e1]
    cases c : decide (q.1 = kk)
    · exact PU.at t kk
    · exact e3
theorem PU.isSome {xs us} (p : PU xs us) (kk : NestedKey) : (atV xs kk).isSome = (atKey us kk).isSome := by
  have := (p.at kk).isSome_eq
  rw [Option.isSome_map] at this
  exact this
/-- a row is put in -/
def putRow (xs : List (NestedKey × Addr × V)) (kk : NestedKey) (b : Addr) (v : V) : List (NestedKey × Addr × V) :=
  if (atV xs kk).isSome = true then xs.map fun x => if x.1 = kk then (x.1, x.2.1, v) else x else xs ++ [(kk, b, v)]
theorem PU.put {xs us} (p : PU xs us) (kk : NestedKey) {b : Addr} {v : V} {u : Value} (r : RelV v u) : PU (putRow xs kk b v) (storedH us kk b u) := by
  unfold putRow storedH
  rw [p.isSome kk]
  by_cases c : (atKey us kk).isSome = true
  · rw [if_pos c, if_pos c]
    have : ∀ {xs us}, PU xs us → PU (xs.map fun x => if x.1 = kk then (x.1, x.2.1, v) else x) (us.map (putAt kk u)) := fun {xs us} p => by
      induction p with
      | nil => exact .nil
      | @cons p q ps qs hq t ih =>
        refine .cons ?_ ih
        obtain ⟨e1, e2, e3⟩ := hq
        unfold putAt
        dsimp only
        rw [e1]
        by_cases d : q.1 = kk
        · rw [if_pos d, if_pos d]; exact ⟨rfl, e2, r⟩
        · rw [if_neg d, if_neg d]; exact ⟨e1, e2, e3⟩
    exact this p
  · rw [if_neg c, if_neg c]
    exact Paired.snoc p ⟨rfl, rfl, r⟩
theorem putRow_len (xs : List (NestedKey × Addr × V)) (kk : NestedKey) (b : Addr) (v : V) : (putRow xs kk b v).length ≤ xs.length + 1 := by
  unfold putRow
  split
  · rw [List.length_map]; omega
  · rw [List.length_append, List.length_singleton]; omega
theorem RepN.app : ∀ {kvs ws f kvs2 ws2 g}, RepN K Fz H kvs ws f → RepN K Fz H kvs2 ws2 g → RepN K Fz H (kvs ++ kvs2) (ws ++ ws2) (f ++ g)
  | _, _, _, _, _, _, .nil, h => h
  | _, _, _, _, _, _, .cons e rk r s, h => by rw [List.append_assoc]; exact .cons e rk r (RepN.app s h)
theorem RepN.swap : ∀ {kvs xs f}, RepN K Fz H kvs xs f → ∀ {k kk x v}, keyT k = some kk → Rep K Fz H x v [] → ∃ h r, RepN K Fz H (swapN kvs k x) (xs.map fun y => if y.1 = kk then (y.1, y.2.1, v) else y) h ∧ (h ++ r).Perm f
  | _, _, _, .nil, _, _, _, _, _, _ => ⟨[], [], .nil, .refl _⟩
  | _, _, _, .cons (k := a) (kk := ka) (b := b) (v := v0) (f := f1) e rk r s, k, kk, x, v, hk, rx => by
    obtain ⟨h, r', rn, p⟩ := RepN.swap s hk rx
    unfold swapN
    rw [nkEq_iff e hk, List.map_cons]
    by_cases q : ka = kk
    · rw [decide_eq_true q, if_pos q]
      refine ⟨[] ++ h, r' ++ f1, .cons e rk rx rn, ?_⟩
      rw [List.nil_append, ← List.append_assoc]
      exact (p.append_right f1).trans List.perm_append_comm
    · rw [decide_eq_false q, if_neg q]
      refine ⟨f1 ++ h, r', .cons e rk r rn, ?_⟩
      rw [List.append_assoc]
      exact p.append_left f1
theorem RepN.put {kvs xs f} (h : RepN K Fz H kvs xs f) {k kk x v} {b : Addr} (hk : keyT k = some kk) (rk : Rep K Fz H k (.ref b) []) (rx : Rep K Fz H x v []) : ∃ h r, RepN K Fz H (putN kvs k x) (putRow xs kk b v) h ∧ (h ++ r).Perm f := by
  unfold putN putRow
  rcases h.look hk with ⟨h1, h2⟩ | ⟨x', v', f', h1, h2, _, _⟩
  · rw [h1, h2]
    exact ⟨f ++ ([] ++ []), [], h.app (.cons hk rk rx .nil), by simp⟩
  · rw [h1, h2]
    exact h.swap hk rx
theorem Rep.ndc {o kvs v f} (r : Rep K Fz H (.nd o kvs) v f) : ∃ a xs f', v = .ref a ∧ H a = some (.ext (NdRaw a xs)) ∧ RepN K Fz H kvs xs f' ∧ ∀ x ∈ f', x ∈ f := by
  cases r with
  | ndF q z r => exact ⟨_, _, _, rfl, q, r, fun _ h => nomatch h⟩
  | ndO q r => exact ⟨_, _, _, rfl, q, r, fun _ h => List.mem_cons_of_mem _ h⟩
end
section
variable {X : Cx} {pins : List (Addr × Obj)} {σ : L2.St} {H : Hp} {s : Shared} {A : Around} {E : Value → Shared → Prop}
/-- what a nested dict and a key are, in a reading -/
structure NdAt (K : PySem.W.Frag) (H : Hp) (x y : V) (kvs : List (D × D)) (k : D) (a b : Addr) (xs : List (NestedKey × Addr × V)) (kk : NestedKey) : Prop where
  ex : x = .ref a
  ey : y = .ref b
  ha : H a = some (.ext (NdRaw a xs))
  hk : keyT k = some kk
  rn : ∃ Fz f, RepN K Fz H kvs xs f
  rk : ∃ Fz f, Rep K Fz H k (.ref b) f
theorem nd_set {x y z : V} {u v r : Value} {kvs k a b xs kk} {Q : Unit → Shared → Prop} (hu : A.units + 20 < cLine) (I : Inv X pins σ H s) (N : NdAt X.K H x y kvs k a b xs kk) (hl : xs.length < sizeLine) (rx : RelV x u) (ry : RelV y v) (rz : RelV z r)
    (h : ∀ s', Inv X pins σ (upd H a (.ext (NdRaw a (putRow xs kk b z)))) s' → Q () s') : wpAny (model X.prog X.w) A (setItem u v r) Q E s := by
  obtain ⟨rfl, rfl, ha, hk, ⟨_, _, rn⟩, ⟨_, _, rk⟩⟩ := N
  obtain rfl : u = Value.ref a := rx
  obtain rfl : v = Value.ref b := ry
  obtain ⟨hz, hs, us, p, dd⟩ := nd_of I.hok ha rn
  have hz' : us.length ≤ sizeLine := by rw [← Paired.length p]; exact hz
  refine wpAny_setItem_heap (knd := nestedKind X.prog X.w) (hsz := hz') (show A.in1.units + 8 < cLine by rw [Around.in1_units]; omega) (keyT_is I.hok rk hk) dd fun h' dd' hsb => h _ ?_
  have he : ∃ q, h'.get? a = some q := let ⟨q, _, _, hq, _⟩ := dd'; ⟨q, hq⟩
  refine d_write I (by rw [ha]; exact True.intro) hsb he (ndRaw_new (by have := putRow_len xs kk b z; omega) hs (p.put kk rz) (fun t ht => ?_) dd')
  -- the keys' hashes
  have hold : ∀ t ∈ us, t.1.hash X.w = hashK t.1 := by
    have : ∀ {kvs xs f us} {Fz : Addr → Prop}, RepN X.K Fz H kvs xs f → PU xs us → ∀ t ∈ us, t.1.hash X.w = hashK t.1 := fun {kvs xs f us Fz} rn => by
      induction kvs generalizing xs f us with
      | nil =>
        intro p t ht
        cases rn
        cases p
        cases ht
      | cons c kvs ih =>
        intro p t ht
        cases rn with
        | cons e rk r s =>
          cases p with
          | cons hq tl =>
            rcases List.mem_cons.mp ht with rfl | ht
            · rw [← hq.1]; exact keyT_hash X.w e
            · exact ih s tl t ht
    exact this rn p
  unfold storedH at ht
  split at ht
  · obtain ⟨t0, h0, rfl⟩ := List.mem_map.mp ht
    unfold putAt
    split
    · exact hold t0 h0
    · exact hold t0 h0
  · rcases List.mem_append.mp ht with ht | ht
    · exact hold t ht
    · rw [List.mem_singleton.mp ht]
      exact keyT_hash X.w hk
end
end Va
namespace Va
open PySem PySem.Spec PyProof.Rows L2
section
variable {X : Cx} {o i : Expr} {pos : Pos} {td ty : TE}
def rSetN (K : PySem.W.Frag) : TSet := fun o i v H Q => ∃ kvs k a b xs kk, NdAt K H o i kvs k a b xs kk ∧ xs.length < sizeLine ∧ Q (upd H a (.ext (NdRaw a (putRow xs kk b v))))
theorem set_nd (hu : X.A.units + 20 < cLine) : PSet X (rSetN X.K) := by
  intro pins s σ H o i v ov iv u Q I ro ri rv h
  obtain ⟨kvs, k, a, b, xs, kk, N, hl, q⟩ := h
  exact nd_set hu I N hl ro ri rv fun s' I' => ⟨_, I', q⟩
theorem pe_dnewN : PE X (.Dict [] [] pos) (fun _ H Q => ∀ p, H p = none → Q (.ref p) (upd H p (.ext (NdRaw p [])))) := ⟨fun pins s σ H Q I h =>
  wpAny_Dict_empty ⟨.ref s.heap.objs.size, _, I.laid (a := s.heap.objs.size) (o := .ext (NdRaw s.heap.objs.size [])) (t' := s.toks) (fun _ _ q => Heap.get?_push_of_some _ q) (Nat.le_refl _)
    (ndRaw_new (us := []) (Nat.zero_le _) (beq_eq_false_iff_ne.mpr (Ne.symm (Nat.ne_of_lt I.big))) .nil (fun _ hx => (nomatch hx)) ⟨_, #[], 0, Heap.get?_push_size _ rfl, ⟨rfl, rfl, rfl⟩, rfl, rfl, fun _ hx => (nomatch hx), List.nodup_nil⟩), rfl, h _ (I.hok.fresh (Nat.le_refl _))⟩⟩
end
def storeAtN (i : Nat) (k d : D) (s : S) : Option S := match s[i]? with
  | some (some (.nd true kvs)) => match keyT k with
    | some _ => match imm d && Nat.blt kvs.length LN with
      | true => some (s.set i (some (.nd true (putN kvs k d))))
      | false => none
    | none => none
  | _ => none
def mStoreN (i : Nat) (mk mv : M D) : M Fl := fun st => match mv st with
  | some (d, s1) => match isBox i s1 with
    | true => match mk s1 with
      | some (k, s2) => match storeAtN i k d s2 with
        | some s3 => some (.nx, s3)
        | none => none
      | none => none
    | false => none
  | none => none
def mDictN : M D := fun st => some (.nd true [], st)
section
variable {K : PySem.W.Frag} {Fz : Addr → Prop} {H : Hp} {s : S} {σ : L2.St} {fp : List Addr}
theorem Cfg.partsN {xs : List (D × D)} {D0 : Addr} (C : Cfg K Fz H (some (.nd true xs) :: s) (some (.ref D0) :: σ) fp) : ∃ acc f g, H D0 = some (.ext (NdRaw D0 acc)) ∧ RepN K Fz H xs acc f ∧ RepS K Fz H s σ g ∧ fp = D0 :: f ++ g ∧ D0 ∉ f ∧ D0 ∉ g ∧ (f ++ g).Nodup ∧ ¬ Fz D0 ∧ (∀ a ∈ f ++ g, ¬ Fz a) := by
  obtain ⟨R, nd, fz, ft⟩ := C
  cases R with
  | @cons _ _ f1 g _ _ r rs =>
    cases r with
    | som r =>
      cases r with
      | @ndO _ _ acc f q rl =>
        have h1 := List.nodup_cons.mp (show (D0 :: (f ++ g)).Nodup from nd)
        exact ⟨acc, f, g, q, rl, rs, rfl, fun h => h1.1 (List.mem_append_left _ h), fun h => h1.1 (List.mem_append_right _ h), h1.2, fz D0 (List.mem_cons_self ..), fun a h => fz a (List.mem_cons_of_mem _ h)⟩
/-- d[k] = v at the front -/
theorem Cfg.putKeyN {xs : List (D × D)} {D0 b : Addr} {k x : D} {kk : NestedKey} {w : V} (C : Cfg K Fz H (some (.nd true xs) :: s) (some (.ref D0) :: σ) fp) (hk : keyT k = some kk) (rk0 : Rep K Fz H k (.ref b) []) (rx : Rep K Fz H x w []) : ∃ acc f0, H D0 = some (.ext (NdRaw D0 acc)) ∧ RepN K Fz H xs acc f0 ∧ acc.length = xs.length ∧
    ∃ fp', Cfg K Fz (upd H D0 (.ext (NdRaw D0 (putRow acc kk b w)))) (some (.nd true (putN xs k x)) :: s) (some (.ref D0) :: σ) fp' ∧ Go Fz H fp Fz (upd H D0 (.ext (NdRaw D0 (putRow acc kk b w)))) fp' := by
  obtain ⟨acc, f, g, q, rl, rs, rfl, n1, n2, nd, z0, zf⟩ := C.partsN
  obtain ⟨h, r, rk, p⟩ := rl.put hk rk0 rx
  have nh : ∀ a ∈ h, a ≠ D0 := fun a ha e => n1 (e ▸ p.mem_iff.mp (List.mem_append_left _ ha))
  have kb : ∀ {c u}, c ≠ D0 → H c = some u → upd H D0 (.ext (NdRaw D0 (putRow acc kk b w))) c = some u := fun {c u} hb e => by rw [upd_ne hb]; exact e
  have kz : ∀ a u, Fz a → H a = some u → upd H D0 (.ext (NdRaw D0 (putRow acc kk b w))) a = some u := fun a u z e => kb (fun ea => z0 (ea ▸ z)) e
  obtain ⟨fp', C', G'⟩ := Cfg.wrote (o := .ext (NdRaw D0 (putRow acc kk b w))) (P' := [some (.nd true (putN xs k x))]) (PV' := [some (.ref D0)]) C.ft (by rw [q]; exact Option.some_ne_none _) rs n1 n2 nd z0 zf
    (RepS.cons (.som (.ndO upd_same (rk.keep (fun _ h => h) kz fun a u h e => kb (nh a h) e))) .nil) (r := r) (by simpa using p.cons D0)
  exact ⟨acc, f, q, rl, rl.length.symm, fp', C', G'⟩
end
section
variable {Γ : Gam} {Φ : GCx → Prop} {RO : Nat → Bool}
theorem se_dictN {pos : Pos} : SE Γ Φ (.Dict [] [] pos) mDictN := fun X o => pe_imp pe_dnewN fun σ H Q q => by
  obtain ⟨Fz, fp, st, C, d, st', e, k⟩ := q
  cases e
  intro p hp
  exact fin_new (T := []) (TV := []) (f3 := [p]) (Fz3 := Fz) k rfl C .refl hp (.inl ⟨rfl, rfl⟩) (.ndO upd_same .nil)
theorem s_storeN (i : Nat) {x : Str} {ek ev : Expr} {mk mv : M D} {p p2 pos : Pos} (hv : SE Γ Φ ev mv) (hk : SE Γ Φ ek mk) (hN : Γ.N[i]? = some x := by rfl) (hvis : gVis Γ.sc x = true := by rfl) (hd : (x == ("__debug__" : Str)) = false := by decide) (hcd : (x == ("__classdict__" : Str)) = false := by decide)
    (hs : ∀ env : Env, swapsWithSole [.Subscript (.Name x p) ek p2] ev pos.line env = pure false := by intro _; rfl) (hw : ∀ env : Env, swappedStores [.Subscript (.Name x p) ek p2] ev env = pure none := by intro _; rfl) (h1 : ∀ env : Env, (assignEach [.Subscript (.Name x p) ek p2] env).map (·.2) = [assign (.Subscript (.Name x p) ek p2) env] := by intro _; rfl)
    (ha : ∀ (env : Env) v, assign (.Subscript (.Name x p) ek p2) env v = (do
      let ov ← holding [v] (eval (.Name x p) env)
      let iv ← holding [v, ov] (eval ek env)
      standAt p2
      holding [v, ov, iv] (setItem ov iv v)
      release [v, ov, iv] []) := by intro _ _; rfl) :
    ST1 Γ Φ RO (.Assign [.Subscript (.Name x p) ek p2] ev pos) (mStoreN i mk mv) := fun X o hp =>
  ps_imp (ps_asg (hv X o) (pg_sub (pe_var (o.slot hN) (o.vis hvis) hd hcd) (hk X o) (set_nd (by have := o.hu; omega)) (ha _)) (hs _) (hw _) (h1 _)) fun D' σ H q => by
    obtain ⟨Fz, fp, st, C, fl, st', e, kk⟩ := q
    unfold mStoreN at e
    split at e
    · rename_i d s1 hm
      split at e
      · rename_i hbx
        split at e
        · rename_i k s2 hm2
          split at e
          · rename_i s3 h3
            cases e
            refine ⟨Fz, fp, st, C, _, _, hm, fun v H1 Fz1 fp1 C1 g1 => ?_⟩
            obtain ⟨w, hw⟩ : ∃ w : V, σ[i]? = some (some w) := by
              unfold isBox at hbx
              split at hbx
              · rename_i dd hdd
                obtain ⟨f, C2, _⟩ := C1.drop
                obtain ⟨w, _, e, _⟩ := C2.get hdd
                exact ⟨w, e⟩
              · cases hbx
            refine ⟨w, hw, ?_⟩
            refine rd.run (P := [some d]) (PV := [some v]) C1 rfl hm2 fun u H2 Fz2 fp2 C2 g2 => ?_
            obtain ⟨u', fu, eu, ru, _⟩ := C2.head
            cases eu
            obtain ⟨fc, Cc, hc⟩ := C2.drop
            have Cc : Cfg X.K Fz2 H2 (some d :: s2) (some v :: σ) fc := Cc
            have G := (g1.trans g2).sub hc
            unfold storeAtN at h3
            split at h3
            · rename_i kvs hx
              split at h3
              · rename_i key hkey
                split at h3
                · rename_i hi
                  cases h3
                  simp only [Bool.and_eq_true] at hi
                  obtain ⟨b0, rfl, _, rfl⟩ := keyT_ref ru hkey
                  obtain ⟨w', f4, ew, C4, h4⟩ := Cfg.takeP (P := [some d]) (PV := [some v]) (s := s2) (σ := σ) rfl Cc hx rfl
                  rw [hw] at ew
                  cases ew
                  obtain ⟨fdr, Cdr, _⟩ := Cc.drop
                  obtain ⟨v0, f0, e0, r0, _⟩ := Cdr.get hx
                  rw [hw] at e0
                  cases e0
                  obtain ⟨a, ws, f', rfl, q0, _, _⟩ := r0.ndc
                  obtain ⟨v1, f1, e1, r1, _⟩ := Cc.head
                  cases e1
                  have hf1 := r1.imm hi.1
                  subst hf1
                  obtain ⟨f4', C4', h4'⟩ := Cfg.drop (Cfg.float (P := [some (.nd true kvs)]) (PV := [some (.ref a)]) (x := some d) (y := some v) rfl C4).choose_spec.1
                  have p4 := (Cfg.float (P := [some (.nd true kvs)]) (PV := [some (.ref a)]) (x := some d) (y := some v) rfl C4).choose_spec.2
                  obtain ⟨acc, fa, hacc, rna, hla, f5, C5, g5⟩ := Cfg.putKeyN C4' hkey ru r1
                  · obtain ⟨f6, C6, h6⟩ := Cfg.putback (P := []) (PV := []) (st := s2.set i none) (σ := σ) (i := i) rfl C5 hw
                    have C6 : Cfg X.K Fz2 _ ((s2.set i none).set i (some (.nd true (putN kvs k d)))) σ f6 := C6
                    rw [set_set_none] at C6
                    refine ⟨kvs, k, a, b0, acc, key, ⟨rfl, rfl, hacc, hkey, ⟨_, _, rna⟩, ⟨_, _, ru⟩⟩, by rw [hla, ← LN_eq]; exact Nat.blt_eq.mp hi.2, ?_⟩
                    exact kk σ _ Fz2 f6 (fun _ _ => rfl) (G.trans (((g5.frame (fun b hb => h4' b hb) fun b hb => .inl hb).frame (fun b hb => h4 b (p4.mem_iff.mp hb)) fun b hb => .inl hb).sub h6)) C6
                · cases h3
              · cases h3
            · cases h3
          · cases e
        · cases e
      · cases e
    · cases e
end
end Va
namespace Va
open PySem PySem.Spec PySem.Calls PyProof.Rows L2 PySem.W
section
variable {P : Program} {w : World}
/-- keys made of ints and tuples alone -/
def numK : NestedKey → Bool
  | .num _ => true
  | .tup ks => numsK ks
  | _ => false
where numsK : List NestedKey → Bool
  | [] => true
  | k :: ks => numK k && numsK ks
end
end Va
namespace Va
open PySem PySem.Spec PySem.Calls PyProof.Rows L2 PySem.W
/-- each slot begins a run of any way, soon enough -/
def Whole (m : Nat) : Prop := ∀ (h : Int) (j : Nat), j ≤ m → ∃ r, r ≤ m + 12 ∧ runI m (SetTable.bits h) r = j
/-- the masks up to 2047 -/
structure MaskW (m : Nat) : Prop where
  whole : Whole m
  odd : m % 2 = 1
  top : m ≤ 2047
  is : m = 7 ∨ m = 31 ∨ m = 127 ∨ m = 511 ∨ m = 2047
/-- a table in which each member is found again -/
structure TabW (t : SetTable) (zs : List Int) : Prop where
  up : Ris t.place.toList
  bare : t.dummies = #[]
  many : t.place.size = zs.length
  mask : MaskW t.mask
  low : ∀ x ∈ t.place.toList, x ≤ t.mask
  met : ∀ (i : Nat) (z : Int) (j : Nat), zs[i]? = some z → t.place.toList[i]? = some j → ∃ k, way t.mask z k = j ∧ ∀ c, c < k → way t.mask z c ∈ t.place.toList
theorem TabW.free {t : SetTable} {zs : List Int} (T : TabW t zs) (room : zs.length ≤ t.mask) (z : Int) : ∃ K, K < 10 * SetTable.turns t.mask ∧ way t.mask z K ∉ t.place.toList ∧ ∀ c, c < K → way t.mask z c ∈ t.place.toList := by
  obtain ⟨j, j1, j2⟩ := st_missing t.place.toList (t.mask + 1) (by rw [Array.length_toList, T.many]; omega)
  obtain ⟨r, r1, r2⟩ := T.mask.whole z j (by omega)
  obtain ⟨k, k1, k2⟩ := run_nth t.mask (SetTable.bits z) r
  have hway : way t.mask z k = j := by
    show (nth t.mask _ k).j = j
    rw [k2]
    exact r2
  obtain ⟨K, a, b, c⟩ := st_least (p := fun q => way t.mask z q ∉ t.place.toList) k (show way t.mask z k ∉ t.place.toList by rw [hway]; exact j2)
  refine ⟨K, ?_, b, fun q hq => Classical.byContradiction fun n => c q hq n⟩
  have : 10 * SetTable.turns t.mask = 10 * (t.mask + 15) := rfl
  omega
/-- at b stands the nested tuple k -/
structure IsN (P : Program) (w : World) (h : Heap) (k : NestedKey) (b : Addr) : Prop where
  key : (nestedKind P w).is h k b
  num : numK k = true
section
variable {P : Program} {w : World}
theorem IsN.at {h h' : Heap} {k : NestedKey} {b : Addr} (x : IsN P w h k b) (hk : ∀ c o vs n, h.get? c = some o → o.data = .seq vs n → h'.get? c = some o) : IsN P w h' k b := ⟨nestedKind_stays.stays hk x.key, x.num⟩
theorem IsN.keep {h h' : Heap} {k : NestedKey} {b : Addr} (x : IsN P w h k b) (hk : ∀ c o, h.get? c = some o → h'.get? c = some o) : IsN P w h' k b := x.at fun c o _ _ e _ => hk c o e
abbrev Mem := List (Addr × NestedKey)
def rowN (w : World) (L : Mem) : List (Int × Value) := L.map fun p => (p.2.hash w, Value.ref p.1)
/-- the set at a holds L -/
structure SetN (P : Program) (w : World) (h : Heap) (a : Addr) (L : Mem) (es : Array (Int × Value)) (ep : Nat) (t : SetTable) : Prop where
  ob : ∃ o, h.get? a = some o ∧ o.ExactSet ∧ o.data = .set es ep t
  rows : es.toList = rowN w L
  tab : TabW t (L.map fun p => p.2.hash w)
  nd : (L.map (·.2)).Nodup
  key : ∀ p ∈ L, IsN P w h p.2 p.1
  plain : t.plain = true
  led : w.params.followText "set-order" = true ∨ t.led = true
  room : L.length * 5 < t.mask * 3
variable {A : Around} {E : Value → Shared → Prop} {s : Shared} {a : Addr} {L : Mem} {es : Array (Int × Value)} {ep : Nat} {t : SetTable}
theorem SetN.size (R : SetN P w s.heap a L es ep t) : es.size = L.length := by
  have h := congrArg List.length R.rows
  simpa [rowN] using h
theorem SetN.whole (R : SetN P w s.heap a L es ep t) : ¬ t.gaveWay = true := by
  unfold SetTable.gaveWay
  rw [R.tab.mask.odd]
  decide
end
end Va
namespace Va
open PySem PySem.Spec PySem.Calls PyProof.Rows L2 PySem.W
end Va
namespace Va
open PySem PySem.Spec PySem.Calls PyProof.Rows L2 PySem.W
section
variable {P : Program} {w : World} {A : Around} {E : Value → Shared → Prop} {s : Shared}
theorem SetN.keep {h h' : Heap} {a : Addr} {L : Mem} {es : Array (Int × Value)} {ep : Nat} {t : SetTable} (R : SetN P w h a L es ep t) (ha : ∀ o, h.get? a = some o → h'.get? a = some o) (hk : ∀ p ∈ L, IsN P w h' p.2 p.1) : SetN P w h' a L es ep t :=
  let ⟨o, ho, r⟩ := R.ob
  ⟨⟨o, ha o ho, r⟩, R.rows, R.tab, R.nd, hk, R.plain, R.led, R.room⟩
end
end Va
namespace Va
open PySem PySem.Spec PySem.Calls PyProof.Rows L2 PySem.W
theorem each_map1 {α γ : Type} {R : γ → α → Prop} (f : α → γ) : ∀ {l : List α}, (∀ a ∈ l, R (f a) a) → EachIs R (l.map f) l
  | [], _ => .nil
  | a :: l, h => .cons (h a (List.mem_cons_self ..)) (each_map1 f fun b hb => h b (List.mem_cons_of_mem _ hb))
theorem each_eq {α γ : Type} {f : α → γ} : ∀ {l : List γ} {m : List α}, EachIs (fun u q => u = f q) l m → l = m.map f
  | _, _, .nil => rfl
  | _, _, .cons h t => by rw [h, each_eq t]; rfl
end Va
namespace Va
open PySem PySem.Spec PySem.Calls PyProof.Rows L2 PySem.W
section
variable {P : Program} {w : World} {K : PySem.W.Frag} {Fz : Addr → Prop} {H : Hp} {h : Heap}
mutual
theorem reads_lvl (ok : HOk P w H h) : ∀ {d v f}, Rep K Fz H d v f → ∀ {k}, lvl k d = true → ∀ {u}, RelV v u → Reads h u (toP (k + 1) d) []
  | _, _, _, .non, k, e, _, _ => by cases k <;> simp [lvl] at e
  | _, _, _, .bl _, k, e, _, _ => by cases k <;> simp [lvl] at e
  | _, _, _, .int i, 0, e, _, ru => by
    obtain ⟨t, rfl⟩ := ru
    simp only [toP]
    exact .int i t
  | _, _, _, .int i, _ + 1, e, _, _ => by simp [lvl] at e
  | _, _, _, .str _, k, e, _, _ => by cases k <;> simp [lvl] at e
  | _, _, _, .tup _ _ _, 0, e, _, _ => by simp [lvl] at e
  | _, _, _, .tup (a := a) (xs := xs) (vs := vs) q z r, k + 1, e, u, ru => by
    have e : xs.all (lvl k) = true := by simp [lvl] at e; simpa using e.2
    obtain rfl : u = Value.ref a := ru
    obtain ⟨_, its, rv, o, h1, h2, n, h3⟩ := (show ObjOk P w H h a (.tup vs) from by obtain ⟨o, q, _⟩ := q; exact (ok a _ q).2)
    simp only [toP]
    exact .tuple h1 h2 h3 (reads_lvls ok r e (by simpa using rv))
  | _, _, _, .rol _ _, k, e, _, _ => by cases k <;> simp [lvl] at e
  | _, _, _, .lstF _ _ _, k, e, _, _ => by cases k <;> simp [lvl] at e
  | _, _, _, .lstO _ _, k, e, _, _ => by cases k <;> simp [lvl] at e
  | _, _, _, .dicF _ _ _, k, e, _, _ => by cases k <;> simp [lvl] at e
  | _, _, _, .dicO _ _, k, e, _, _ => by cases k <;> simp [lvl] at e
  | _, _, _, .ndF _ _ _, k, e, _, _ => by cases k <;> simp [lvl] at e
  | _, _, _, .ndO _ _, k, e, _, _ => by cases k <;> simp [lvl] at e
  | _, _, _, .ldF _ _ _, k, e, _, _ => by cases k <;> simp [lvl] at e
theorem reads_lvls (ok : HOk P w H h) : ∀ {xs vs f}, RepL K Fz H xs vs f → ∀ {k}, xs.all (lvl k) = true → ∀ {us}, Vals vs us → ReadsAll h us (xs.map (toP (k + 1))) []
  | _, _, _, .nil, k, e, us, rv => by
    cases rv
    exact .nil
  | _, _, _, .cons (x := x) (xs := xs) r s, k, e, us, rv => by
    simp only [List.all_cons, Bool.and_eq_true] at e
    cases rv with
    | cons ru rt => exact .cons (as := []) (bs := []) (reads_lvl ok r e.1 ru) (reads_lvls ok s e.2 rt)
end
end
end Va
namespace Va
open PySem PySem.Spec PySem.Calls PyProof.Rows L2 PySem.W
end Va
namespace Va
open PySem PySem.Spec PyProof.Rows L2
def tDispN (K : PySem.W.Frag) (tk tv : TE) : TE := fun σ H Q => ∀ p, H p = none → tk σ (upd H p (.ext (NdRaw p []))) fun x H1 => tv σ H1 fun y H2 => H2 p = some (.ext (NdRaw p [])) ∧ ∃ k b kk, x = .ref b ∧ keyT k = some kk ∧ (∃ Fz f, Rep K Fz H2 k (.ref b) f) ∧ Q (.ref p) (upd H2 p (.ext (NdRaw p [(kk, b, y)])))
theorem pe_dispN {X : Cx} {pos : Pos} {ek ev : Expr} {tk tv : TE} (hu : X.A.units + 20 < cLine) (hk : PE X ek tk) (hv : PE X ev tv) : PE X (.Dict [some ek] [ev] pos) (tDispN X.K tk tv) := by
  refine ⟨fun pins s σ H Q I q => ?_⟩
  have hn := I.hok.fresh (Nat.le_refl s.heap.objs.size)
  have lo : (s.heap.objs.size == sysModules) = false := beq_eq_false_iff_ne.mpr (Ne.symm (Nat.ne_of_lt I.big))
  have I1 := I.laid (a := s.heap.objs.size) (o := .ext (NdRaw s.heap.objs.size [])) (h' := s.heap.push { cls := .type "dict", data := .dict #[] }) (t' := s.toks) (fun _ _ q => Heap.get?_push_of_some _ q) (Nat.le_refl _)
    (ndRaw_new (us := []) (Nat.zero_le _) lo .nil (fun _ hx => (nomatch hx)) ⟨_, #[], 0, Heap.get?_push_size _ rfl, ⟨rfl, rfl, rfl⟩, rfl, rfl, fun _ hx => (nomatch hx), List.nodup_nil⟩)
  have hne : pairTrees [some ek] [ev] X.env pos ≠ [] := by
    intro e
    cases e
  rw [arm_eval_Dict, zip_pairTrees [some ek] [ev] X.env pos rfl rfl, dictDisplay_pairs _ hne (by show (1 : Nat) < 17; omega)]
  refine wpAny_bind (wpAny_standAt (wpAny_bind (wpAny_subDictH (knd := nestedKind X.prog X.w) (show X.A.units + 8 < cLine by omega) (by show (1 : Nat) ≤ 15; omega) ?_)))
  refine pairTrees_cons_walk (thn (hk.run pins _ σ _ _ I1 (q _ hn)) fun u s1 ⟨x, H1, I2, r1, q1⟩ => thn (hv.run pins s1 σ H1 _ I2 q1) fun v s2 ⟨y, H2, I3, r2, hp, k, b, kk, ex, hkk, ⟨Fz, f, rk⟩, q2⟩ => pairTrees_nil_walk ?_)
  subst ex
  obtain rfl : u = Value.ref b := r1
  obtain ⟨hz, hs, us, p, dd⟩ := nd_of (kvs := []) (K := X.K) (Fz := Fz) (f := []) I3.hok hp .nil
  cases p
  refine ⟨[(kk, b, v)], ⟨rfl, rfl, keyT_is I3.hok rk hkk, True.intro⟩, dd, fun h' tk' dd' hsb => wpAny_pure ⟨.ref s.heap.objs.size, _, ?_, rfl, q2⟩⟩
  have dd' : h'.DictOfH (nestedKind X.prog X.w) s.heap.objs.size [(kk, b, v)] := dd'
  have he : ∃ q, h'.get? s.heap.objs.size = some q := let ⟨q, _, _, hq, _⟩ := dd'; ⟨q, hq⟩
  refine d_write I3 (by rw [hp]; exact True.intro) hsb he (ndRaw_new (us := [(kk, b, v)]) (by rw [sizeLine_eq]; exact Nat.le_of_ble_eq_true rfl) lo (.cons ⟨rfl, rfl, r2⟩ .nil) (fun t ht => ?_) dd')
  rw [List.mem_singleton.mp ht]
  exact keyT_hash X.w hkk
def mDictN1 (mk mv : M D) : M D := fun st => match mk st with
  | some (k, s) => match mv s with
    | some (v, s') => match keyT k with
      | some _ => match imm v with
        | true => some (.nd true [(k, v)], s')
        | false => none
      | none => none
    | none => none
  | none => none
section
variable {Γ : Gam} {Φ : GCx → Prop}
theorem se_dictN1 {pos : Pos} {ek ev : Expr} {mk mv : M D} (hk : SE Γ Φ ek mk) (hv : SE Γ Φ ev mv) : SE Γ Φ (.Dict [some ek] [ev] pos) (mDictN1 mk mv) := fun X o =>
  pe_imp (pe_dispN (by have := o.hu; omega) (hk X o) (hv X o)) fun σ H Q q => by
    obtain ⟨Fz, fp, st, C, d, st', e, k⟩ := q
    unfold mDictN1 at e
    split at e
    · rename_i kd s hm
      split at e
      · rename_i vd s' hm'
        split at e
        · rename_i kk hkk
          split at e
          · rename_i hi
            cases e
            intro p hp
            have C0 : Cfg X.K Fz (upd H p (.ext (NdRaw p []))) (some (.nd true []) :: st) (some (.ref p) :: σ) (p :: fp) ∧ Go Fz H fp Fz (upd H p (.ext (NdRaw p []))) (p :: fp) := by
              have kk2 : ∀ {a u}, H a = some u → upd H p (.ext (NdRaw p [])) a = some u := fun {a u} e => by rw [upd_ne (ne_of_none e hp)]; exact e
              refine ⟨⟨RepS.cons (f := [p]) (.som (.ndO upd_same .nil)) (C.rep.keep (fun _ h => h) (fun _ _ _ e => kk2 e) fun _ _ _ e => kk2 e), List.nodup_cons.mpr ⟨fun h => C.there p h hp, C.nd⟩, fun a h z => ?_, fun a z e => ?_⟩, ⟨fun a u e _ => kk2 e, fun a e => ?_, fun _ h => h, fun _ h => .inl h, fun a h => ?_⟩⟩
              · rcases List.mem_cons.mp h with h | h
                · rw [h] at z; exact C.ft p z hp
                · exact C.fz a h z
              · by_cases ea : a = p
                · rw [ea] at z; exact C.ft p z hp
                · rw [upd_ne ea] at e; exact C.ft a z e
              · by_cases ea : a = p
                · rw [ea]; exact hp
                · rw [upd_ne ea] at e; exact e
              · rcases List.mem_cons.mp h with h | h
                · rw [h]; exact .inr hp
                · exact .inl h
            obtain ⟨C0, g0⟩ := C0
            refine rd.run (P := [some (.nd true [])]) (PV := [some (.ref p)]) C0 rfl hm fun x H1 Fz1 fp1 C1 g1 => ?_
            refine rd.run (P := [some kd, some (.nd true [])]) (PV := [some x, some (.ref p)]) C1 rfl hm' fun y H2 Fz2 fp2 C2 g2 => ?_
            obtain ⟨y', fy, ey, ry, _⟩ := C2.head
            cases ey
            have := ry.imm hi
            subst this
            obtain ⟨f3, C3, h3⟩ := C2.drop
            have C3 : Cfg X.K Fz2 H2 (some kd :: (some (.nd true []) :: st')) (some x :: (some (.ref p) :: σ)) f3 := C3
            obtain ⟨x', fx, ex, rx, _⟩ := C3.head
            cases ex
            obtain ⟨b0, rfl, _, rfl⟩ := keyT_ref rx hkk
            obtain ⟨f4, C4, h4⟩ := C3.drop
            have C4 : Cfg X.K Fz2 H2 (some (.nd true []) :: st') (some (.ref p) :: σ) f4 := C4
            have hp2 : H2 p = some (.ext (NdRaw p [])) := by
              obtain ⟨acc, f, g, q, rl, _⟩ := C4.partsN
              cases rl
              exact q
            obtain ⟨acc, fa, hacc, rna, _, f5, C5, g5⟩ := Cfg.putKeyN C4 hkk rx ry
            cases rna
            refine ⟨hp2, kd, b0, kk, rfl, hkk, ⟨_, _, rx⟩, ?_⟩
            exact k (.ref p) _ Fz2 f5 C5 (((g0.trans g1).trans g2).trans (g5.frame (fun b hb => h3 b (h4 b hb)) fun b hb => .inl hb))
          · cases e
        · cases e
      · cases e
    · cases e
end
end Va
namespace Va
open PySem PySem.Spec PyProof.Rows L2
end Va
namespace Va
open PySem PySem.Spec PyProof.Rows L2
end Va
namespace Va
open PySem PySem.Spec PySem.Calls PyProof.Rows L2 PySem.W
end Va
namespace Va
open PySem PySem.Spec PyProof.Rows L2
end Va
namespace Va
open PySem PySem.Spec PyProof.Rows L2
def xForL (t : Tgt) (b : M Fl) (x : MX) : List D → MX
  | [] => fun _ => none
  | d :: ds => fun st => match asgT t d st with
    | some s => match x s with
      | some c => some c
      | none => match b s with
        | some (.nx, s') => xForL t b x ds s'
        | _ => none
    | none => none
def xFor (mi : M (List D)) (t : Tgt) (b : M Fl) (x : MX) : MX := fun st => match mi st with
  | some (ds, s) => xForL t b x ds s
  | none => none
@[simp] theorem ev_xFor (mi : M (List D)) (t : Tgt) (b : M Fl) (x : MX) (st : S) : xFor mi t b x st = (match mi st with
  | some (ds, s) => xForL t b x ds s
  | none => none) := rfl
@[simp] theorem ev_xForL (t : Tgt) (b : M Fl) (x : MX) (d : D) (ds : List D) (st : S) : xForL t b x (d :: ds) st = (match asgT t d st with
    | some s => match x s with
      | some c => some c
      | none => match b s with
        | some (.nx, s') => xForL t b x ds s'
        | _ => none
    | none => none) := rfl
@[simp] theorem ev_xForN (t : Tgt) (b : M Fl) (x : MX) (st : S) : xForL t b x [] st = none := rfl
end Va
namespace Va
open PySem PySem.Spec PyProof.Rows L2 LamX
end Va
namespace Va
open PySem PySem.Spec PyProof.Rows L2
/-- what is told of a reference is locked for good -/
theorem pe_lockF {X : Cx} {e : Expr} {td : TE} (he : PE X e td) : PE X e (fun σ H Q => td σ H fun x H1 => ∃ d u, x = .ref d ∧ H1 d = some u ∧ Mut (some u) ∧ ∀ od, Q x (upd H1 d (.frz od u))) := ⟨fun pins s σ H Q I h => by
  refine thn (he.run pins s σ H _ I h) fun u s1 ⟨x, H1, I1, rx, d, w, ex, hd, mu, q⟩ => ?_
  obtain ⟨od, I2⟩ := I1.lock hd mu
  exact ⟨x, _, I2, rx, q od⟩⟩
/-- the values of a locked dict -/
def mValsL (i : Nat) : M (List D) := fun st => match st[i]? with
  | some (some (.ld kvs)) => some (kvs.map Prod.snd, st)
  | _ => none
/-- the values of an owned dict that a local name holds for the last time -/
def mValsV (i : Nat) : M (List D) := fun st => match st[i]? with
  | some (some (.dic true kvs)) => some ((frzK kvs).map Prod.snd, st.set i none)
  | _ => none
/-- d.get(k, e) -/
def mGetD (i : Nat) (m mz : M D) : M D := fun st => match st[i]? with
  | some (some (.dic _ _)) => match m st with
    | some (k, s) => match mz s with
      | some (z, s2) => match imm z with
        | true => match s2[i]? with
          | some (some d) => match getF z d k with
            | some y => some (y, s2)
            | none => none
          | _ => none
        | false => none
      | none => none
    | none => none
  | _ => none
section
variable {Γ : Gam} {Φ : GCx → Prop}
theorem se_getD (i : Nat) {x : Str} {k f : Expr} {m mz : M D} {p apos cpos : Pos} (ho : SO Γ Φ (.Name x p) (.v i)) (hk : SE Γ Φ k m) (hf : SE Γ Φ f mz) (hM : ∀ X : Cx, M2 X (.Name x p) "get" apos k f cpos := by intro _; exact ⟨rfl, rfl, rfl, rfl⟩) :
    SE Γ Φ (.Call (.Attribute (.Name x p) "get" apos) [k, f] [] cpos) (mGetD i m mz) := fun X o' =>
  pe_imp (pe_dget2 (by have := o'.hu; omega) (ho X o') (hk X o') (hf X o') (hM X)) fun σ H Q q => by
    obtain ⟨Fz, fp, st, C, d', st', e, kq⟩ := q
    unfold mGetD at e
    split at e
    · rename_i o1 kv1 h1
      split at e
      · rename_i kd s hm
        split at e
        · rename_i zd s2 hm2
          split at e
          · rename_i hz
            split at e
            · rename_i d h2
              split at e
              · rename_i y hy
                cases e
                obtain ⟨v, f, hv, r, _⟩ := C.get h1
                obtain ⟨a, ws, f', rfl, ha, _, _⟩ := r.dic
                refine ⟨_, hv, a, rfl, .inl ⟨ws, .inl ha⟩, rd.run (P := []) (PV := []) C rfl hm fun u H2 Fz2 fp2 C2 g2 => ?_⟩
                refine rd.run (P := [some kd]) (PV := [some u]) C2 rfl hm2 fun zv H3 Fz3 fp3 C3 g3 => ?_
                have C3 : Cfg X.K Fz3 H3 (some zd :: some kd :: st') (some zv :: some u :: σ) fp3 := C3
                obtain ⟨z', fz, ez, rz, _⟩ := C3.head
                cases ez
                have := rz.imm hz
                subst this
                obtain ⟨fc, Cc, hc⟩ := C3.drop
                unfold getF at hy
                split at hy
                · rename_i o kvs
                  split at hy
                  · rename_i kk hkk
                    obtain ⟨u', fu, eu, ru, _⟩ := Cc.head
                    cases eu
                    have ek := keyD_v hkk ru
                    subst ek
                    obtain ⟨v2, f2, hv2, r2, _⟩ := C3.get (i := i + 2) (by simpa using h2)
                    have e2 : V.ref a = v2 := by
                      rw [List.getElem?_cons_succ, List.getElem?_cons_succ] at hv2
                      have := hv.symm.trans hv2
                      simpa using this
                    subst e2
                    obtain ⟨p, ov, ep, dg, h⟩ := dget_of r2 hkk
                    cases ep
                    refine ⟨ov, dg, ?_⟩
                    rcases h with ⟨h1, rfl⟩ | ⟨x, v, f', h1, rfl, r, _⟩
                    · rw [h1] at hy
                      cases hy
                      exact fin_atom (T := [some _, some kd]) (TV := [some zv, some (kV kk)]) kq rfl C3 (g2.trans g3) rz
                    · rw [h1] at hy
                      dsimp only at hy
                      split at hy
                      · rename_i hi
                        cases hy
                        have := r.imm hi
                        subst this
                        exact fin_atom (T := [some _, some kd]) (TV := [some zv, some (kV kk)]) kq rfl C3 (g2.trans g3) r
                      · cases hy
                  · cases hy
                · cases hy
              · cases e
            · cases e
          · cases e
        · cases e
      · cases e
    · cases e
end
@[simp] theorem ev_mValsL (i : Nat) (st : S) : mValsL i st = (match st[i]? with | some (some (.ld kvs)) => some (kvs.map Prod.snd, st) | _ => none) := rfl
@[simp] theorem ev_mValsV (i : Nat) (st : S) : mValsV i st = (match st[i]? with | some (some (.dic true kvs)) => some ((frzK kvs).map Prod.snd, st.set i none) | _ => none) := rfl
@[simp] theorem ev_mGetD (i : Nat) (m mz : M D) (st : S) : mGetD i m mz st = (match st[i]? with
  | some (some (.dic _ _)) => match m st with
    | some (k, s) => match mz s with
      | some (z, s2) => match imm z with
        | true => match s2[i]? with
          | some (some d) => match getF z d k with
            | some y => some (y, s2)
            | none => none
          | _ => none
        | false => none
      | none => none
    | none => none
  | _ => none) := rfl
end Va
namespace Va
open PySem PySem.Spec PyProof.Rows L2
def ldOf : D → Option D
  | .dic true kvs => some (.ld (frzK kvs))
  | _ => none
def ldL : List D → Option (List D)
  | [] => some []
  | d :: ds => match ldOf d with
    | some x => match ldL ds with
      | some xs => some (x :: xs)
      | none => none
    | none => none
def mItemsLd (m : M D) : M (List D) := fun st => match m st with
  | some (.lst true ds, s) => match ldL ds with
    | some xs => some (xs, s)
    | none => none
  | _ => none
@[simp] theorem ev_mItemsLd (m : M D) (st : S) : mItemsLd m st = (match m st with | some (.lst true ds, s) => (match ldL ds with | some xs => some (xs, s) | none => none) | _ => none) := rfl
end Va
namespace Va
open PySem PySem.Spec PyProof.Rows L2
def mAliL (i j : Nat) (mk : M D) (B : M Fl) : M Fl := fun st => match isLst i st with
  | true => match mk st with
    | some (.int n, s1) => match s1[i]? with
      | some (some (.lst true xs)) => match ixN xs.length n with
        | some jj => match xs[jj]? with
          | some (.dic true kvs) => match B ((s1.set i none).set j (some (.dic true kvs))) with
            | some (.nx, s3) => match s3[j]? with
              | some (some (.dic true kvs2)) => some (.nx, (s3.set j none).set i (some (.lst true (xs.set jj (.dic true kvs2)))))
              | _ => none
            | _ => none
          | _ => none
        | none => none
      | _ => none
    | _ => none
  | false => none
@[simp] theorem ev_mAliL (i j : Nat) (mk : M D) (B : M Fl) (st : S) : mAliL i j mk B st = (match isLst i st with
  | true => match mk st with
    | some (.int n, s1) => match s1[i]? with
      | some (some (.lst true xs)) => match ixN xs.length n with
        | some jj => match xs[jj]? with
          | some (.dic true kvs) => match B ((s1.set i none).set j (some (.dic true kvs))) with
            | some (.nx, s3) => match s3[j]? with
              | some (some (.dic true kvs2)) => some (.nx, (s3.set j none).set i (some (.lst true (xs.set jj (.dic true kvs2)))))
              | _ => none
            | _ => none
          | _ => none
        | none => none
      | _ => none
    | _ => none
  | false => none) := rfl
end Va
namespace Va
open PySem PySem.Spec PyProof.Rows L2
def mSApp (i : Nat) (mk mv : M D) (a : Atm) : M D := fun st => match st[i]? with
  | some (some (.dic _ _)) => match mk st with
    | some (k, s1) => match mv s1 with
      | some (.lst true zs, s2) => match s2[i]?, a.get s2 with
        | some (some (.dic true kvs)), some d => match keyD k with
          | some _ => match Nat.blt kvs.length LN with
            | true => match lookD kvs k with
              | some (.lst true xs) => match Nat.blt xs.length LN with
                | true => some (.non, s2.set i (some (.dic true (setK kvs k (.lst true (xs ++ [d]))))))
                | false => none
              | some _ => none
              | none => match Nat.blt zs.length LN with
                | true => some (.non, s2.set i (some (.dic true (kvs ++ [(k, .lst true (zs ++ [d]))]))))
                | false => none
            | false => none
          | none => none
        | _, _ => none
      | _ => none
    | none => none
  | _ => none
@[simp] theorem ev_mSApp (i : Nat) (mk mv : M D) (a : Atm) (st : S) : mSApp i mk mv a st = (match st[i]? with
  | some (some (.dic _ _)) => match mk st with
    | some (k, s1) => match mv s1 with
      | some (.lst true zs, s2) => match s2[i]?, a.get s2 with
        | some (some (.dic true kvs)), some d => match keyD k with
          | some _ => match Nat.blt kvs.length LN with
            | true => match lookD kvs k with
              | some (.lst true xs) => match Nat.blt xs.length LN with
                | true => some (.non, s2.set i (some (.dic true (setK kvs k (.lst true (xs ++ [d]))))))
                | false => none
              | some _ => none
              | none => match Nat.blt zs.length LN with
                | true => some (.non, s2.set i (some (.dic true (kvs ++ [(k, .lst true (zs ++ [d]))]))))
                | false => none
            | false => none
          | none => none
        | _, _ => none
      | _ => none
    | none => none
  | _ => none) := rfl
end Va
namespace Va
open PySem PySem.Spec PyProof.Rows L2
end Va
namespace Va
open PySem PySem.Spec PyProof.Rows L2
structure Ent.OkA (sig : List (Str × Nat)) (bs : List Str) (gis : List (Str × Int)) (e : Ent) : Prop where
  hat : e.d.at_ = (e.d.at_.1, none)
  dfl : e.d.dfl = []
  kwd : e.d.kwd = []
  sc : FnScope e.N e.ps e.d.scope
  le : e.ps.length ≤ e.N.length
  bind : ∀ (kV doc pm : Value) (an : Option Addr) (cdv ct : Value) (us : List Value), us.length = e.ps.length → bindArgs (PySem.W.fnOf e.d.name e.d.qual e.d.params e.d.body e.d.scope .none kV doc pm an cdv ct) ⟨us, []⟩ = pure (e.ps.zip us)
  ss : ∀ ρ, SS { N := e.N, sc := e.d.scope } (Phi sig bs gis ρ) e.RO e.d.body (e.m ρ)
inductive OksA (sig : List (Str × Nat)) (bs : List Str) (gis : List (Str × Int)) : List Ent → Prop
  | nil : OksA sig bs gis []
  | cons {e : Ent} {T : List Ent} : e.OkA sig bs gis → OksA sig bs gis T → OksA sig bs gis (e :: T)
theorem OksA.get {sig : List (Str × Nat)} {bs : List Str} {gis : List (Str × Int)} : ∀ {T : List Ent}, OksA sig bs gis T → ∀ {i : Nat} {e : Ent}, T[i]? = some e → e.OkA sig bs gis
  | _, .nil, _, _, h => by simp at h
  | _, .cons a r, 0, e, h => by simp at h; exact h ▸ a
  | _, .cons a r, i + 1, e, h => r.get (by simpa using h)
end Va
namespace Va
open PySem PySem.Spec PyProof.Rows L2
/-- the classes with a field, as the head reads them -/
def exY (P : Program) (xs : List Str) (K : PySem.W.Frag) : Bool := (xs.filter isFld).all fun x => fldB P K (He.ga K x) (xnam x)
theorem exY_ok {P : Program} {xs : List Str} {K : PySem.W.Frag} (h : exY P xs K = true) : ∀ x ∈ xs, isFld x = true → FldK P K (He.ga K x) (xnam x) := fun x hx hf =>
  fldB_ok (List.all_eq_true.mp h x (List.mem_filter.mpr ⟨hx, hf⟩))
end Va
namespace Va
open PySem PySem.Spec PyProof.Rows L2
end Va
namespace Va
open PySem PySem.Spec PyProof.Rows L2
end Va
namespace Va
open PySem PySem.Spec PyProof.Rows L2
end Va
namespace Va
open PySem PySem.Spec PyProof.Rows L2
end Va
namespace Va
open PySem PySem.Spec PySem.Calls PySem.W PyProof.Rows L2
/-- a record that this frame has made and that no object of ours knows -/
structure Mine (X : Cx) (it : Addr) : Prop where
  ge : X.s_0.heap.objs.size ≤ it
  cells : ∀ x c, X.env.cells.lookup x = some c → c ≠ it
  pn : ∀ p ∈ X.pn, p.1 ≠ it
section
variable {X : Cx} {pins pins' : List (Addr × Obj)} {σ : List (Option V)} {H : Hp} {s : Shared} {h' : Heap}
theorem Mine.new (I : Inv X pins σ H s) {it : Addr} (h : s.heap.objs.size ≤ it) : Mine X it where
  ge := Nat.le_trans I.sz h
  cells := fun x c e => by
    obtain ⟨v, o, ho, _⟩ := I.cell x c e
    exact Nat.ne_of_lt (Nat.lt_of_lt_of_le (Heap.lt_size ho) h)
  pn := fun p hp => Nat.ne_of_lt (Nat.lt_of_lt_of_le (Heap.lt_size (I.pin p (List.mem_append_left _ hp)).1) h)
theorem Inv.put {t' : Nat} (I : Inv X pins σ H s) {it : Addr} {o o' : Obj} (M : Mine X it) (hin : (it, o) ∈ pins) (k : ∀ b u, b ≠ it → s.heap.get? b = some u → h'.get? b = some u) (hit : h'.get? it = some o') (hd : ∀ v, o'.data ≠ .cell v)
    (hp : ∀ p ∈ pins', p = (it, o') ∨ (p ∈ pins ∧ p.1 ≠ it)) : Inv X pins' σ H { s with heap := h', toks := t' } := by
  obtain ⟨_, hn, hL, hf, _⟩ := I.pin _ (List.mem_append_right _ hin)
  have I0 : Inv X [] σ H s := I.pins_of fun p hp => nomatch hp
  have I1 := I0.turned (t' := t') k hn hL (.inr M.ge) M.cells (fun p hp => M.pn p (by simpa using hp))
  refine I1.pins_of fun p hp' => ?_
  rcases hp p hp' with rfl | ⟨h1, h2⟩
  · exact ⟨hit, hn, hL, hf, hd⟩
  · obtain ⟨a1, a2, a3, a4, a5⟩ := I.pin p (List.mem_append_right _ h1)
    exact ⟨k _ _ h2 a1, a2, a3, a4, a5⟩
end
end Va
namespace Va
open PySem PySem.Spec PyProof.Rows L2
end Va
namespace Va
open PySem PySem.Spec PyProof.Rows L2
/-- the code that a function names -/
def codeQ (g : Addr → Option Obj) (a : Addr) : List Addr := match g a with
  | some ⟨_, _, .func fd, _⟩ => He.refV fd.code
  | _ => []
def namesQ (g : Addr → Option Obj) : List Addr := match g mainGlobals with
  | some o => He.refsO o
  | none => []
def asQ (g : Addr → Option Obj) : List Addr := mainGlobals :: (namesQ g ++ (namesQ g).flatMap (codeQ g))
end Va
namespace Va
open PySem PySem.Spec PySem.W PyProof.Rows L2 LamX
structure LamN1 (N : List Str) (sc scope : Scope) (x : Str) : Prop where
  kind : scope.kind = .function
  co : scope.isCoroutine = false
  gen : scope.isGenerator = false
  own : ∀ y ∈ scope.names, y.2 ≠ .cell ∧ (y.2 = .local → y.1 = x ∨ y.1 ∉ N)
  free : ∀ y ∈ scope.names, y.2 = .free → sc.names.lookup y.1 = some .cell ∨ sc.names.lookup y.1 = some .free
section
variable {X : Cx} {pins : List (Addr × Obj)} {σ : L2.St} {H : Hp} {s : Shared}
theorem LamN1.has {scope : Scope} {x : Str} (L : LamN1 X.N X.env.scope scope x) (ok : X.Ok) : ∀ y ∈ scope.names, y.2 = .free → ∃ c, X.env.cells.lookup y.1 = some c := fun y hy e => (L.free y hy e).elim (fun k => ok.has _ (.inl k)) fun k => ok.has _ (.inr k)
end
end Va
namespace Va
open PySem PySem.Spec PyProof.Rows L2 LamX
def asL (g : Addr → Option Obj) : List Addr := asQ g ++ [cStatics]
end Va
namespace Va
open PySem PySem.Spec PySem.W PyProof.Rows L2
section
variable {Γ : Gam} {Φ : GCx → Prop}
theorem se_take (i : Nat) {x : Str} {pos : Pos} (hN : Γ.N[i]? = some x := by rfl) (hv : gVis Γ.sc x = true := by rfl) (hd : (x == ("__debug__" : Str)) = false := by decide) (hcd : (x == ("__classdict__" : Str)) = false := by decide) :
    SE Γ Φ (.Name x pos) (mTake i) := fun X o => pe_imp (pe_var (o.slot hN) (o.vis hv) hd hcd) fun σ H Q q => by
  obtain ⟨Fz, fp, st, C, d, st', e, k⟩ := q
  obtain ⟨v, fp1, hσ, C1, h1⟩ := C.take e
  exact ⟨v, hσ, k v H Fz fp1 C1 (Go.refl.sub h1)⟩
end
end Va
namespace Va
open PySem PySem.Spec PySem.W PyProof.Rows L2 LamX
end Va
namespace Va
open PySem PySem.Spec PySem.Calls PyProof.Rows L2 PySem.W
end Va
namespace Va
open PySem PySem.Spec PyProof.Rows L2
end Va
namespace Va
open PySem PySem.Spec PySem.Calls PyProof.Rows L2 PySem.W
end Va
namespace Va
open PySem PySem.Spec PySem.W PyProof.Rows L2 LamX
end Va
namespace Va
open PySem PySem.Spec PyProof.Rows L2
def pairsD (kvs : List (D × D)) : List D := kvs.map fun p => .tup [p.1, p.2]
/-- the items of an owned dict that a local name holds for the last time -/
def mItemsV (i : Nat) : M (List D) := fun st => match st[i]? with
  | some (some (.dic true kvs)) => some (pairsD (frzK kvs), st.set i none)
  | _ => none
@[simp] theorem ev_mItemsV (i : Nat) (st : S) : mItemsV i st = (match st[i]? with | some (some (.dic true kvs)) => some (pairsD (frzK kvs), st.set i none) | _ => none) := rfl
end Va
namespace Va
open PySem PySem.Spec PyProof.Rows L2
/-- the items of a locked dict -/
def mItemsL (i : Nat) : M (List D) := fun st => match st[i]? with
  | some (some (.ld kvs)) => some (pairsD kvs, st)
  | _ => none
def isInt : D → Bool
  | .int _ => true
  | _ => false
def flatK (kvs : List (D × D)) : Bool := kvs.all fun p => isInt p.2
theorem RepK.flat {K : PySem.W.Frag} {Fz Fz' : Addr → Prop} {H H' : Hp} : ∀ {kvs : List (D × D)} {vs : List (Key × V)} {f : List Addr}, RepK K Fz H kvs vs f → flatK kvs = true → f = [] ∧ RepK K Fz' H' kvs vs []
  | _, _, _, .nil, _ => ⟨rfl, .nil⟩
  | _, _, _, .cons (x := x) (f := f) (g := g) e r s, h => by
    unfold flatK at h
    rw [List.all_cons, Bool.and_eq_true] at h
    obtain ⟨e1, s'⟩ := RepK.flat (Fz' := Fz') (H' := H') s (show flatK _ = true from h.2)
    subst e1
    cases r with
    | int i => exact ⟨rfl, .cons (f := []) (g := []) e (.int i) s'⟩
    | _ => simp [isInt] at h
@[simp] theorem ev_mItemsL (i : Nat) (st : S) : mItemsL i st = (match st[i]? with | some (some (.ld kvs)) => some (pairsD kvs, st) | _ => none) := rfl
end Va
namespace Va
open PySem PySem.Spec PyProof.Rows L2
def mSetTT (i : Nat) (is : List Nat) (m : M (List D)) : M Fl := fun st => match m st with
  | some ([d1, d2], s) => match asgT (.t is) d2 (s.set i (some d1)) with
    | some s' => some (.nx, s')
    | none => none
  | _ => none
@[simp] theorem ev_mSetTT (i : Nat) (is : List Nat) (m : M (List D)) (st : S) : mSetTT i is m st = (match m st with
  | some ([d1, d2], s) => match asgT (.t is) d2 (s.set i (some d1)) with
    | some s' => some (.nx, s')
    | none => none
  | _ => none) := rfl
end Va
namespace Va
open PySem PySem.Spec PyProof.Rows L2
end Va
namespace Va
open PySem PySem.Spec PyProof.Rows L2
end Va
namespace Va
open PySem PySem.Spec PyProof.Rows L2
end Va
namespace Va
open PySem PySem.Spec PyProof.Rows L2
end Va
namespace Va
open PySem PySem.Spec PyProof.Rows L2
end Va
namespace Va
open PySem PySem.Spec PyProof.Rows L2
end Va
namespace Va
open PySem PySem.Spec PyProof.Rows L2 LamX
def isClsQ (g : Addr → Option Obj) (a : Addr) : Bool := match g a with
  | some ⟨_, _, .cls _, _⟩ => true
  | _ => false
def refsQ (g : Addr → Option Obj) (a : Addr) : List Addr := match g a with
  | some o => He.refsO o ++ match o.data with
    | .func fd => fd.closure.map (·.2)
    | _ => []
  | none => []
def growQ (g : Addr → Option Obj) : Nat → List Addr → List Addr
  | 0, as => as
  | n + 1, as => as ++ growQ g n (as.flatMap (refsQ g))
def asX (g : Addr → Option Obj) : List Addr := asL g ++ growQ g 4 ((namesQ g).filter (isClsQ g))
def obsA (as : (Addr → Option Obj) → List Addr) (fa : List He.Fa) (fn : List He.DefD) (ts : List He.Tab) (tf : List He.Defn) (ex : PySem.W.Frag → Bool) (g : Addr → Option Obj) : He.AlX := (He.obsT fa fn ts (He.frT g (as g)), ex (He.frT g (as g)) && He.tabsB g tf (He.frT g (as g)))
theorem saysA_of {as : (Addr → Option Obj) → List Addr} {fa : List He.Fa} {fn : List He.DefD} {ts : List He.Tab} {tf : List He.Defn} {ex : PySem.W.Frag → Bool} {w : World} {h : Heap} (e : obsA as fa fn ts tf ex h.get? = He.valX fn ts w) : He.SaysX fa fn ts tf ex w h (He.frT h.get? (as h.get?)) := by
  obtain ⟨K, hK⟩ : ∃ K, He.frT h.get? (as h.get?) = K := ⟨_, rfl⟩
  unfold obsA at e
  rw [hK] at e
  have e1 : He.obsT fa fn ts K = He.valT fn ts w := congrArg (fun z : He.AlX => z.1) e
  have e2 : (ex K && He.tabsB h.get? tf K) = true := congrArg (fun z : He.AlX => z.2) e
  obtain ⟨h1, h2⟩ := He.ba e2
  have key : ∀ p ∈ tf, PySem.W.codeHdIn K (He.cT K p).1 (He.cT K p).2 = true ∧ ∃ o, h.get? (He.cT K p).2 = some o ∧ He.emptyTab o = true := fun p hp => by
    obtain ⟨h3, h4⟩ := He.ba (List.all_eq_true.mp h2 p hp)
    refine ⟨h3, ?_⟩
    cases q : h.get? (He.cT K p).2 with
    | none => rw [q] at h4; cases h4
    | some o => rw [q] at h4; exact ⟨o, rfl, h4⟩
  rw [hK]
  refine ⟨e1, h1, fun p hp => (key p hp).1, fun p hp => ?_, fun p hp => ?_⟩
  · obtain ⟨_, o, q, z⟩ := key p hp
    rw [← hK] at q ⊢
    exact He.frT_none q z
  · obtain ⟨_, o, q, z⟩ := key p hp
    rw [q, He.emptyTab_eq z]
def hookA (as : (Addr → Option Obj) → List Addr) (fa : List He.Fa) (fn : List He.DefD) (ts : List He.Tab) (tf : List He.Defn) (ex : PySem.W.Frag → Bool) : PySem.W.Hook where
  α := He.AlX
  obs s := obsA as fa fn ts tf ex s.heap.get?
  val w := He.valX fn ts w
  says w h := ∃ K : PySem.W.Frag, K.In h ∧ He.SaysX fa fn ts tf ex w h K
  of _ _ e := ⟨_, He.frT_in, saysA_of e⟩
  keeps _ _ _ := fun ⟨K, hK, c⟩ k => ⟨K, PySem.W.Frag.In.keeps hK k, ⟨c.t, c.more, c.hd, c.out, fun p hp => k _ _ (c.empty p hp)⟩⟩
theorem obsA_eq {as : (Addr → Option Obj) → List Addr} {fa : List He.Fa} {fn : List He.DefD} {ts : List He.Tab} {tf : List He.Defn} {ex : PySem.W.Frag → Bool} {g : Addr → Option Obj} {s : Shared} (h : ∀ a, g a = s.heap.get? a) : obsA as fa fn ts tf ex g = (hookA as fa fn ts tf ex).obs s := by
  have e : g = s.heap.get? := funext h
  subst e
  rfl
end Va
namespace Va
open PySem PySem.Spec PyProof.Rows L2
/-- the pairs, each a new tuple, told with its object -/
def ItiN (d : Addr) (o : Obj) (xs : List (NestedKey × Addr × V)) : It :=
  ⟨fun i H => H d = some (.frz o (.ext (NdRaw d xs))) ∧ i < xs.length, fun i H x H' => ∃ T k b v, xs[i]? = some (k, b, v) ∧ x = .ref T ∧ H T = none ∧ ∃ ob : Obj, H' = upd H T (.frz ob (.tup [.ref b, v])) ∧ ob.dict = none, fun i H => H d = some (.frz o (.ext (NdRaw d xs))) ∧ xs.length ≤ i⟩
section
variable {P : Program} {w : World} {H : Hp} {h : Heap} {d : Addr} {o : Obj} {es : Array DictEntry} {ep : Nat}
theorem paired_len {α β : Type} {R : α → β → Prop} : ∀ {xs : List α} {us : List β}, Paired R xs us → xs.length = us.length
  | _, _, .nil => rfl
  | _, _, .cons _ t => by rw [List.length_cons, List.length_cons, paired_len t]
theorem paired_get {α β : Type} {R : α → β → Prop} : ∀ {xs : List α} {us : List β}, Paired R xs us → ∀ {i : Nat} {x : α}, xs[i]? = some x → ∃ u, us[i]? = some u ∧ R x u
  | _, _, .nil, i, x, h => by simp at h
  | _, _, .cons (a := a) r t, 0, x, h => by
    simp at h
    subst h
    exact ⟨_, rfl, r⟩
  | _, _, .cons r t, i + 1, x, h => by
    simp at h
    obtain ⟨u, e, q⟩ := paired_get t h
    exact ⟨u, by simpa using e, q⟩
/-- the locked dict -/
theorem nd_raw {xs : List (NestedKey × Addr × V)} (ok : HOk P w H h) (e : H d = some (.frz o (.ext (NdRaw d xs)))) : h.get? d = some o ∧ (d == sysModules) = false ∧ ∃ es ep us, o.data = .dict es ep ∧ o.ExactDict ∧ DT.Raw h d es ep ∧ es.size = xs.length ∧ PU xs us ∧ es.toList = us.map (fun x => (⟨hashK x.1, .ref x.2.1, x.2.2⟩ : DictEntry)) := by
  obtain ⟨hd, ⟨hz, hs, us, p, o', es, ep, h1, h2, h3, h4, h5⟩, _⟩ := (show ObjOk P w H h d (.frz o (.ext (NdRaw d xs))) from ok d _ e)
  rw [hd] at h1
  cases h1
  refine ⟨hd, hs, es, ep, us, h3, h2, ⟨o, hd, h2, h3⟩, ?_, p, h4⟩
  have := congrArg List.length h4
  rw [List.length_map, Array.length_toList] at this
  rw [this, paired_len p]
end
section
variable {P : Program} {w : World} {K : PySem.W.Frag} {d : Addr} {o : Obj} {es : Array DictEntry} {ep : Nat}
theorem turn_itemsN {xs : List (NestedKey × Addr × V)} {elts : List Expr} {kk : Nat} {tpos : Pos} (it : Addr) (hod : o.data = .dict es ep) :
    Turn P w K (.Tuple elts kk tpos) (ItiN d o xs) [it] it (fun i h => ∃ ok ov, IsItemIter h it d i xs.length ep ok ov) where
  mem := by simp
  obj := fun i h st b hb => by
    have e : b = it := by simpa using hb
    subst e
    obtain ⟨ok, ov, e⟩ := st
    exact ⟨_, e, fun v z => nomatch z⟩
  keep := fun i h h' st k => let ⟨ok, ov, e⟩ := st; ⟨ok, ov, k it (by simp) _ e⟩
  item := by
    intro X hP hw hK hc i pins s σ H E I hf st hg
    subst hP hw hK
    obtain ⟨hd, hi⟩ := hg
    obtain ⟨hgd, hs, es', ep', us, hdt, hx, hr, hsz, p, hl⟩ := nd_raw I.hok hd
    obtain ⟨rfl, rfl⟩ := dict_ep hod hdt
    obtain ⟨⟨k, b, v⟩, hkv⟩ : ∃ p, xs[i]? = some p := ⟨xs[i], List.getElem?_eq_getElem hi⟩
    obtain ⟨⟨k', b', u⟩, hu, e1, e2, ru⟩ := paired_get p hkv
    dsimp only at e1 e2 ru
    subst e1 e2
    obtain ⟨ok, ov, he⟩ := st
    rw [← hsz] at he
    have hi2 : i < es'.size := by rw [hsz]; exact hi
    have hent : es'[i] = (⟨hashK k, .ref b, u⟩ : DictEntry) := by
      have h1 : es'.toList[i]? = some es'[i] := by rw [Array.getElem?_toList]; exact Array.getElem?_eq_getElem hi2
      rw [hl, List.getElem?_map, hu] at h1
      exact (Option.some.inj h1).symm
    have hk1 : es'[i].key = .ref b := by rw [hent]
    have hv1 : es'[i].val = u := by rw [hent]
    have hlt : it < s.heap.objs.size := Heap.lt_size he
    refine DT.nextI he hr hi2 fun h' ho hT hz hk => ?_
    rw [hk1, hv1] at ho hT
    refine ⟨_, rfl, wpAny_letOwnedTupleGo_items (s := { s with heap := h' }) ho fun h'' he' sb => ?_⟩
    have hT2 : h''.get? s.heap.objs.size = some (pairO (.ref b) u) := (sb.2 _ (Nat.ne_of_gt hlt)).trans hT
    have new : ObjOk X.prog X.w (upd H s.heap.objs.size (.frz (pairO (.ref b) u) (.tup [.ref b, v]))) h'' s.heap.objs.size (.frz (pairO (.ref b) u) (.tup [.ref b, v])) :=
      ⟨hT2, by show 2 ≤ sizeLine; rw [sizeLine_eq]; decide, [.ref b, u], .cons rfl (.cons ru .nil), ⟨_, hT2, rfl, _, rfl⟩⟩
    have I1 : Inv X pins σ (upd H s.heap.objs.size (.frz (pairO (.ref b) u) (.tup [.ref b, v]))) { s with heap := h'' } :=
      I.turnedNew (t' := s.toks) (ch := [it]) (fun b ob hb e => (sb.2 b (by simpa using hb)).trans (hk b ob (by simpa using hb) e)) hf (Nat.le_refl _) new
    refine ⟨.ref s.heap.objs.size, _, I1, rfl, ⟨_, k, b, v, hkv, rfl, I.hok.fresh (Nat.le_refl _), _, rfl, rfl⟩, ⟨.ref b, u, ?_⟩, fun b hb => ?_⟩
    · rw [← hsz]; exact he'
    · have e : b = it := by simpa using hb
      rw [e, upd_ne (Nat.ne_of_lt hlt)]
      exact (hf it (by simp)).1
  done := by
    intro X hP hw hK hc i pins s σ H E I hf st hg
    subst hP hw hK
    obtain ⟨hd, hi⟩ := hg
    obtain ⟨f0, f1, f2, f3, f4, f5⟩ := hf it (by simp)
    obtain ⟨hgd, hs, es', ep', us, hdt, hx, hr, hsz, p, hl⟩ := nd_raw I.hok hd
    obtain ⟨rfl, rfl⟩ := dict_ep hod hdt
    obtain ⟨ok, ov, he⟩ := st
    rw [← hsz] at he
    exact DT.endI (I.ok.hd hc) he hr (by omega) fun h' eb => ⟨rfl, I.turned (t' := s.toks) (fun b ob hb e => eb b ob hb e) f0 f1 f3 f4 f5⟩
  self := fun A i s Q E st h => let ⟨_, _, e⟩ := st; PySem.W.kcp_self e h
end
def iItemsN (td : TE) : TI := fun σ H R => td σ H fun x H1 => ∃ d o xs, x = .ref d ∧ H1 d = some (.frz o (.ext (NdRaw d xs))) ∧ R (ItiN d o xs) H1
section
variable {X : Cx} {tg e : Expr} {td : TE} {apos cpos : Pos}
theorem pi_itemsN {elts : List Expr} {kk : Nat} {tpos : Pos} (he : PE X e td) (hbase : attributeBase e "items" X.env (eval e X.env) = eval e X.env := by rfl) (hline : (apos.endLine == cpos.line) = true := by rfl) :
    PI X (.Tuple elts kk tpos) (.Call (.Attribute e "items" apos) [] [] cpos) (iItemsN td) := by
  refine ⟨fun pins s σ H R I h => ?_⟩
  refine wpAny_Call_method (T := "dict") (id := "dict.items") hbase rfl hline F.plainAttrs_dict F.slot_dict_items F.type_dict_items (thn (he.run pins s σ H _ I h) fun u s1 ⟨x, H1, I1, rx, d, o, xs, ex, hd, q⟩ => ?_)
  subst ex
  obtain rfl : u = Value.ref d := rx
  obtain ⟨hgd, hs, es, ep, us, hdt, hx, hr, hsz, p, hl⟩ := nd_raw I1.hok hd
  refine ⟨hr.typeIs, fun a ea => (by cases ea; exact ⟨o, hgd, hx.2.1⟩), ?_⟩
  have I2 : Inv X pins σ H1 { s1 with heap := s1.heap.push { cls := .type "dict_items", data := .fields #[.ref d] } } := I1.kept (t' := s1.toks) fun b ob q => Heap.get?_push_of_some _ q
  have fin : wpAny (model X.prog X.w) X.A (pyIter (.ref s1.heap.objs.size)) (PIE X pins σ (.Tuple elts kk tpos) R) X.xe { s1 with heap := s1.heap.push { cls := .type "dict_items", data := .fields #[.ref d] } } := by
    refine DT.iterI (d := d) ⟨_, Heap.get?_push_size _ rfl, rfl, rfl⟩ (hr.push _) (pi_one (tk := s1.toks) I2 _ (turn_itemsN _ hdt) ⟨.none, .none, ?_⟩ q)
    rw [← hsz]
    exact Heap.get?_push_size _ rfl
  show wpAny _ _ (callWith cpos (.builtin "dict.items") [.ref d] [] []) _ X.xe s1
  exact method_meetsIn F.slot_dict_items F.entry_dict_items rfl (PySem.evalArgs_none ⟨rfl, hr.typeIs, F.args_dict_items_1 _, _, DT.meetsItems hs, ⟨hr, fin⟩⟩)
end
theorem RepN.at_ {K : PySem.W.Frag} {Fz : Addr → Prop} {H : Hp} : ∀ {kvs xs f}, RepN K Fz H kvs xs f → f = [] → ∀ {i : Nat} {p : D × D}, kvs[i]? = some p → ∃ k b v, xs[i]? = some (k, b, v) ∧ Rep K Fz H p.1 (.ref b) [] ∧ Rep K Fz H p.2 v []
  | _, _, _, .nil, _, i, p, h => by simp at h
  | _, _, _, .cons e rk r s, hf, 0, p, h => by
    simp at h
    subst h
    obtain ⟨rfl, _⟩ := List.append_eq_nil_iff.mp hf
    exact ⟨_, _, _, rfl, rk, r⟩
  | _, _, _, .cons e rk r s, hf, i + 1, p, h => by
    simp at h
    obtain ⟨k, b, v, h1, h2, h3⟩ := RepN.at_ s (List.append_eq_nil_iff.mp hf).2 h
    exact ⟨k, b, v, by simpa using h1, h2, h3⟩
theorem itn_ok {K : PySem.W.Frag} {Fz : Addr → Prop} {H : Hp} {a : Addr} {od : Obj} {kvs : List (D × D)} {xs : List (NestedKey × Addr × V)} (q : H a = some (.frz od (.ext (NdRaw a xs)))) (z : Fz a) (r : RepN K Fz H kvs xs []) : ItOk K Fz H (ItiN a od xs) (pairsD kvs) := by
  have hl : (pairsD kvs).length = xs.length := by unfold pairsD; rw [List.length_map, r.length]
  refine ⟨fun {Fz2 H2 i} m k hi => ⟨k a _ z q, by omega⟩, fun {Fz2 H2 i} m k hi => ⟨k a _ z q, by omega⟩, fun {Fz2 H2 i d x H3 st σ fp} m k hd C y => ?_⟩
  obtain ⟨T, kk, b, v, hkv, rfl, hT, ob, rfl, ho⟩ := y
  unfold pairsD at hd
  rw [List.getElem?_map] at hd
  obtain ⟨p, hp, rfl⟩ := Option.map_eq_some_iff.mp hd
  obtain ⟨k1, b1, v1, h1, h2, h3⟩ := r.at_ rfl hp
  rw [hkv] at h1
  cases h1
  exact pair_new ho C hT (h2.keep m k fun _ _ h => nomatch h) (h3.keep m k fun _ _ h => nomatch h)
/-- the items of an owned dict with nested keys -/
def mItemsN (m : M D) : M (List D) := fun st => match m st with
  | some (.nd true kvs, s) => some (pairsD (frzK kvs), s)
  | _ => none
section
variable {Γ : Gam} {Φ : GCx → Prop}
theorem si_in {e : Expr} {m : M D} (h : SE Γ Φ e m) {elts : List Expr} {kk : Nat} {tpos : Pos} {apos cpos : Pos} (hb : ∀ env : Env, attributeBase e "items" env (eval e env) = eval e env := by intro _; rfl) (hline : (apos.endLine == cpos.line) = true := by rfl) : SI Γ Φ (.Tuple elts kk tpos) (.Call (.Attribute e "items" apos) [] [] cpos) (mItemsN m) := fun X o =>
  pi_imp (pi_itemsN (pe_lockF (h X o)) (hb _) hline) fun σ H R q => by
    obtain ⟨Fz, fp, st, C, ds, st', e, k⟩ := q
    unfold mItemsN at e
    split at e
    · rename_i kvs s hm
      cases e
      refine ⟨Fz, fp, st, C, _, _, hm, fun v H' Fz' fp' C1 g1 => ?_⟩
      obtain ⟨R1, nd, fz, ft⟩ := C1
      cases R1 with
      | @cons _ _ f g _ _ r s' =>
        cases r with
        | som r =>
          cases r with
          | @ndO a _ vs fi qa ra =>
            have nn := List.nodup_append.mp nd
            have na : a ∉ g := fun h => nn.2.2 a (List.mem_cons_self ..) a h rfl
            have nfi : a ∉ fi := (List.nodup_cons.mp nn.1).1
            have za : ¬ Fz' a := fun z => fz a (List.mem_append_left _ (List.mem_cons_self ..)) z
            have nz : ∀ x, Fz' x → x ≠ a := fun x z e => za (e ▸ z)
            have zfi : ∀ x ∈ fi, ¬ Fz' x := fun x hx z => fz x (List.mem_append_left _ (List.mem_cons_of_mem _ hx)) z
            have dfi : ∀ x ∈ fi, x ∉ g := fun x hx q => nn.2.2 x (List.mem_cons_of_mem _ hx) x q rfl
            have rf : RepN X.K (fun x => Fz' x ∨ x ∈ fi) H' (frzK kvs) vs [] := RepN.frz (fun x z => .inl z) ra fun x hx => .inr hx
            refine ⟨a, _, rfl, qa, trivial, fun od => ⟨a, od, vs, rfl, upd_same, k _ _ (fun x => Fz' x ∨ x ∈ a :: fi) g ⟨s'.keep (fun _ h => .inl h) (fun x u z e => by rw [upd_ne (nz x z)]; exact e) (fun x u z e => by rw [upd_ne (fun q : x = a => na (q ▸ z))]; exact e), nn.2.1, fun x hx z => ?_, fun x z => ?_⟩ (g1.trans ⟨fun x u e nx => ?_, fun x e => ?_, fun _ h => .inl h, fun x z => ?_, fun x hx => .inl (List.mem_append_right _ hx)⟩) (itn_ok upd_same (.inr (List.mem_cons_self ..)) (rf.keep (fun x z => z.imp id fun q => List.mem_cons_of_mem _ q) (fun x u z e => ?_) fun _ _ h => nomatch h))⟩⟩
            · rcases z with z | z
              · exact fz x (List.mem_append_right _ hx) z
              · rcases List.mem_cons.mp z with z | z
                · exact na (z ▸ hx)
                · exact dfi x z hx
            · by_cases ea : x = a
              · rw [ea, upd_same]; exact Option.some_ne_none _
              · rw [upd_ne ea]
                rcases z with z | z
                · exact ft x z
                · rcases List.mem_cons.mp z with z | z
                  · exact absurd z ea
                  · exact ra.there x z
            · rw [upd_ne (fun q : x = a => nx (by rw [q]; exact List.mem_append_left _ (List.mem_cons_self ..)))]; exact e
            · by_cases ea : x = a
              · rw [ea, upd_same] at e; cases e
              · rw [upd_ne ea] at e; exact e
            · rcases z with z | z
              · exact .inl z
              · rcases List.mem_cons.mp z with z | z
                · exact .inr (.inl (by rw [z]; exact List.mem_append_left _ (List.mem_cons_self ..)))
                · exact .inr (.inl (List.mem_append_left _ (List.mem_cons_of_mem _ z)))
            · rw [upd_ne (fun q : x = a => ?_)]
              · exact e
              · rcases z with z | z
                · exact za (q ▸ z)
                · exact nfi (q ▸ z)
    · cases e
end
@[simp] theorem ev_mItemsN (m : M D) (st : S) : mItemsN m st = (match m st with | some (.nd true kvs, s) => some (pairsD (frzK kvs), s) | _ => none) := rfl
end Va
namespace Va
open PySem PySem.Spec PySem.Calls PyProof.Rows L2 PySem.W
def ViewRaw (p d : Addr) (h : Heap) : Prop := h.get? p = some { cls := .type "dict_items", data := .fields #[.ref d] }
def tView (td : TE) : TE := fun σ H Q => td σ H fun x H1 => ∃ d o xs, x = .ref d ∧ H1 d = some (.frz o (.ext (NdRaw d xs))) ∧ ∀ p, H1 p = none → Q (.ref p) (upd H1 p (.ext (ViewRaw p d)))
section
variable {X : Cx} {e : Expr} {td : TE} {apos cpos : Pos}
theorem pe_view (he : PE X e td) (hbase : attributeBase e "items" X.env (eval e X.env) = eval e X.env := by rfl) (hline : (apos.endLine == cpos.line) = true := by rfl) :
    PE X (.Call (.Attribute e "items" apos) [] [] cpos) (tView td) := by
  refine ⟨fun pins s σ H Q I h => ?_⟩
  refine wpAny_Call_method (T := "dict") (id := "dict.items") hbase rfl hline F.plainAttrs_dict F.slot_dict_items F.type_dict_items (thn (he.run pins s σ H _ I h) fun u s1 ⟨x, H1, I1, rx, d, o, xs, ex, hd, q⟩ => ?_)
  subst ex
  obtain rfl : u = Value.ref d := rx
  obtain ⟨hgd, hs, es, ep, us, hdt, hx, hr, hsz, p, hl⟩ := nd_raw I1.hok hd
  refine ⟨hr.typeIs, fun a ea => (by cases ea; exact ⟨o, hgd, hx.2.1⟩), ?_⟩
  show wpAny _ _ (callWith cpos (.builtin "dict.items") [.ref d] [] []) _ X.xe s1
  refine method_meetsIn F.slot_dict_items F.entry_dict_items rfl (PySem.evalArgs_none ⟨rfl, hr.typeIs, F.args_dict_items_1 _, _, DT.meetsItems hs, ⟨hr, ?_⟩⟩)
  have hp : (s1.heap.push { cls := .type "dict_items", data := .fields #[.ref d] }).get? s1.heap.objs.size = some { cls := .type "dict_items", data := .fields #[.ref d] } := Heap.get?_push_size _ rfl
  exact ⟨.ref s1.heap.objs.size, _, I1.laid (a := s1.heap.objs.size) (o := .ext (ViewRaw s1.heap.objs.size d)) (t' := s1.toks) (fun _ _ q => Heap.get?_push_of_some _ q) (Nat.le_refl _) ⟨hp, ⟨_, hp⟩, fun h1 h2 e k => k _ e⟩, rfl, q _ (I1.hok.fresh (Nat.le_refl _))⟩
end
theorem reads_pair {h : Heap} {T : Addr} {a b : Value} {x y : PyData} (e : h.get? T = some (pairO a b)) (ha : Reads h a x []) (hb : Reads h b y []) : Reads h (.ref T) (.tuple [x, y]) [] :=
  .tuple e rfl rfl (.cons ha (.cons hb .nil))
theorem alike_pair {a b c d : PyData} (h1 : alike a c = true) (h2 : alike b d = true) : alike (.tuple [a, b]) (.tuple [c, d]) = true := by
  show (alike a c && (alike b d && true)) = true
  rw [h1, h2]
  rfl
theorem depth_pair {a b : PyData} (h1 : a.depth ≤ 3) (h2 : b.depth ≤ 2) : (PyData.tuple [a, b]).depth ≤ 5 := by
  simp only [PyData.depth, PyData.depthAll]
  omega
def rSortV (K : PySem.W.Frag) : List V → Hp → VK → Prop := fun vs H Q => ∃ (r d : Addr) (o : Obj) (k : NestedKey) (b : Addr) (v : V) (kd vd : D) (Fz : Addr → Prop), vs = [V.ref r] ∧ H r = some (.ext (ViewRaw r d)) ∧ H d = some (.frz o (.ext (NdRaw d [(k, b, v)]))) ∧
  Rep K Fz H kd (.ref b) [] ∧ Rep K Fz H vd v [] ∧ lvl 2 kd = true ∧ lvl 1 vd = true ∧ ∀ T p (ob : Obj), H T = none → upd H T (.frz ob (.tup [.ref b, v])) p = none → ob.dict = none → Q (.ref p) (upd (upd H T (.frz ob (.tup [.ref b, v]))) p (.lst [.ref T]))
theorem cr_sortV {X : Cx} (hu : X.A.units + 100 < cLine) (hc : X.calm = true) : CallR X (.builtin "sorted") (rSortV X.K) := by
  intro pins s σ H vs us Q I r h
  obtain ⟨rr, d, o, k, b, v, kd, vd, Fz, rfl, hv, hd, rk, rv, lk, lv, q⟩ := h
  rw [Vals.ref1 r]
  obtain ⟨hgd, hs, es, ep, us', hdt, hx, hr, hsz, p, hl⟩ := nd_raw I.hok hd
  obtain ⟨⟨k', b', u⟩, hu', e1, e2, ru⟩ := paired_get p (i := 0) (x := (k, b, v)) rfl
  dsimp only at e1 e2 ru
  subst e1 e2
  have hview : ViewRaw rr d s.heap := (show ObjOk X.prog X.w H s.heap rr (.ext (ViewRaw rr d)) from I.hok rr _ hv).1
  have hes : es.size = 1 := hsz
  have hent : ∀ e, es[0]? = some e → e.key = .ref b ∧ e.val = u := fun e he => by
    have h1 : es.toList[0]? = some e := by rw [Array.getElem?_toList]; exact he
    rw [hl, List.getElem?_map, hu'] at h1
    have := (Option.some.inj h1).symm
    subst this
    exact ⟨rfl, rfl⟩
  refine DT.sortedI (A := X.A) (I.ok.hd hc) ⟨_, hview, rfl, rfl⟩ hr (by rw [hes, sizeLine_eq]; decide) fun h' tk as hk hlt hal hG => ?_
  obtain ⟨T, rfl⟩ : ∃ T, as = [T] := List.length_eq_one_iff.mp (by rw [hal, hes])
  obtain ⟨e, he, hT⟩ := hG.pairs 0 T rfl
  obtain ⟨ek, ev⟩ := hent e he
  rw [ek, ev] at hT
  have hTl : s.heap.objs.size < T := hG.above T (by simp)
  have hT2 : h'.get? T = some (pairO (.ref b) u) := hT
  have new : ObjOk X.prog X.w (upd H T (.frz (pairO (.ref b) u) (.tup [.ref b, v]))) h' T (.frz (pairO (.ref b) u) (.tup [.ref b, v])) :=
    ⟨hT2, by show 2 ≤ sizeLine; rw [sizeLine_eq]; decide, [.ref b, u], .cons rfl (.cons ru .nil), ⟨_, hT2, rfl, _, rfl⟩⟩
  have I1 : Inv X pins σ (upd H T (.frz (pairO (.ref b) u) (.tup [.ref b, v]))) { s with heap := h', toks := tk } :=
    I.laid (a := T) (o := .frz (pairO (.ref b) u) (.tup [.ref b, v])) (h' := h') (t' := tk) hk (Nat.le_of_lt hTl) new
  have hoL : (h'.push { cls := .type "list", data := .seq ([T].map Value.ref).toArray }).get? h'.objs.size = some (seqObj "list" [Value.ref T].toArray 0) := Heap.get?_push_size _ rfl
  have rdk : Reads s.heap (.ref b) (toP 3 kd) [] := reads_lvl I.hok rk lk (show RelV (.ref b) (.ref b) from rfl)
  have rdv : Reads s.heap u (toP 2 vd) [] := reads_lvl I.hok rv lv ru
  have kp : ∀ c w, s.heap.get? c = some w → (h'.push { cls := .type "list", data := .seq ([T].map Value.ref).toArray }).get? c = some w := fun c w e => Heap.get?_push_of_some _ (hk c w e)
  have rdT : Reads (h'.push { cls := .type "list", data := .seq ([T].map Value.ref).toArray }) (.ref T) (.tuple [toP 3 kd, toP 2 vd]) [] :=
    reads_pair (Heap.get?_push_of_some _ hT2) (PyProof.Rows.Reads.keeps kp rdk) (PyProof.Rows.Reads.keeps kp rdv)
  have hn : upd H T (.frz (pairO (.ref b) u) (.tup [.ref b, v])) h'.objs.size = none := I1.hok.fresh (Nat.le_refl _)
  refine list_sort_data (s := { s with heap := h'.push { cls := .type "list", data := .seq ([T].map Value.ref).toArray }, toks := tk }) (R := fun (u : Value) (q : Addr) => u = Value.ref q) (bs := [T]) (vs := [Value.ref T]) (enc := fun _ => .tuple [toP 3 kd, toP 2 vd]) hoL (each_map1 (fun q : Addr => Value.ref q) (l := [T]) fun q _ => rfl) ?_ ?_ ?_ (by show 1 ≤ sizeLine; rw [sizeLine_eq]; decide) (fun q hq => ?_) fun out hol eo => ?_
  · exact each_map1 (fun q : Addr => Value.ref q) (l := [T]) fun q hq => ⟨[], by rw [List.mem_singleton.mp hq]; exact rdT, by simp⟩
  · intro x hx y hy
    rw [List.mem_singleton.mp hx, List.mem_singleton.mp hy]
    exact alike_pair (lvl_alike 2 kd kd lk lk) (lvl_alike 1 vd vd lv lv)
  · refine .inl fun x hx => ?_
    rw [List.mem_singleton.mp hx]
    exact ⟨_, _, rfl⟩
  · have h1 := toP_depth 3 kd
    have h2 := toP_depth 2 vd
    have : (PyData.tuple [toP 3 kd, toP 2 vd]).depth ≤ 5 := depth_pair h1 h2
    show X.A.units + 1 + 1 + _ < cLine
    omega
  · have hout : out = [Value.ref T] := by
      have := each_eq eo
      simpa using this
    subst hout
    obtain ⟨c, hc'⟩ := sortedHeap_at (vs := [Value.ref T]) (out := [Value.ref T].toArray) hoL
    have fin : ∀ b' w, h'.get? b' = some w → (sortedHeap (h'.push { cls := .type "list", data := .seq ([T].map Value.ref).toArray }) h'.objs.size [Value.ref T] [Value.ref T].toArray).get? b' = some w := fun b' w e => by
      have hlt := Heap.lt_size e
      rw [sortedHeap_old (Nat.ne_of_lt hlt) (by rw [size_push']; exact Nat.lt_succ_of_lt hlt)]
      exact Heap.get?_push_of_some _ e
    have hvv : Vals [V.ref T] [Value.ref T] := .cons rfl .nil
    have J : Inv X pins σ (upd (upd H T (.frz (pairO (.ref b) u) (.tup [.ref b, v]))) h'.objs.size (.lst [.ref T])) { s with heap := sortedHeap (h'.push { cls := .type "list", data := .seq ([T].map Value.ref).toArray }) h'.objs.size [Value.ref T] [Value.ref T].toArray, toks := tk } :=
      I1.laid (a := h'.objs.size) (o := .lst [.ref T]) (t' := tk) fin (Nat.le_refl _) ⟨by show 1 ≤ sizeLine; rw [sizeLine_eq]; decide, [Value.ref T], c, hvv, hc'⟩
    exact ⟨.ref h'.objs.size, _, J, rfl, q T h'.objs.size _ (I.hok.fresh (Nat.le_of_lt hTl)) hn rfl⟩
/-- an object beside the told ones -/
theorem ext_new {K : PySem.W.Frag} {Fz2 : Addr → Prop} {H2 : Hp} {st : S} {σ : List (Option V)} {fp : List Addr} {T : Addr} {o : HO} (C : Cfg K Fz2 H2 st σ fp) (hT : H2 T = none) :
    Cfg K Fz2 (upd H2 T o) st σ fp ∧ Go Fz2 H2 fp Fz2 (upd H2 T o) fp := by
  have kk : ∀ {a u}, H2 a = some u → upd H2 T o a = some u := fun {a u} e => by rw [upd_ne (ne_of_none e hT)]; exact e
  refine ⟨⟨C.rep.keep (fun _ h => h) (fun _ _ _ e => kk e) fun _ _ _ e => kk e, C.nd, C.fz, fun a z => ?_⟩, ⟨fun _ _ e _ => kk e, fun a e => ?_, fun _ h => h, fun a z => .inl z, fun _ h => .inl h⟩⟩
  · by_cases ea : a = T
    · rw [ea, upd_same]; exact Option.some_ne_none _
    · rw [upd_ne ea]; exact C.ft a z
  · by_cases ea : a = T
    · rw [ea]; exact hT
    · rw [upd_ne ea] at e; exact e
/-- the sorted items of an owned dict with nested keys, of one entry -/
def mSortI (m : M D) : M D := fun st => match m st with
  | some (.nd true [(k, v)], s) => match lvl 2 k && lvl 1 v with
    | true => some (.lst true [.tup [k, v]], s)
    | false => none
  | _ => none
theorem lvl_frz : ∀ {k : Nat} {d : D}, lvl k d = true → Va.frz d = d
  | 0, .int _, _ => rfl
  | k + 1, .tup _, _ => rfl
  | 0, .tup _, h => by simp [lvl] at h
  | k + 1, .int _, _ => rfl
  | _, .non, _ => rfl
  | _, .bl _, _ => rfl
  | _, .str _, _ => rfl
  | _, .rol _, _ => rfl
  | 0, .lst _ _, h => by simp [lvl] at h
  | k + 1, .lst _ _, h => by simp [lvl] at h
  | 0, .dic _ _, h => by simp [lvl] at h
  | k + 1, .dic _ _, h => by simp [lvl] at h
  | 0, .nd _ _, h => by simp [lvl] at h
  | k + 1, .nd _ _, h => by simp [lvl] at h
  | 0, .ld _, h => by simp [lvl] at h
  | k + 1, .ld _, h => by simp [lvl] at h
section
variable {Γ : Gam} {Φ : GCx → Prop}
theorem se_sortI {e : Expr} {m : M D} (h : SE Γ Φ e m) {p pos apos cpos : Pos} (hb : ∀ env : Env, attributeBase e "items" env (eval e env) = eval e env := by intro _; rfl) (hline : (apos.endLine == cpos.line) = true := by rfl)
    (hv : bootBuiltins "sorted" = some (.builtin "sorted")) (hbl : ∀ g, Φ g → g.mg "sorted" = none) (hg : gGl Γ.sc "sorted" = true := by rfl) (ns : NoStar (.Call (.Attribute e "items" apos) [] [] cpos) := by intro _ _; rfl) : SE Γ Φ (.Call (.Name "sorted" p) [.Call (.Attribute e "items" apos) [] [] cpos] [] pos) (mSortI m) := fun X o =>
  pe_imp (pe_callB (cr_sortV o.hu o.calm) (o.gl hg) (hbl _ o.phi) hv (pa_cons (pe_view (pe_lockF (h X o)) (hb _) hline) pa_nil (ns _ _)) (by decide) (by decide) (ns _ _)) fun σ H Q q => by
    obtain ⟨Fz, fp, st, C, ds, st', e, kk⟩ := q
    unfold mSortI at e
    split at e
    · rename_i k v s hm
      split at e
      · rename_i hlv
        cases e
        rw [Bool.and_eq_true] at hlv
        refine ⟨Fz, fp, st, C, _, _, hm, fun w H' Fz' fp' C1 g1 => ?_⟩
        obtain ⟨R1, nd, fz, ft⟩ := C1
        cases R1 with
        | @cons _ _ f g _ _ r s' =>
          cases r with
          | som r =>
            cases r with
            | @ndO a _ vs fi qa ra =>
              have nn := List.nodup_append.mp nd
              have na : a ∉ g := fun h => nn.2.2 a (List.mem_cons_self ..) a h rfl
              have nfi : a ∉ fi := (List.nodup_cons.mp nn.1).1
              have za : ¬ Fz' a := fun z => fz a (List.mem_append_left _ (List.mem_cons_self ..)) z
              have nz : ∀ x, Fz' x → x ≠ a := fun x z e => za (e ▸ z)
              have zfi : ∀ x ∈ fi, ¬ Fz' x := fun x hx z => fz x (List.mem_append_left _ (List.mem_cons_of_mem _ hx)) z
              have dfi : ∀ x ∈ fi, x ∉ g := fun x hx q => nn.2.2 x (List.mem_cons_of_mem _ hx) x q rfl
              have rf : RepN X.K (fun x => Fz' x ∨ x ∈ fi) H' (frzK [(k, v)]) vs [] := RepN.frz (fun x z => .inl z) ra fun x hx => .inr hx
              refine ⟨a, _, rfl, qa, trivial, fun od => ⟨a, od, vs, rfl, upd_same, fun r hr => ?_⟩⟩
              have C2 : Cfg X.K (fun x => Fz' x ∨ x ∈ a :: fi) (upd H' a (.frz od (.ext (NdRaw a vs)))) st' σ g := by
                refine ⟨s'.keep (fun _ h => .inl h) (fun x u z e => by rw [upd_ne (nz x z)]; exact e) (fun x u z e => by rw [upd_ne (fun q : x = a => na (q ▸ z))]; exact e), nn.2.1, fun x hx z => ?_, fun x z => ?_⟩
                · rcases z with z | z
                  · exact fz x (List.mem_append_right _ hx) z
                  · rcases List.mem_cons.mp z with z | z
                    · exact na (z ▸ hx)
                    · exact dfi x z hx
                · by_cases ea : x = a
                  · rw [ea, upd_same]; exact Option.some_ne_none _
                  · rw [upd_ne ea]
                    rcases z with z | z
                    · exact ft x z
                    · rcases List.mem_cons.mp z with z | z
                      · exact absurd z ea
                      · exact ra.there x z
              have G2 : Go Fz H fp (fun x => Fz' x ∨ x ∈ a :: fi) (upd H' a (.frz od (.ext (NdRaw a vs)))) g := by
                refine g1.trans ⟨fun x u e nx => ?_, fun x e => ?_, fun _ h => .inl h, fun x z => ?_, fun x hx => .inl (List.mem_append_right _ hx)⟩
                · rw [upd_ne (fun q : x = a => nx (by rw [q]; exact List.mem_append_left _ (List.mem_cons_self ..)))]; exact e
                · by_cases ea : x = a
                  · rw [ea, upd_same] at e; cases e
                  · rw [upd_ne ea] at e; exact e
                · rcases z with z | z
                  · exact .inl z
                  · rcases List.mem_cons.mp z with z | z
                    · exact .inr (.inl (by rw [z]; exact List.mem_append_left _ (List.mem_cons_self ..)))
                    · exact .inr (.inl (List.mem_append_left _ (List.mem_cons_of_mem _ z)))
              have rf2 : RepN X.K (fun x => Fz' x ∨ x ∈ a :: fi) (upd H' a (.frz od (.ext (NdRaw a vs)))) (frzK [(k, v)]) vs [] := rf.keep (fun x z => z.imp id fun q => List.mem_cons_of_mem _ q) (fun x u z e => by
                rw [upd_ne (fun q : x = a => ?_)]
                · exact e
                · rcases z with z | z
                  · exact za (q ▸ z)
                  · exact nfi (q ▸ z)) fun _ _ h => nomatch h
              obtain ⟨nk, b, y, hx0, hk0, hv0⟩ := rf2.at_ rfl (i := 0) (p := (k, Va.frz v)) rfl
              have hvs : vs = [(nk, b, y)] := by
                have hl := rf2.length
                cases vs with
                | nil => simp at hx0
                | cons c vs =>
                  simp at hx0
                  subst hx0
                  cases vs with
                  | nil => rfl
                  | cons _ _ => exact absurd hl (by show ¬ 1 = _; simp)
              subst hvs
              rw [lvl_frz hlv.2] at hv0
              have hra : r ≠ a := fun e => by
                rw [e, upd_same] at hr
                cases hr
              obtain ⟨C3, G3⟩ := ext_new (o := .ext (ViewRaw r a)) C2 hr
              have kp : ∀ {x u}, upd H' a (.frz od (.ext (NdRaw a [(nk, b, y)]))) x = some u → upd (upd H' a (.frz od (.ext (NdRaw a [(nk, b, y)])))) r (.ext (ViewRaw r a)) x = some u := fun {x u} e => by rw [upd_ne (ne_of_none e hr)]; exact e
              have hk1 := hk0.keep (fun _ h => h) (fun _ _ _ e => kp e) fun _ _ h => nomatch h
              have hv1 := hv0.keep (fun _ h => h) (fun _ _ _ e => kp e) fun _ _ h => nomatch h
              refine ⟨r, a, od, nk, b, y, k, v, _, rfl, upd_same, kp upd_same, hk1, hv1, hlv.1, hlv.2, fun T pp ob hT hp hob => ?_⟩
              obtain ⟨Fz4, C4, G4, rT⟩ := pair_new hob C3 hT hk1 hv1
              exact fin_new (z := .lst true [.tup [k, v]]) (s := st') (T := []) (TV := []) (f3 := [pp]) (Fz3 := Fz4) kk rfl C4 ((G2.trans G3).trans G4) hp (.inl ⟨rfl, rfl⟩) (.lstO upd_same (.cons (f := []) (g := []) (rT.keep (fun _ h => h) (fun x u z e => by rw [upd_ne (ne_of_none e hp)]; exact e) fun _ _ h => nomatch h) .nil))
      · cases e
    · cases e
end
@[simp] theorem ev_mSortI (m : M D) (st : S) : mSortI m st = (match m st with
  | some (.nd true [(k, v)], s) => (match lvl 2 k && lvl 1 v with | true => some (.lst true [.tup [k, v]], s) | false => none)
  | _ => none) := rfl
end Va
namespace K53
open PySem PySem.Spec PyProof.Rows L2 Va
def top (i : Nat) : Stmt := PySem.Challenge.pw_sharebags_k53_blind_refused.main.body.getD i (.Pass ⟨0, 0, 0, 0⟩)
def bs : List Str := ["isinstance", "int", "bool", "zip", "all", "tuple", "len", "max", "range", "enumerate", "sorted", "sum", "abs", "any", "list", "ValueError"]
def gis : List (Str × Int) := [("MOST_BEADS", 60), ("MOST_BAGS", 8)]
def xs : List Str := ["BadNumber", "BadBags", "BadFamily", "TooGreat", "BadBead", "BagError"]
def clauses : List (Str × Str) := [("BadBags", "BadBags"), ("BadFamily", "BadFamily"), ("BadBead", "BadBead"), ("BadNumber", "BadNumber"), ("TooGreat", xtag "TooGreat" 0), ("BagError", "other")]
def d_is_int : He.DefD := ⟨("is_int", none), "is_int", "is_int", defArgs (top 9), defBody (top 9), defScope (top 9), [], []⟩
def d_is_in : He.DefD := ⟨("is_in", none), "is_in", "is_in", defArgs (top 10), defBody (top 10), defScope (top 10), [], []⟩
def d_need_number : He.DefD := ⟨("need_number", none), "need_number", "need_number", defArgs (top 11), defBody (top 11), defScope (top 11), [], []⟩
def d_is_rising : He.DefD := ⟨("is_rising", none), "is_rising", "is_rising", defArgs (top 12), defBody (top 12), defScope (top 12), [], []⟩
def d_is_bag : He.DefD := ⟨("is_bag", none), "is_bag", "is_bag", defArgs (top 13), defBody (top 13), defScope (top 13), [], []⟩
def d_need_bags : He.DefD := ⟨("need_bags", none), "need_bags", "need_bags", defArgs (top 14), defBody (top 14), defScope (top 14), [], []⟩
def d_size_of : He.DefD := ⟨("size_of", none), "size_of", "size_of", defArgs (top 15), defBody (top 15), defScope (top 15), [], []⟩
def d_shared_by : He.DefD := ⟨("shared_by", none), "shared_by", "shared_by", defArgs (top 16), defBody (top 16), defScope (top 16), [], []⟩
def d_homes_of : He.DefD := ⟨("homes_of", none), "homes_of", "homes_of", defArgs (top 17), defBody (top 17), defScope (top 17), [], []⟩
def d_reached_from : He.DefD := ⟨("reached_from", none), "reached_from", "reached_from", defArgs (top 18), defBody (top 18), defScope (top 18), [], []⟩
def d_bar_of : He.DefD := ⟨("bar_of", none), "bar_of", "bar_of", defArgs (top 19), defBody (top 19), defScope (top 19), [], []⟩
def d_ring_of : He.DefD := ⟨("ring_of", none), "ring_of", "ring_of", defArgs (top 20), defBody (top 20), defScope (top 20), [], []⟩
def d_need_family : He.DefD := ⟨("need_family", none), "need_family", "need_family", defArgs (top 21), defBody (top 21), defScope (top 21), [], []⟩
def d_need_few : He.DefD := ⟨("need_few", none), "need_few", "need_few", defArgs (top 22), defBody (top 22), defScope (top 22), [], []⟩
def d_need_bead : He.DefD := ⟨("need_bead", none), "need_bead", "need_bead", defArgs (top 23), defBody (top 23), defScope (top 23), [], []⟩
def d_poured_at : He.DefD := ⟨("poured_at", none), "poured_at", "poured_at", defArgs (top 24), defBody (top 24), defScope (top 24), [], []⟩
def d_pairs_of : He.DefD := ⟨("pairs_of", none), "pairs_of", "pairs_of", defArgs (top 25), defBody (top 25), defScope (top 25), [], []⟩
def d_common : He.DefD := ⟨("common", none), "common", "common", defArgs (top 27), defBody (top 27), defScope (top 27), [], []⟩
def d_lowered : He.DefD := ⟨("lowered", none), "lowered", "lowered", defArgs (top 28), defBody (top 28), defScope (top 28), [], []⟩
def d_plus : He.DefD := ⟨("plus", none), "plus", "plus", defArgs (top 31), defBody (top 31), defScope (top 31), [], []⟩
def d_after : He.DefD := ⟨("after", none), "after", "after", defArgs (top 32), defBody (top 32), defScope (top 32), [], []⟩
def d_need_blind : He.DefD := ⟨("need_blind", none), "need_blind", "need_blind", defArgs (top 33), defBody (top 33), defScope (top 33), [], []⟩
def d_chances : He.DefD := ⟨("chances", none), "chances", "chances", defArgs (top 34), defBody (top 34), defScope (top 34), [], []⟩
def d_are_together : He.DefD := ⟨("are_together", none), "are_together", "are_together", defArgs (top 35), defBody (top 35), defScope (top 35), [], []⟩
def d_together_chance : He.DefD := ⟨("together_chance", none), "together_chance", "together_chance", defArgs (top 36), defBody (top 36), defScope (top 36), [], []⟩
def d_mean_wait : He.DefD := ⟨("mean_wait", none), "mean_wait", "mean_wait", defArgs (top 37), defBody (top 37), defScope (top 37), [], []⟩
def d_mean_greatest : He.DefD := ⟨("mean_greatest", none), "mean_greatest", "mean_greatest", defArgs (top 38), defBody (top 38), defScope (top 38), [], []⟩
def d_likeliest : He.DefD := ⟨("likeliest", none), "likeliest", "likeliest", defArgs (top 39), defBody (top 39), defScope (top 39), [], []⟩
def d_last_pair : He.DefD := ⟨("last_pair", none), "last_pair", "last_pair", defArgs (top 40), defBody (top 40), defScope (top 40), [], []⟩
def d__law_taken : He.DefD := ⟨("_law_taken", none), "_law_taken", "_law_taken", defArgs (top 42), defBody (top 42), defScope (top 42), [], []⟩
def d__law_pick : He.DefD := ⟨("_law_pick", none), "_law_pick", "_law_pick", defArgs (top 43), defBody (top 43), defScope (top 43), [], []⟩
def d__law_mixed : He.DefD := ⟨("_law_mixed", none), "_law_mixed", "_law_mixed", defArgs (top 44), defBody (top 44), defScope (top 44), [], []⟩
def d__law_named : He.DefD := ⟨("_law_named", none), "_law_named", "_law_named", defArgs (top 45), defBody (top 45), defScope (top 45), [], []⟩
def d__law_family : He.DefD := ⟨("_law_family", none), "_law_family", "_law_family", defArgs (top 46), defBody (top 46), defScope (top 46), [], []⟩
def d__law_size : He.DefD := ⟨("_law_size", none), "_law_size", "_law_size", defArgs (top 47), defBody (top 47), defScope (top 47), [], []⟩
def d__law_wrong_bags : He.DefD := ⟨("_law_wrong_bags", none), "_law_wrong_bags", "_law_wrong_bags", defArgs (top 48), defBody (top 48), defScope (top 48), [], []⟩
def d__law_no_family : He.DefD := ⟨("_law_no_family", none), "_law_no_family", "_law_no_family", defArgs (top 49), defBody (top 49), defScope (top 49), [], []⟩
def d__law_error : He.DefD := ⟨("_law_error", none), "_law_error", "_law_error", defArgs (top 50), defBody (top 50), defScope (top 50), [], []⟩
def d_law : He.DefD := ⟨("law", none), "law", "law", defArgs (top 51), defBody (top 51), defScope (top 51), [], []⟩
abbrev R : PySem.W.OpenRow := PySem.W.OpenLaw.row PySem.Challenge.rw_sharebags_k53_blind_refused
def fal : List He.Fa := (bs.map .free ++ (gis.map gFa ++ ([d_is_int, d_is_in, d_need_number, d_is_rising, d_is_bag, d_need_bags, d_size_of, d_shared_by, d_homes_of, d_reached_from, d_bar_of, d_ring_of, d_need_family, d_need_few, d_need_bead, d_poured_at, d_pairs_of, d_common, d_lowered, d_plus, d_after, d_need_blind, d_chances, d_are_together, d_together_chance, d_mean_wait, d_mean_greatest, d_likeliest, d_last_pair, d__law_taken, d__law_pick, d__law_mixed, d__law_named, d__law_family, d__law_size, d__law_wrong_bags, d__law_no_family, d__law_error, d_law] : List He.DefD).map fun d => .glo d.name)) ++ exOf xs clauses
def fnl : List He.DefD := [d_is_int, d_is_in, d_need_number, d_is_rising, d_is_bag, d_need_bags, d_size_of, d_shared_by, d_homes_of, d_reached_from, d_bar_of, d_ring_of, d_need_family, d_need_few, d_need_bead, d_poured_at, d_pairs_of, d_common, d_lowered, d_plus, d_after, d_need_blind, d_chances, d_are_together, d_together_chance, d_mean_wait, d_mean_greatest, d_likeliest, d_last_pair, d__law_taken, d__law_pick, d__law_mixed, d__law_named, d__law_family, d__law_size, d__law_wrong_bags, d__law_no_family, d__law_error, d_law]
def tf : List He.Defn := [("law", none)]
abbrev hk : PySem.W.Hook := hookA asX fal fnl [] tf (exY (PySem.Challenge.rw_sharebags_k53_blind_refused).prog xs)
def ob (s : PySem.W.SharedT) : He.AlX := obsA asX fal fnl [] tf (exY (PySem.Challenge.rw_sharebags_k53_blind_refused).prog xs) (HandSHeadRun.getT s)
theorem ob_eq (s : PySem.W.SharedT) : ob s = hk.obs s.abs := obsA_eq (HandSHeadRun.getT_eq s)
def loose : List Str := (["BagError", "BadBags", "BadFamily", "BadBead", "BadNumber", "TooGreat", "MOST_BEADS", "is_int", "is_in", "need_number", "is_rising", "is_bag", "need_bags", "size_of", "shared_by", "homes_of", "reached_from", "bar_of", "ring_of", "need_family", "need_few", "need_bead", "poured_at", "pairs_of", "common", "lowered", "MOST_BAGS", "plus", "after", "need_blind"] : List Str) ++ (["chances", "are_together", "together_chance", "mean_wait", "mean_greatest", "likeliest", "last_pair", "_law_taken", "_law_pick", "_law_mixed", "_law_named", "_law_family", "_law_size", "_law_wrong_bags", "_law_no_family", "_law_error"] : List Str)
set_option maxHeartbeats 0 in
theorem run (w : World) : HandSHeadRun.RunEq R (PySem.W.view R.prog [51]) hk ob 4000 loose w := by
  intro os
  kernel_rfl
end K53
namespace Pl
open Va
def m_is_int : M Fl := (mRet (mD (mAnd (mB (m1 (.v 0) (isiF .int))) (mNot (mB (m1 (.v 0) (isiF .bool)))))))
def f_is_int : Fn := runD 1 1 (fun i => ([true] : List Bool).getD i false) (m_is_int)
def m_is_in (c_is_int : Fn) : M Fl := (mRet (mD (mAnd (mB (mCall c_is_int (mCons (mTake 0) mNil) [some 0])) (mB (mChain .LtE .LtE (.v 1) (.v 0) (.v 2))))))
def f_is_in (c_is_int : Fn) : Fn := runD 3 3 (fun i => ([true, true, true] : List Bool).getD i false) (m_is_in c_is_int)
def m_need_number (c_is_in : Fn) : M Fl := (mIf (mNot (mTru (mCall c_is_in (mCons (mTake 0) (mCons (mTake 1) (mCons (mTake 2) mNil))) [some 0, some 1, some 2]))) (fun _ => none) mNx)
def m_is_rising : M Fl := (mRet (m1 (.e (mLc (mZip (mCons (mVar 0) (mCons (mSl (.v 0) (some (mC (.int 1))) none) mNil))) (.t [1, 2]) mYes (m2 (.v 1) (.v 2) (cmpF .Lt)) [1, 2])) allF))
def f_is_rising : Fn := runD 3 1 (fun i => ([true] : List Bool).getD i false) (m_is_rising)
def m_is_bag (c_is_in c_is_rising : Fn) : M Fl := (mSeq (mIf (mOr (mNot (mTru (m1 (.v 0) (isiF .tuple)))) (mB (m2 (.e (m1 (.v 0) lenF)) (.e (mC (.int 2))) (cmpF .Lt)))) (mRet (mC (.bl false))) mNx) (mRet (mD (mAnd (mB (m1 (.e (mLc (mItems (mVar 0)) (.n 1) mYes (mCall c_is_in (mCons (mTake 1) (mCons (mC (.int 0)) (mCons (m2 (.e (mC (.int 60))) (.e (mC (.int 1))) subF) mNil))) [some 1, none, none]) [1])) allF)) (mB (mCall c_is_rising (mCons (mTake 0) mNil) [some 0]))))))
def f_is_bag (c_is_in c_is_rising : Fn) : Fn := runD 2 1 (fun i => ([true] : List Bool).getD i false) (m_is_bag c_is_in c_is_rising)
def m_need_bags (c_is_bag c_is_rising : Fn) : M Fl := (mSeq (mIf (mOr (mNot (mTru (m1 (.v 0) (isiF .tuple)))) (mOr (mB (m2 (.v 0) (.e (mTup mNil)) (cmpF .Eq))) (mNot (mTru (m1 (.e (mLc (mItems (mVar 0)) (.n 1) mYes (mCall c_is_bag (mCons (mTake 1) mNil) [some 1]) [1])) allF))))) (fun _ => none) mNx) (mIf (mNot (mTru (mCall c_is_rising (mCons (mTake 0) mNil) [some 0]))) (fun _ => none) mNx))
def f_need_bags (c_is_bag c_is_rising : Fn) : Fn := runD 2 1 (fun i => ([true] : List Bool).getD i false) (m_need_bags c_is_bag c_is_rising)
def m_size_of : M Fl := (mRet (m2 (.e (mC (.int 1))) (.e (m1 (.e (mLc (mItems (mVar 0)) (.n 1) mYes (m2 (.v 1) (.e (m1 (.e (mC (.int 1))) negF)) ixF) [1])) maxF)) addF))
def f_size_of : Fn := runD 2 1 (fun i => ([true] : List Bool).getD i false) (m_size_of)
def m_shared_by : M Fl := (mSeq (mSet 2 (mDc (mItems (mVar 1)) (.n 3) mYes (mVar 3) (mC (.bl true)) [3])) (mRet (mLc (mItems (mVar 0)) (.n 3) (mB (m2 (.v 3) (.v 2) (cmpF .In))) (mVar 3) [3])))
def f_shared_by : Fn := runD 4 2 (fun i => ([true, true] : List Bool).getD i false) (m_shared_by)
def m_homes_of (c_size_of : Fn) : M Fl := (mSeq (mSet 1 (mLc (mRg1 (mCall c_size_of (mCons (mTake 0) mNil) [some 0])) (.n 4) mYes (mLst mNil) [4])) (mSeq (mFor (mEnum (mVar 0)) (.t [2, 3]) (mFor (mItems (mVar 3)) (.n 4) (mDo (mApp2 1 (mVar 4) (.v 2))))) (mRet (mTake 1))))
def f_homes_of (c_size_of : Fn) : Fn := runD 5 1 (fun i => ([true] : List Bool).getD i false) (m_homes_of c_size_of)
def m_reached_from : M Fl := (mSeq (mSet2 3 4 (mCons (mDict1 (mVar 2) (mC (.bl true))) (mCons (mLst (mCons (mVar 2) mNil)) mNil))) (mSeq (mWhile (mB (m2 (.v 4) (.e (mLst mNil)) (cmpF .NotEq))) (mFor (mItems (m2 (.v 0) (.e (mPop 4)) ixF)) (.n 5) (mFor (mItems (m2 (.v 1) (.v 5) ixF)) (.n 6) (mIf (mB (m2 (.v 6) (.v 3) (cmpF .NotIn))) (mSeq (mStore 3 (mVar 6) (mC (.bl true))) (mDo (mApp 4 (mVar 6)))) mNx))) 100000) (mRet (mTake 3))))
def f_reached_from : Fn := runD 7 3 (fun i => ([true, true, true] : List Bool).getD i false) (m_reached_from)
def m_bar_of (c_homes_of c_shared_by c_reached_from c_ring_of : Fn) : M Fl := (mSeq (mSet 1 (mCall c_homes_of (mCons (mTake 0) mNil) [some 0])) (mSeq (mFor (mEnum (mVar 1)) (.t [2, 3]) (mIf (mB (m2 (.v 3) (.e (mLst mNil)) (cmpF .Eq))) (mRet (mTup (mCons (mC (.str "bead")) (mCons (mVar 2) mNil)))) mNx)) (mSeq (mFor (mEnum (mVar 0)) (.t [4, 5]) (mFor (mRg1 (mVar 4)) (.n 6) (mIf (mB (m2 (.e (m1 (.e (mCall c_shared_by (mCons (m2 (.v 0) (.v 6) ixF) (mCons (mTake 5) mNil)) [none, some 5])) lenF)) (.e (mC (.int 1))) (cmpF .Gt))) (mRet (mTup (mCons (mC (.str "two")) (mCons (mVar 6) (mCons (mVar 4) mNil))))) mNx))) (mSeq (mIf (mB (m2 (.e (m1 (.e (mCall c_reached_from (mCons (mTake 0) (mCons (mTake 1) (mCons (mC (.int 0)) mNil))) [some 0, some 1, none])) lenF)) (.e (m1 (.v 0) lenF)) (cmpF .Lt))) (mRet (mTup (mCons (mC (.str "apart")) (mCons (m1 (.e (m1 (.e (mCall c_reached_from (mCons (mTake 0) (mCons (mTake 1) (mCons (mC (.int 0)) mNil))) [some 0, some 1, none])) sortKF)) tupcF) mNil)))) mNx) (mSeq (mIf (mB (m2 (.e (m1 (.e (mLc (mItems (mVar 0)) (.n 7) mYes (m2 (.e (m1 (.v 7) lenF)) (.e (mC (.int 1))) subF) [7])) sumF)) (.e (m2 (.e (m1 (.v 1) lenF)) (.e (mC (.int 1))) subF)) (cmpF .Gt))) (mRet (mTup (mCons (mC (.str "ring")) (mCons (m1 (.e (mCall c_ring_of (mCons (mTake 0) (mCons (mTake 1) mNil)) [some 0, some 1])) tupcF) mNil)))) mNx) (mRet (mC .non)))))))
def f_bar_of (c_homes_of c_shared_by c_reached_from c_ring_of : Fn) : Fn := runD 8 1 (fun i => ([true] : List Bool).getD i false) (m_bar_of c_homes_of c_shared_by c_reached_from c_ring_of)
def m_need_family (c_need_bags c_bar_of : Fn) : M Fl := (mSeq (mDo (mCall c_need_bags (mCons (mTake 0) mNil) [some 0])) (mIf (mB (m2 (.e (mCall c_bar_of (mCons (mTake 0) mNil) [some 0])) (.e (mC .non)) (cmpF .IsNot))) (fun _ => none) mNx))
def f_need_family (c_need_bags c_bar_of : Fn) : Fn := runD 1 1 (fun i => ([true] : List Bool).getD i false) (m_need_family c_need_bags c_bar_of)
def m_is_family (c_is_bag c_is_rising c_bar_of : Fn) : M Fl := (mSeq (mIf (mOr (mNot (mTru (m1 (.v 0) (isiF .tuple)))) (mOr (mB (m2 (.v 0) (.e (mTup mNil)) (cmpF .Eq))) (mNot (mTru (m1 (.e (mLc (mItems (mVar 0)) (.n 1) mYes (mCall c_is_bag (mCons (mTake 1) mNil) [some 1]) [1])) allF))))) (mRet (mC (.bl false))) mNx) (mRet (mD (mAnd (mB (mCall c_is_rising (mCons (mTake 0) mNil) [some 0])) (mB (m2 (.e (mCall c_bar_of (mCons (mTake 0) mNil) [some 0])) (.e (mC .non)) (cmpF .Is)))))))
def f_is_family (c_is_bag c_is_rising c_bar_of : Fn) : Fn := runD 2 1 (fun i => ([true] : List Bool).getD i false) (m_is_family c_is_bag c_is_rising c_bar_of)
def m__law_taken : M Fl := (mSeq (mIf (mB (m2 (.e (m2 (.v 0) (.e (mC (.int 3))) ixF)) (.e (mC (.int 0))) (cmpF .Gt))) (mSeq (mSet 3 (m2 (.e (m1 (.e (m2 (.v 0) (.e (mC (.int 3))) ixF)) intcF)) (.v 1) modF)) (mSeq (mStore 0 (mC (.int 3)) (m2 (.e (m2 (.v 0) (.e (mC (.int 3))) ixF)) (.v 1) fdivF)) (mRet (mTake 3)))) mNx) (mSeq (mStore 0 (mC (.int 1)) (m2 (.e (m2 (.v 0) (.e (mC (.int 1))) ixF)) (.e (mC (.int 1))) addF)) (mSeq (mIf (mB (m2 (.e (m2 (.v 0) (.e (mC (.int 1))) ixF)) (.e (m1 (.e (m2 (.v 0) (.e (mC (.int 0))) ixF)) lenF)) (cmpF .Gt))) (mSeq (mStore 0 (mC (.int 2)) (m2 (.e (m1 (.e (m2 (.e (m2 (.e (m2 (.v 0) (.e (mC (.int 2))) ixF)) (.e (mC (.int 48271))) mulF)) (.e (mC (.int 11))) addF)) intcF)) (.e (mC (.int 2147483647))) modF)) (mRet (m2 (.e (m1 (.e (m2 (.e (m2 (.v 0) (.e (mC (.int 2))) ixF)) (.e (mC (.int 7))) fdivF)) intcF)) (.v 1) modF))) mNx) (mSeq (mSet 2 (m2 (.e (m2 (.v 0) (.e (mC (.int 0))) ixF)) (.e (m2 (.e (m2 (.v 0) (.e (mC (.int 1))) ixF)) (.e (mC (.int 1))) subF)) ixF)) (mSeq (mStore 0 (mC (.int 2)) (m2 (.e (m1 (.e (m2 (.e (m2 (.e (m2 (.e (m2 (.v 0) (.e (mC (.int 2))) ixF)) (.e (mC (.int 48271))) mulF)) (.v 2) addF)) (.e (mC (.int 11))) addF)) intcF)) (.e (mC (.int 2147483647))) modF)) (mSeq (mIf (mB (m2 (.v 2) (.e (m2 (.e (mC (.int 10))) (.e (mC (.int 18))) powF)) (cmpF .GtE))) (mStore 0 (mC (.int 3)) (m2 (.v 2) (.v 1) fdivF)) mNx) (mRet (m2 (.e (m1 (.v 2) intcF)) (.v 1) modF))))))))
def f__law_taken : Fn := runD 4 2 (fun i => ([true, true] : List Bool).getD i false) (m__law_taken)
def m__law_pick (c__law_taken : Fn) : M Fl := (mRet (m2 (.v 1) (.e (mCall c__law_taken (mCons (mTake 0) (mCons (m1 (.v 1) lenF) mNil)) [some 0, none])) ixF))
def f__law_pick (c__law_taken : Fn) : Fn := runD 2 2 (fun i => ([true, true] : List Bool).getD i false) (m__law_pick c__law_taken)
def m__law_mixed (c__law_taken : Fn) : M Fl := (mSeq (mSet2 3 4 (mCons (m1 (.v 1) lstcF) (mCons (mLst mNil) mNil))) (mSeq (mFor (mRg1 (m1 (.v 3) lenF)) (.n 2) (mDo (mApp 4 (mPopAt 3 (mCall c__law_taken (mCons (mTake 0) (mCons (m1 (.v 3) lenF) mNil)) [some 0, none]))))) (mRet (mTake 4))))
def f__law_mixed (c__law_taken : Fn) : Fn := runD 5 2 (fun i => ([true, true] : List Bool).getD i false) (m__law_mixed c__law_taken)
def m__law_named : M Fl := (mRet (m1 (.e (m1 (.e (mLc (mItems (mVar 0)) (.n 2) mYes (m1 (.e (m1 (.e (mLc (mItems (mVar 2)) (.n 3) mYes (m2 (.v 1) (.v 3) ixF) [3])) sortLF)) tupcF) [2])) sortLF)) tupcF))
def f__law_named : Fn := runD 4 2 (fun i => ([true, true] : List Bool).getD i false) (m__law_named)
def m__law_family (c__law_pick c__law_taken c__law_mixed c__law_named : Fn) : M Fl := (mSeq (mSet2 4 5 (mCons (m2 (.e (mC (.int 2))) (.e (mCall c__law_taken (mCons (mTake 0) (mCons (m2 (.v 1) (.e (mC (.int 1))) subF) mNil)) [some 0, none])) addF) (mCons (mCall c__law_pick (mCons (mTake 0) (mCons (mLst (mCons (mC (.int 2)) (mCons (mC (.int 3)) (mCons (mC (.int 3)) (mCons (mC (.int 4)) (mCons (mC (.int 9)) mNil)))))) mNil)) [some 0, none]) mNil))) (mSeq (mSet 2 (mLst (mCons (mLst (mCons (mC (.int 0)) (mCons (mC (.int 1)) mNil))) mNil))) (mSeq (mFor (mRg2 (mC (.int 2)) (mVar 4)) (.n 3) (mIf (mB (m2 (.e (mCall c__law_taken (mCons (mTake 0) (mCons (mTake 5) mNil)) [some 0, some 5])) (.e (mC (.int 0))) (cmpF .Eq))) (mDo (mApp2 2 (mCall c__law_taken (mCons (mTake 0) (mCons (m1 (.v 2) lenF) mNil)) [some 0, none]) (.v 3))) (mDo (mApp 2 (mLst (mCons (mCall c__law_taken (mCons (mTake 0) (mCons (mTake 3) mNil)) [some 0, some 3]) (mCons (mVar 3) mNil))))))) (mRet (mCall c__law_named (mCons (mTake 2) (mCons (mCall c__law_mixed (mCons (mTake 0) (mCons (m1 (.v 4) (rg1F (.lst true))) mNil)) [some 0, none]) mNil)) [some 2, none])))))
def f__law_family (c__law_pick c__law_taken c__law_mixed c__law_named : Fn) : Fn := runD 6 2 (fun i => ([true, true] : List Bool).getD i false) (m__law_family c__law_pick c__law_taken c__law_mixed c__law_named)
def m__law_size : M Fl := (mRet (m2 (.e (mC (.int 1))) (.e (m1 (.e (mLc (mItems (mVar 0)) (.n 1) mYes (m2 (.v 1) (.e (m1 (.e (mC (.int 1))) negF)) ixF) [1])) maxF)) addF))
def f__law_size : Fn := runD 2 1 (fun i => ([true] : List Bool).getD i false) (m__law_size)
end Pl
namespace Pl
open Va L2 PySem
@[simp] theorem ev_mC (d : D) (st : S) : mC d st = (some (d, st)) := rfl
@[simp] theorem ev_mVar (i : Nat) (st : S) : mVar i st = (match st[i]? with
  | some (some d) => match imm d with
    | true => some (d, st)
    | false => some (frz d, st.set i (some (frz d)))
  | _ => none) := rfl
@[simp] theorem ev_m1 (o1 : Opd) (f : D → Option D) (st : S) : m1 o1 f st = (match o1.run st with
  | some (r1, s1) => match o1.val r1 s1 with
    | some a => match f a with
      | some z => some (z, s1)
      | none => none
    | none => none
  | none => none) := rfl
@[simp] theorem ev_m2 (o1 o2 : Opd) (f : D → D → Option D) (st : S) : m2 o1 o2 f st = (match o1.run st with
  | some (r1, s1) => match o2.run s1 with
    | some (r2, s2) => match o1.val r1 s2 with
      | some a => match o2.val r2 s2 with
        | some b => match f a b with
          | some z => some (z, s2)
          | none => none
        | none => none
      | none => none
    | none => none
  | none => none) := rfl
@[simp] theorem ev_mB (m : M D) (st : S) : mB m st = (match m st with
  | some (.bl b, s) => some (b, s)
  | _ => none) := rfl
@[simp] theorem ev_mD (m : M Bool) (st : S) : mD m st = (match m st with
  | some (b, s) => some (.bl b, s)
  | _ => none) := rfl
@[simp] theorem ev_mAnd (a b : M Bool) (st : S) : mAnd a b st = (match a st with
  | some (true, s) => b s
  | some (false, s) => some (false, s)
  | none => none) := rfl
@[simp] theorem ev_mOr (a b : M Bool) (st : S) : mOr a b st = (match a st with
  | some (true, s) => some (true, s)
  | some (false, s) => b s
  | none => none) := rfl
@[simp] theorem ev_mNot (a : M Bool) (st : S) : mNot a st = (match a st with
  | some (b, s) => some (!b, s)
  | none => none) := rfl
@[simp] theorem ev_mIte (c : M Bool) (a b : M D) (st : S) : mIte c a b st = (match c st with
  | some (true, s) => a s
  | some (false, s) => b s
  | none => none) := rfl
@[simp] theorem ev_mTru (m : M D) (st : S) : mTru m st = (match m st with
  | some (d, s) => match truD d with
    | some b => some (b, s)
    | none => none
  | none => none) := rfl
@[simp] theorem ev_mChain (op op' : CmpOp) (a b c : Opd) (st : S) : mChain op op' a b c st = (match a.run st with
  | some (r1, s1) => match b.run s1 with
    | some (r2, s2) => match a.val r1 s2, b.val r2 s2 with
      | some x, some y => match cmpF op x y with
        | some (.bl false) => some (.bl false, s2)
        | some (.bl true) => match c.run s2 with
          | some (r3, s3) => match b.val r2 s3, c.val r3 s3 with
            | some y', some z => match cmpF op' y' z with
              | some w => some (w, s3)
              | none => none
            | _, _ => none
          | none => none
        | _ => none
      | _, _ => none
    | none => none
  | none => none) := rfl
@[simp] theorem ev_mNil (st : S) : mNil st = (some ([], st)) := rfl
@[simp] theorem ev_mCons (m : M D) (r : M (List D)) (st : S) : mCons m r st = (match m st with
  | some (d, s) => match r s with
    | some (ds, s') => some (d :: ds, s')
    | none => none
  | none => none) := rfl
@[simp] theorem ev_mStar (m : M D) (r : M (List D)) (st : S) : mStar m r st = (match m st with
  | some (d, s) => match seqOf d with
    | some (_, xs) => match xs.all imm with
      | true => match r s with
        | some (ds, s') => some (xs ++ ds, s')
        | none => none
      | false => none
    | none => none
  | none => none) := rfl
@[simp] theorem ev_mTup (m : M (List D)) (st : S) : mTup m st = (match m st with
  | some (ds, s) => match Nat.ble ds.length LN with
    | true => some (.tup (ds.map frzA), s)
    | false => none
  | none => none) := rfl
@[simp] theorem ev_mLst (m : M (List D)) (st : S) : mLst m st = (match m st with
  | some (ds, s) => match Nat.ble ds.length LN with
    | true => some (.lst true ds, s)
    | false => none
  | none => none) := rfl
@[simp] theorem ev_mPart (m : Option (M D)) (st : S) : mPart m st = (match m with
  | none => some (none, st)
  | some m => match m st with
    | some (.int i, s) => some (some i, s)
    | _ => none) := rfl
@[simp] theorem ev_mSl (o1 : Opd) (lo hi : Option (M D)) (st : S) : mSl o1 lo hi st = (match o1.run st with
  | some (r1, s1) => match mPart lo s1 with
    | some (l, s2) => match mPart hi s2 with
      | some (h, s3) => match o1.val r1 s3 with
        | some a => match slF l h a with
          | some z => some (z, s3)
          | none => none
        | none => none
      | none => none
    | none => none
  | none => none) := rfl
@[simp] theorem ev_mTake (i : Nat) (st : S) : mTake i st = (match st[i]? with
  | some (some d) => match imm d with
    | true => some (d, st)
    | false => some (d, st.set i none)
  | _ => none) := rfl
@[simp] theorem ev_mCall (φ : Fn) (m : M (List D)) (b : Back) (st : S) : mCall φ m b st = (match m st with
  | some (ds, s) => match φ ds with
    | some (d, outs) => some (d, restore b ds outs s)
    | none => none
  | none => none) := rfl
@[simp] theorem ev_mNx (st : S) : mNx st = (some (.nx, st)) := rfl
@[simp] theorem ev_mSeq (a b : M Fl) (st : S) : mSeq a b st = (match a st with
  | some (.nx, s) => b s
  | r => r) := rfl
@[simp] theorem ev_mDo (m : M D) (st : S) : mDo m st = (match m st with
  | some (_, s) => some (.nx, s)
  | none => none) := rfl
@[simp] theorem ev_mRet (m : M D) (st : S) : mRet m st = (match m st with
  | some (d, s) => some (.ret d, s)
  | none => none) := rfl
@[simp] theorem ev_mIf (c : M Bool) (a b : M Fl) (st : S) : mIf c a b st = (match c st with
  | some (true, s) => a s
  | some (false, s) => b s
  | none => none) := rfl
@[simp] theorem ev_mSet (i : Nat) (m : M D) (st : S) : mSet i m st = (match m st with
  | some (d, s) => some (.nx, s.set i (some d))
  | none => none) := rfl
@[simp] theorem ev_mSet2 (i j : Nat) (m : M (List D)) (st : S) : mSet2 i j m st = (match m st with
  | some ([d, e], s) => some (.nx, (s.set i (some d)).set j (some e))
  | _ => none) := rfl
@[simp] theorem ev_mItems (m : M D) (st : S) : mItems m st = (match m st with
  | some (d, s) => match seqOf (frzA d) with
    | some (_, xs) => some (xs, s)
    | none => none
  | none => none) := rfl
@[simp] theorem ev_mEnum (m : M D) (st : S) : mEnum m st = (match mItems m st with
  | some (ds, s) => some (enumD 0 ds, s)
  | none => none) := rfl
@[simp] theorem ev_mRg1 (m : M D) (st : S) : mRg1 m st = (match m st with
  | some (.int n, s) => match smallI n with
    | true => some (rgD 0 n, s)
    | false => none
  | _ => none) := rfl
@[simp] theorem ev_mRg2 (m m' : M D) (st : S) : mRg2 m m' st = (match m st with
  | some (.int a, s) => match m' s with
    | some (.int b, s') => match smallI a && smallI b with
      | true => some (rgD a b, s')
      | false => none
    | _ => none
  | _ => none) := rfl
@[simp] theorem ev_mFor (mi : M (List D)) (t : Tgt) (b : M Fl) (st : S) : mFor mi t b st = (match mi st with
  | some (ds, s) => forL t b ds s
  | none => none) := rfl
@[simp] theorem ev_mYes (st : S) : mYes st = (some (true, st)) := rfl
@[simp] theorem ev_mApp (i : Nat) (m : M D) (st : S) : mApp i m st = (match isLst i st with
  | true => match m st with
    | some (d, s) => match s[i]? with
      | some (some (.lst true xs)) => match Nat.blt xs.length LN with
        | true => some (.non, s.set i (some (.lst true (xs ++ [d]))))
        | false => none
      | _ => none
    | none => none
  | false => none) := rfl
@[simp] theorem ev_mPop (i : Nat) (st : S) : mPop i st = (match st[i]? with
  | some (some (.lst true xs)) => match xs[xs.length - 1]? with
    | some y => some (y, st.set i (some (.lst true (xs.eraseIdx (xs.length - 1)))))
    | none => none
  | _ => none) := rfl
@[simp] theorem ev_mPopAt (i : Nat) (m : M D) (st : S) : mPopAt i m st = (match isLst i st with
  | true => match m st with
    | some (.int j, s) => match s[i]? with
      | some (some (.lst true xs)) => match smallI j with
        | true => match seqIndex? j xs.length with
          | some k => match xs[k]? with
            | some y => some (y, s.set i (some (.lst true (xs.eraseIdx k))))
            | none => none
          | none => none
        | false => none
      | _ => none
    | _ => none
  | false => none) := rfl
@[simp] theorem ev_mStore (i : Nat) (mk mv : M D) (st : S) : mStore i mk mv st = (match mv st with
  | some (d, s1) => match isBox i s1 with
    | true => match mk s1 with
      | some (k, s2) => match storeAt i k d s2 with
        | some s3 => some (.nx, s3)
        | none => none
      | none => none
    | false => none
  | none => none) := rfl
@[simp] theorem ev_mApp2 (i : Nat) (mk : M D) (a : Atm) (st : S) : mApp2 i mk a st = (match isLst i st with
  | true => match mk st with
    | some (.int j, s) => match s[i]?, a.get s with
      | some (some (.lst true xs)), some d => match ixN xs.length j with
        | some j => match xs[j]? with
          | some (.lst true ys) => match Nat.blt ys.length LN with
            | true => some (.non, s.set i (some (.lst true (xs.set j (.lst true (ys ++ [d]))))))
            | false => none
          | _ => none
        | none => none
      | _, _ => none
    | _ => none
  | false => none) := rfl
@[simp] theorem ev_mDict0 (st : S) : mDict0 st = (some (.dic true [], st)) := rfl
@[simp] theorem ev_mDict1 (mk mv : M D) (st : S) : mDict1 mk mv st = (match mk st with
  | some (k, s) => match mv s with
    | some (v, s') => match keyD k with
      | some _ => match imm v with
        | true => some (.dic true [(k, v)], s')
        | false => none
      | none => none
    | none => none
  | none => none) := rfl
@[simp] theorem ev_mZip (m : M (List D)) (st : S) : mZip m st = (match m st with
  | some ([a, b], s) => match frzA a, frzA b with
    | .tup xs, .tup ys => some (zipD xs ys, s)
    | .lst false xs, .lst false ys => some (zipD xs ys, s)
    | _, _ => none
  | _ => none) := rfl
@[simp] theorem ev_mLate (i : Nat) (r : M (List D)) (st : S) : mLate i r st = (match st[i]? with
  | some (some _) => match r st with
    | some (ds, s) => match mTake i s with
      | some (d, s') => some (d :: ds, s')
      | none => none
    | none => none
  | _ => none) := rfl
@[simp] theorem run_v (i : Nat) (st : S) : (Opd.v i).run st = (match st[i]? with
    | some (some _) => some (.non, st)
    | _ => none) := rfl
@[simp] theorem run_e (m : M D) (st : S) : (Opd.e m).run st = m st := rfl
@[simp] theorem val_v (i : Nat) (d : D) (st : S) : (Opd.v i).val d st = (match st[i]? with
    | some (some d) => some d
    | _ => none) := rfl
@[simp] theorem val_e (m : M D) (d : D) (st : S) : (Opd.e m).val d st = some d := rfl
@[simp] theorem ev_sub (i j : Int) : subF (.int i) (.int j) = some (.int (i - j)) := rfl
@[simp] theorem ev_add (i j : Int) : addF (.int i) (.int j) = some (.int (i + j)) := rfl
@[simp] theorem ev_fdiv (i j : Int) : fdivF (.int i) (.int j) = if 0 < j ∧ j.natAbs.log2 < 9000 then some (.int (i / j)) else none := rfl
@[simp] theorem ev_mod (i j : Int) : modF (.int i) (.int j) = if 0 < j then some (.int (i % j)) else none := rfl
@[simp] theorem ev_mul (i j : Int) : mulF (.int i) (.int j) = if i.natAbs.log2 + j.natAbs.log2 < 1000000 then some (.int (i * j)) else none := rfl
@[simp] theorem ev_pow (i j : Int) : powF (.int i) (.int j) = if 0 ≤ j ∧ j ≤ 1000000 ∧ i.natAbs < 2 ^ 64 then some (.int (i ^ j.toNat)) else none := rfl
@[simp] theorem ev_neg (i : Int) : negF (.int i) = some (.int (-i)) := rfl
@[simp] theorem ev_le (i j : Int) : cmpF .LtE (.int i) (.int j) = some (.bl (decide (i ≤ j))) := rfl
@[simp] theorem ev_lt (i j : Int) : cmpF .Lt (.int i) (.int j) = some (.bl (decide (i < j))) := rfl
@[simp] theorem ev_gt (i j : Int) : cmpF .Gt (.int i) (.int j) = some (.bl (decide (j < i))) := rfl
@[simp] theorem ev_ge (i j : Int) : cmpF .GtE (.int i) (.int j) = some (.bl (decide (j ≤ i))) := rfl
@[simp] theorem ev_cEq (a b : D) : cmpF .Eq a b = eqcF a b := rfl
@[simp] theorem ev_cNe (a b : D) : cmpF .NotEq a b = necF a b := rfl
@[simp] theorem ev_cIn (a b : D) : cmpF .In a b = inF a b := rfl
@[simp] theorem ev_cNin (a b : D) : cmpF .NotIn a b = ninF a b := rfl
@[simp] theorem ev_cLtT (xs ys : List D) : cmpF .Lt (.tup xs) (.tup ys) = ltF (.tup xs) (.tup ys) := rfl
@[simp] theorem ev_is (a b : D) : cmpF .Is a b = blO (isB a b) := rfl
@[simp] theorem ev_nis (a b : D) : cmpF .IsNot a b = nisF a b := rfl
@[simp] theorem ev_eqI (i j : Int) : eqcF (.int i) (.int j) = some (.bl (i == j)) := rfl
@[simp] theorem ev_neI (i j : Int) : necF (.int i) (.int j) = some (.bl (!(i == j))) := rfl
@[simp] theorem ev_lenT (xs : List D) : lenF (.tup xs) = some (.int xs.length) := rfl
@[simp] theorem ev_lenR (xs : List D) : lenF (.rol xs) = some (.int xs.length) := rfl
@[simp] theorem ev_lenL (o : Bool) (xs : List D) : lenF (.lst o xs) = some (.int xs.length) := rfl
@[simp] theorem ev_lenD (o : Bool) (xs : List (D × D)) : lenF (.dic o xs) = some (.int xs.length) := rfl
@[simp] theorem ev_int (i : Int) : intcF (.int i) = some (.int i) := rfl
@[simp] theorem ev_ixT (xs : List D) (i : Int) : ixF (.tup xs) (.int i) = immO (atI xs i) := rfl
@[simp] theorem ev_ixR (xs : List D) (i : Int) : ixF (.rol xs) (.int i) = immO (atI xs i) := rfl
@[simp] theorem ev_ixL (o : Bool) (xs : List D) (i : Int) : ixF (.lst o xs) (.int i) = immO (atI xs i) := rfl
@[simp] theorem ev_blO (b : Bool) : blO (some b) = some (.bl b) := rfl
@[simp] theorem imm_non : imm .non = true := rfl
@[simp] theorem imm_bl (b : Bool) : imm (.bl b) = true := rfl
@[simp] theorem imm_int (b : Int) : imm (.int b) = true := rfl
@[simp] theorem imm_str (b : Str) : imm (.str b) = true := rfl
@[simp] theorem imm_tup (b : List D) : imm (.tup b) = true := rfl
@[simp] theorem imm_rol (b : List D) : imm (.rol b) = true := rfl
@[simp] theorem imm_lst (o : Bool) (b : List D) : imm (.lst o b) = !o := rfl
@[simp] theorem imm_dic (o : Bool) (b : List (D × D)) : imm (.dic o b) = !o := rfl
@[simp] theorem immO_some (d : D) : immO (some d) = (match imm d with
    | true => some d
    | false => none) := rfl
@[simp] theorem tru_bl (b : Bool) : truD (.bl b) = some b := rfl
@[simp] theorem tru_int (i : Int) : truD (.int i) = some (i != 0) := rfl
@[simp] theorem tru_non : truD .non = some false := rfl
@[simp] theorem at0 {α : Type} (x : α) (xs : List α) : atI (x :: xs) 0 = some x := by
  have e : ixN (x :: xs).length 0 = some 0 := by simp [ixN]
  unfold atI; rw [e]; rfl
@[simp] theorem at1 {α : Type} (x y : α) (xs : List α) : atI (x :: y :: xs) 1 = some y := by
  have e : ixN (x :: y :: xs).length 1 = some 1 := by simp [ixN]; omega
  unfold atI; rw [e]; rfl
@[simp] theorem at2 {α : Type} (x y z : α) (xs : List α) : atI (x :: y :: z :: xs) 2 = some z := by
  have e : ixN (x :: y :: z :: xs).length 2 = some 2 := by simp [ixN]; omega
  unfold atI; rw [e]; rfl
@[simp] theorem at3 {α : Type} (x y z w : α) (xs : List α) : atI (x :: y :: z :: w :: xs) 3 = some w := by
  have e : ixN (x :: y :: z :: w :: xs).length 3 = some 3 := by simp [ixN]; omega
  unfold atI; rw [e]; rfl
def row (ns : List Int) (a b c : Int) : D := .lst true [.rol (ns.map .int), .int a, .int b, .int c]
theorem ten18 : ((10 : Int) ^ (Int.toNat 18)) = 1000000000000000000 := by decide
theorem log_lt {i : Int} {n k : Nat} (h : i.natAbs < 2 ^ n) (hn : n ≤ k) (hk : 0 < k) : i.natAbs.log2 < k := by
  by_cases h0 : i.natAbs = 0
  · rw [h0]; simpa using hk
  · exact Nat.lt_of_lt_of_le ((Nat.log2_lt h0).mpr h) hn
@[simp] theorem box_some (d : D) (s : S) : isBox 0 (some d :: s) = true := rfl
@[simp] theorem stAt0 (xs : List D) (s : S) (j : Int) (d : D) : storeAt 0 (.int j) d (some (.lst true xs) :: s) = (match ixN xs.length j with
      | some j => some (some (.lst true (xs.set j d)) :: s)
      | none => none) := rfl
theorem ixN4_1 : ixN 4 1 = some 1 := by decide
theorem ixN4_2 : ixN 4 2 = some 2 := by decide
theorem ixN4_3 : ixN 4 3 = some 3 := by decide
theorem atI_ok {α : Type} {xs : List α} {i : Int} (h0 : 0 ≤ i) (h1 : i < xs.length) : atI xs i = xs[i.toNat]? := by
  have e : ixN xs.length i = some i.toNat := by unfold ixN; rw [if_pos h0, if_pos h1]
  unfold atI; rw [e]; rfl
theorem taken_ok (ns : List Int) {a b c many : Int} (ha : 0 ≤ a) (hb : 0 ≤ b) (hb2 : b < 2147483647) (hm : 1 ≤ many) (hm2 : many ≤ 1000000) :
    ∃ r a' b' c', f__law_taken [row ns a b c, .int many] = some (.int r, [some (row ns a' b' c'), some (.int many)]) ∧ 0 ≤ r ∧ r < many ∧ 0 ≤ a' ∧ 0 ≤ b' ∧ b' < 2147483647 := by
  have hm0 : 0 < many := by omega
  have hl : many.natAbs.log2 < 9000 := log_lt (n := 20) (by omega) (by omega) (by omega)
  have hlb : b.natAbs.log2 + Nat.log2 48271 < 1000000 := by
    have h1 : b.natAbs.log2 < 1000 := log_lt (n := 31) (by omega) (by omega) (by omega)
    have h2 : Nat.log2 48271 < 1000 := by decide +kernel
    omega
  have h7 : Nat.log2 7 < 9000 := by decide +kernel
  unfold f__law_taken m__law_taken row
  by_cases h3 : 0 < c
  · refine ⟨c % many, a, b, c / many, ?_, Int.emod_nonneg _ (by omega), Int.emod_lt_of_pos _ (by omega), ha, hb, hb2⟩
    simp [runD, h3, hm0, hl, outsOf, ixN4_3]
  · by_cases hp : (ns.length : Int) < a + 1
    · refine ⟨_, a + 1, (b * 48271 + 11) % 2147483647, c, by
        simp [runD, h3, hm0, hl, hlb, outsOf, ixN4_1, ixN4_2, hp, h7]
        exact rfl, Int.emod_nonneg _ (by omega), Int.emod_lt_of_pos _ (by omega), by omega, Int.emod_nonneg _ (by omega), Int.emod_lt_of_pos _ (by omega)⟩
    · have hat : ∃ x, atI (ns.map D.int) a = some (.int x) := by
        have hx : a < ns.length := by omega
        rw [atI_ok ha (by simpa using hx)]
        refine ⟨ns[a.toNat]'(by omega), ?_⟩
        rw [List.getElem?_map, List.getElem?_eq_getElem (by omega)]
        rfl
      obtain ⟨x, hat⟩ := hat
      by_cases hx : 1000000000000000000 ≤ x
      · refine ⟨_, a + 1, (b * 48271 + x + 11) % 2147483647, x / many, by
          simp [runD, h3, hm0, hl, hlb, outsOf, ixN4_1, ixN4_2, ixN4_3, hp, hat, ten18, hx]
          exact rfl, Int.emod_nonneg _ (by omega), Int.emod_lt_of_pos _ (by omega), by omega, Int.emod_nonneg _ (by omega), Int.emod_lt_of_pos _ (by omega)⟩
      · refine ⟨_, a + 1, (b * 48271 + x + 11) % 2147483647, c, by
          simp [runD, h3, hm0, hl, hlb, outsOf, ixN4_1, ixN4_2, ixN4_3, hp, hat, ten18, hx]
          exact rfl, Int.emod_nonneg _ (by omega), Int.emod_lt_of_pos _ (by omega), by omega, Int.emod_nonneg _ (by omega), Int.emod_lt_of_pos _ (by omega)⟩
end Pl
namespace Pl
open Va
abbrev Bag := List Int
/-- two bags share one bead at most -/
def One (a b : Bag) : Prop := ∀ x y, x ∈ a → x ∈ b → y ∈ a → y ∈ b → x = y
theorem One.symm {a b : Bag} (h : One a b) : One b a := fun x y p q r s => h x y q p s r
/-- a family of n beads, its bags in any order -/
structure Raw (n : Int) (B : List Bag) : Prop where
  len : ∀ b ∈ B, 2 ≤ b.length
  rng : ∀ b ∈ B, ∀ x ∈ b, 0 ≤ x ∧ x < n
  nd : ∀ b ∈ B, b.Nodup
  cov : ∀ x : Int, 0 ≤ x → x < n → ∃ b ∈ B, x ∈ b
  two : B.Pairwise One
  con : ∀ Q : Int → Prop, (∃ x, 0 ≤ x ∧ x < n ∧ Q x) → (∀ b ∈ B, ∀ x ∈ b, ∀ y ∈ b, Q x → Q y) → ∀ x, 0 ≤ x → x < n → Q x
  cnt : (B.map fun b => (b.length : Int) - 1).sum = n - 1
theorem raw2 : Raw 2 [[0, 1]] where
  len b h := by simp at h; subst h; simp
  rng b h x hx := by simp at h; subst h; simp at hx; omega
  nd b h := by simp at h; subst h; decide
  cov x h0 h1 := ⟨[0, 1], by simp, by simp; omega⟩
  two := by simp
  con Q hx hc x h0 h1 := by
    obtain ⟨y, y0, y1, q⟩ := hx
    exact hc [0, 1] (by simp) y (by simp; omega) x (by simp; omega) q
  cnt := by simp
/-- a bead more, in a bag of two -/
theorem Raw.snoc {n : Int} {B : List Bag} (R : Raw n B) {x : Int} (h0 : 0 ≤ x) (h1 : x < n) : Raw (n + 1) (B ++ [[x, n]]) where
  len b h := by
    rcases List.mem_append.mp h with h | h
    · exact R.len b h
    · simp at h; subst h; simp
  rng b h y hy := by
    rcases List.mem_append.mp h with h | h
    · have := R.rng b h y hy; omega
    · simp at h; subst h; simp at hy; omega
  nd b h := by
    rcases List.mem_append.mp h with h | h
    · exact R.nd b h
    · simp at h; subst h; simp; omega
  cov y y0 y1 := by
    by_cases e : y = n
    · exact ⟨[x, n], by simp, by simp [e]⟩
    · obtain ⟨b, hb, hy⟩ := R.cov y y0 (by omega)
      exact ⟨b, List.mem_append_left _ hb, hy⟩
  two := by
    refine List.pairwise_append.mpr ⟨R.two, by simp, fun a ha b hb => ?_⟩
    simp at hb
    subst hb
    intro u v hu hu' hv hv'
    have := R.rng a ha u hu
    have := R.rng a ha v hv
    simp at hu' hv'
    omega
  con Q hx hc y y0 y1 := by
    have old : (∃ z, 0 ≤ z ∧ z < n ∧ Q z) → ∀ z, 0 ≤ z → z < n → Q z := fun h => R.con Q h fun b hb => hc b (List.mem_append_left _ hb)
    have hp := hc [x, n] (by simp)
    have all : ∀ z, 0 ≤ z → z < n → Q z := by
      obtain ⟨z, z0, z1, q⟩ := hx
      by_cases e : z = n
      · subst e
        exact old ⟨x, h0, h1, hp z (by simp) x (by simp) q⟩
      · exact old ⟨z, z0, by omega, q⟩
    by_cases e : y = n
    · subst e
      exact hp x (by simp) y (by simp) (all x h0 h1)
    · exact all y y0 (by omega)
  cnt := by
    have := R.cnt
    simp [this]
theorem mem_set_of {α : Type} {l : List α} {i : Nat} {a b c : α} (h : l[i]? = some a) (hb : b ∈ l.set i c) : b = c ∨ b ∈ l := by
  rcases List.mem_or_eq_of_mem_set hb with h | h
  · exact .inr h
  · exact .inl h
/-- a bead more, into a bag -/
theorem Raw.push {n : Int} {B : List Bag} (R : Raw n B) {i : Nat} {b : Bag} (hi : B[i]? = some b) : Raw (n + 1) (B.set i (b ++ [n])) := by
  obtain ⟨hl, eb⟩ := List.getElem?_eq_some_iff.mp hi
  have hb : b ∈ B := eb ▸ List.getElem_mem hl
  have hb2 := R.len b hb
  have hnew : b ++ [n] ∈ B.set i (b ++ [n]) := List.mem_iff_getElem?.mpr ⟨i, by rw [List.getElem?_set_self hl]⟩
  have hn : ∀ c ∈ B, n ∉ c := fun c hc h => by have := R.rng c hc n h; omega
  have n0 : 0 ≤ n := by
    obtain ⟨x, hx⟩ : ∃ x, x ∈ b := List.exists_mem_of_length_pos (by omega)
    have := R.rng b hb x hx
    omega
  -- what is in an old bag is in a new one
  have up : ∀ c ∈ B, ∃ c' ∈ B.set i (b ++ [n]), ∀ x ∈ c, x ∈ c' := fun c hc => by
    obtain ⟨j, hj⟩ := List.mem_iff_getElem?.mp hc
    by_cases e : i = j
    · subst e
      have : c = b := by rw [hi] at hj; exact (Option.some.inj hj).symm
      subst this
      exact ⟨_, hnew, fun x hx => List.mem_append_left _ hx⟩
    · exact ⟨c, List.mem_iff_getElem?.mpr ⟨j, by rw [List.getElem?_set_ne e]; exact hj⟩, fun x hx => hx⟩
  refine ⟨fun c hc => ?_, fun c hc x hx => ?_, fun c hc => ?_, fun x x0 x1 => ?_, ?_, fun Q hx hc y y0 y1 => ?_, ?_⟩
  · rcases mem_set_of hi hc with rfl | h
    · simp; omega
    · exact R.len c h
  · rcases mem_set_of hi hc with rfl | h
    · rcases List.mem_append.mp hx with h | h
      · have := R.rng b hb x h; omega
      · simp at h; omega
    · have := R.rng c h x hx; omega
  · rcases mem_set_of hi hc with rfl | h
    · refine List.nodup_append.mpr ⟨R.nd b hb, by simp, fun x hx y hy e => ?_⟩
      simp at hy
      subst hy e
      exact hn b hb hx
    · exact R.nd c h
  · by_cases e : x = n
    · exact ⟨_, hnew, by simp [e]⟩
    · obtain ⟨c, hc, hx⟩ := R.cov x x0 (by omega)
      obtain ⟨c', hc', h⟩ := up c hc
      exact ⟨c', hc', h x hx⟩
  · have P := List.pairwise_iff_getElem.mp R.two
    refine List.pairwise_iff_getElem.mpr fun j k hj hk hjk => ?_
    have hj' : j < B.length := by simpa using hj
    have hk' : k < B.length := by simpa using hk
    have base := P j k hj' hk' hjk
    have red : ∀ {c : Bag}, c ∈ B → One b c → One (b ++ [n]) c := fun {c} hc h x y a1 a2 a3 a4 => by
      refine h x y ?_ a2 ?_ a4
      · rcases List.mem_append.mp a1 with q | q
        · exact q
        · simp at q; subst q; exact absurd a2 (hn c hc)
      · rcases List.mem_append.mp a3 with q | q
        · exact q
        · simp at q; subst q; exact absurd a4 (hn c hc)
    rw [List.getElem_set, List.getElem_set]
    by_cases e1 : i = j
    · subst e1
      rw [if_pos rfl, if_neg (by omega)]
      rw [eb] at base
      exact red (List.getElem_mem hk') base
    · rw [if_neg e1]
      by_cases e2 : i = k
      · subst e2
        rw [if_pos rfl]
        rw [eb] at base
        exact (red (List.getElem_mem hj') base.symm).symm
      · rw [if_neg e2]
        exact base
  · have old : (∃ z, 0 ≤ z ∧ z < n ∧ Q z) → ∀ z, 0 ≤ z → z < n → Q z := fun h => R.con Q h fun c hc' x hx y hy q => by
      obtain ⟨c', hc1, hin⟩ := up c hc'
      exact hc c' hc1 x (hin x hx) y (hin y hy) q
    obtain ⟨x, hxb⟩ : ∃ x, x ∈ b := List.exists_mem_of_length_pos (by omega)
    have hxr := R.rng b hb x hxb
    have hp := hc _ hnew
    have all : ∀ z, 0 ≤ z → z < n → Q z := by
      obtain ⟨z, z0, z1, q⟩ := hx
      by_cases e : z = n
      · subst e
        exact old ⟨x, hxr.1, hxr.2, hp z (by simp) x (by simp [hxb]) q⟩
      · exact old ⟨z, z0, by omega, q⟩
    by_cases e : y = n
    · subst e
      exact hp x (by simp [hxb]) y (by simp) (all x hxr.1 hxr.2)
    · exact all y y0 (by omega)
  · have key : ∀ (B : List Bag) (i : Nat), B[i]? = some b → ((B.set i (b ++ [n])).map fun b => (b.length : Int) - 1).sum = (B.map fun b => (b.length : Int) - 1).sum + 1 := fun B => by
      induction B with
      | nil => intro i h; simp at h
      | cons c B ih =>
        intro i h
        cases i with
        | zero => simp at h; subst h; simp; omega
        | succ i =>
          have := ih i (by simpa using h)
          simp only [List.set_cons_succ, List.map_cons, List.sum_cons, this]
          omega
    rw [key B i hi, R.cnt]
    omega
theorem perm_sum : ∀ {a b : List Int}, a.Perm b → a.sum = b.sum := fun h => by
  induction h with
  | nil => rfl
  | cons x _ ih => simp [ih]
  | swap x y l => simp; omega
  | trans _ _ ih1 ih2 => exact ih1.trans ih2
/-- bags in another order -/
theorem Raw.perm {n : Int} {B B' : List Bag} (R : Raw n B) (p : B.Perm B') : Raw n B' where
  len b h := R.len b (p.mem_iff.mpr h)
  rng b h := R.rng b (p.mem_iff.mpr h)
  nd b h := R.nd b (p.mem_iff.mpr h)
  cov x h0 h1 := by obtain ⟨b, hb, hx⟩ := R.cov x h0 h1; exact ⟨b, p.mem_iff.mp hb, hx⟩
  two := (p.pairwise_iff fun h => One.symm h).mp R.two
  con Q hx hc := R.con Q hx fun b hb => hc b (p.mem_iff.mp hb)
  cnt := by rw [← R.cnt]; exact perm_sum (p.symm.map _)
/-- each bag changed into one of the same beads and length -/
theorem Raw.mapB {n : Int} {B : List Bag} (R : Raw n B) {f : Bag → Bag} (p : ∀ b ∈ B, (f b).Perm b) : Raw n (B.map f) where
  len b h := by obtain ⟨c, hc, rfl⟩ := List.mem_map.mp h; rw [(p c hc).length_eq]; exact R.len c hc
  rng b h x hx := by obtain ⟨c, hc, rfl⟩ := List.mem_map.mp h; exact R.rng c hc x ((p c hc).mem_iff.mp hx)
  nd b h := by obtain ⟨c, hc, rfl⟩ := List.mem_map.mp h; exact (p c hc).nodup_iff.mpr (R.nd c hc)
  cov x h0 h1 := by obtain ⟨b, hb, hx⟩ := R.cov x h0 h1; exact ⟨f b, List.mem_map_of_mem hb, (p b hb).mem_iff.mpr hx⟩
  two := by
    refine List.pairwise_map.mpr (R.two.imp_of_mem fun {a b} ha hb h x y a1 a2 a3 a4 => ?_)
    exact h x y ((p a ha).mem_iff.mp a1) ((p b hb).mem_iff.mp a2) ((p a ha).mem_iff.mp a3) ((p b hb).mem_iff.mp a4)
  con Q hx hc := R.con Q hx fun b hb x hx y hy => hc (f b) (List.mem_map_of_mem hb) x ((p b hb).mem_iff.mpr hx) y ((p b hb).mem_iff.mpr hy)
  cnt := by
    rw [← R.cnt, List.map_map]
    congr 1
    refine List.map_congr_left fun b hb => ?_
    simp [(p b hb).length_eq]
/-- beads named anew -/
theorem Raw.named {n : Int} {B : List Bag} (R : Raw n B) {g : Int → Int} (gr : ∀ x, 0 ≤ x → x < n → 0 ≤ g x ∧ g x < n) (gi : ∀ x y, 0 ≤ x → x < n → 0 ≤ y → y < n → g x = g y → x = y) (gs : ∀ y, 0 ≤ y → y < n → ∃ x, 0 ≤ x ∧ x < n ∧ g x = y) : Raw n (B.map (·.map g)) where
  len b h := by obtain ⟨c, hc, rfl⟩ := List.mem_map.mp h; rw [List.length_map]; exact R.len c hc
  rng b h x hx := by
    obtain ⟨c, hc, rfl⟩ := List.mem_map.mp h
    obtain ⟨y, hy, rfl⟩ := List.mem_map.mp hx
    exact gr y (R.rng c hc y hy).1 (R.rng c hc y hy).2
  nd b h := by
    obtain ⟨c, hc, rfl⟩ := List.mem_map.mp h
    refine List.pairwise_map.mpr ((R.nd c hc).imp_of_mem fun {x y} hx hy hne e => hne ?_)
    exact gi x y (R.rng c hc x hx).1 (R.rng c hc x hx).2 (R.rng c hc y hy).1 (R.rng c hc y hy).2 e
  cov y h0 h1 := by
    obtain ⟨x, x0, x1, rfl⟩ := gs y h0 h1
    obtain ⟨b, hb, hx⟩ := R.cov x x0 x1
    exact ⟨b.map g, List.mem_map_of_mem hb, List.mem_map_of_mem hx⟩
  two := by
    refine List.pairwise_map.mpr (R.two.imp_of_mem fun {a b} ha hb h x y a1 a2 a3 a4 => ?_)
    obtain ⟨u, hu, rfl⟩ := List.mem_map.mp a1
    obtain ⟨v, hv, rfl⟩ := List.mem_map.mp a3
    obtain ⟨u', hu', e1⟩ := List.mem_map.mp a2
    obtain ⟨v', hv', e2⟩ := List.mem_map.mp a4
    have e1 := gi u' u (R.rng b hb _ hu').1 (R.rng b hb _ hu').2 (R.rng a ha _ hu).1 (R.rng a ha _ hu).2 e1
    have e2 := gi v' v (R.rng b hb _ hv').1 (R.rng b hb _ hv').2 (R.rng a ha _ hv).1 (R.rng a ha _ hv).2 e2
    subst e1 e2
    rw [h u' v' hu hu' hv hv']
  con Q hx hc y y0 y1 := by
    obtain ⟨x, x0, x1, rfl⟩ := gs y y0 y1
    refine R.con (fun z => Q (g z)) ?_ (fun b hb u hu v hv q => hc (b.map g) (List.mem_map_of_mem hb) (g u) (List.mem_map_of_mem hu) (g v) (List.mem_map_of_mem hv) q) x x0 x1
    obtain ⟨z, z0, z1, q⟩ := hx
    obtain ⟨w, w0, w1, rfl⟩ := gs z z0 z1
    exact ⟨w, w0, w1, q⟩
  cnt := by
    rw [← R.cnt, List.map_map]
    congr 1
    refine List.map_congr_left fun b hb => ?_
    simp
/-- a family as the program has it -/
structure Fam (n : Int) (F : List Bag) : Prop extends Raw n F where
  n2 : 2 ≤ n
  n60 : n ≤ 60
  asc : ∀ b ∈ F, b.Pairwise (· < ·)
  srt : F.Pairwise fun a b => HT.lexLt a b = true
theorem Raw.few {n : Int} {B : List Bag} (R : Raw n B) : (B.length : Int) ≤ n - 1 := by
  rw [← R.cnt]
  have key : ∀ B : List Bag, (∀ b ∈ B, 2 ≤ b.length) → (B.length : Int) ≤ (B.map fun b => (b.length : Int) - 1).sum := fun B => by
    induction B with
    | nil => intro _; simp
    | cons b B ih =>
      intro h
      have := ih fun c hc => h c (List.mem_cons_of_mem _ hc)
      have := h b (List.mem_cons_self ..)
      simp only [List.length_cons, List.map_cons, List.sum_cons]
      omega
  exact key B R.len
theorem Raw.ne {n : Int} {B : List Bag} (R : Raw n B) (h : 2 ≤ n) : B ≠ [] := by
  rintro rfl
  obtain ⟨b, hb, _⟩ := R.cov 0 (by omega) (by omega)
  simp at hb
theorem Raw.bag_le {n : Int} {B : List Bag} (R : Raw n B) : ∀ b ∈ B, (b.length : Int) ≤ n := by
  have key : ∀ B : List Bag, (∀ b ∈ B, 2 ≤ b.length) → 0 ≤ (B.map fun b => (b.length : Int) - 1).sum ∧ ∀ b ∈ B, (b.length : Int) - 1 ≤ (B.map fun b => (b.length : Int) - 1).sum := fun B => by
    induction B with
    | nil => intro _; simp
    | cons b B ih =>
      intro h
      obtain ⟨h1, h2⟩ := ih fun c hc => h c (List.mem_cons_of_mem _ hc)
      have h3 := h b (List.mem_cons_self ..)
      simp only [List.map_cons, List.sum_cons]
      refine ⟨by omega, fun c hc => ?_⟩
      rcases List.mem_cons.mp hc with rfl | hc
      · omega
      · have := h2 c hc; omega
  intro b hb
  have := (key B R.len).2 b hb
  rw [R.cnt] at this
  omega
end Pl
namespace Pl
open Va L2 PySem
theorem forL_inv {t : Tgt} {b : M Fl} (I : Nat → S → Prop) : ∀ {ds : List D} {k : Nat} {st : S}, I k st →
    (∀ i d st, ds[i]? = some d → I (k + i) st → ∃ s1 s2, asgT t d st = some s1 ∧ (b s1 = some (.nx, s2) ∨ b s1 = some (.ct, s2)) ∧ I (k + i + 1) s2) → ∃ st', forL t b ds st = some (.nx, st') ∧ I (k + ds.length) st'
  | [], k, st, h0, _ => ⟨st, rfl, h0⟩
  | d :: ds, k, st, h0, hs => by
    obtain ⟨s1, s2, ha, hb, h2⟩ := hs 0 d st rfl h0
    obtain ⟨st', e, h⟩ := forL_inv I (ds := ds) (k := k + 1) (st := s2) (by simpa using h2) fun i d st hi hI => by
      have := hs (i + 1) d st (by simpa using hi) (by rw [show k + (i + 1) = k + 1 + i by omega]; exact hI)
      rw [show k + (i + 1) = k + 1 + i by omega] at this
      exact this
    refine ⟨st', ?_, by rw [List.length_cons, show k + (ds.length + 1) = k + 1 + ds.length by omega]; exact h⟩
    unfold forL
    rw [ha]
    rcases hb with hb | hb <;> (dsimp only; rw [hb]; exact e)
theorem lcL_fm {t : Tgt} {mt : M Bool} {me : M D} {own : List Nat} {st : S} (f : D → D) (p : D → Bool) : ∀ {ds : List D},
    (∀ d ∈ ds, ∃ s1 s2, asgT t d st = some s1 ∧ mt s1 = some (p d, s2) ∧ (p d = true → ∃ s3, me s2 = some (f d, s3) ∧ wipeS s3 own = st) ∧ (p d = false → wipeS s2 own = st)) → lcL t mt me own ds st = some ((ds.filter p).map f, st)
  | [], _ => rfl
  | d :: ds, h => by
    obtain ⟨s1, s2, h1, h2, h3, h4⟩ := h d (List.mem_cons_self ..)
    have ih := lcL_fm f p (ds := ds) fun d hd => h d (List.mem_cons_of_mem _ hd)
    unfold lcL
    rw [h1]
    dsimp only
    rw [h2]
    cases e : p d with
    | true =>
      obtain ⟨s3, h5, h6⟩ := h3 e
      dsimp only
      rw [h5]
      dsimp only
      rw [h6, ih]
      simp [e]
    | false =>
      dsimp only
      rw [h4 e, ih]
      simp [e]
theorem mLc_fm {mi : M (List D)} {t : Tgt} {mt : M Bool} {me : M D} {own : List Nat} {st s st0 : S} {ds : List D} (f : D → D) (p : D → Bool) (hmi : mi st = some (ds, s)) (ho : ownOk s own = true) (hl : ds.length ≤ LN) (hw : wipeS s own = st0)
    (h : ∀ d ∈ ds, ∃ s1 s2, asgT t d st0 = some s1 ∧ mt s1 = some (p d, s2) ∧ (p d = true → ∃ s3, me s2 = some (f d, s3) ∧ wipeS s3 own = st0) ∧ (p d = false → wipeS s2 own = st0)) : mLc mi t mt me own st = some (.lst true ((ds.filter p).map f), backS s st0 own) := by
  unfold mLc
  rw [hmi]
  dsimp only
  rw [ho, Nat.ble_eq_true_of_le hl, hw]
  simp only [Bool.and_self, lcL_fm f p h]
/-- no test -/
theorem mLc_m {mi : M (List D)} {t : Tgt} {me : M D} {own : List Nat} {st s st0 : S} {ds : List D} (f : D → D) (hmi : mi st = some (ds, s)) (ho : ownOk s own = true) (hl : ds.length ≤ LN) (hw : wipeS s own = st0)
    (h : ∀ d ∈ ds, ∃ s1 s3, asgT t d st0 = some s1 ∧ me s1 = some (f d, s3) ∧ wipeS s3 own = st0) : mLc mi t mYes me own st = some (.lst true (ds.map f), backS s st0 own) := by
  rw [mLc_fm f (fun _ => true) hmi ho hl hw fun d hd => by
    obtain ⟨s1, s3, h1, h2, h3⟩ := h d hd
    exact ⟨s1, s1, h1, rfl, fun _ => ⟨s3, h2, h3⟩, fun e => by cases e⟩]
  rw [List.filter_eq_self.mpr (fun _ _ => rfl)]
@[simp] theorem wipe_nil (s : S) : wipeS s [] = s := rfl
@[simp] theorem wipe_cons (s : S) (v : Nat) (vs : List Nat) : wipeS s (v :: vs) = (wipeS s vs).set v none := rfl
@[simp] theorem back_nil (o s : S) : backS o s [] = s := rfl
@[simp] theorem back_cons (o s : S) (v : Nat) (vs : List Nat) : backS o s (v :: vs) = (backS o s vs).set v (o[v]?.getD none) := rfl
@[simp] theorem asg_n (i : Nat) (d : D) (s : S) : asgT (.n i) d s = some (s.set i (some d)) := rfl
@[simp] theorem asg_t (is : List Nat) (ds : List D) (s : S) : asgT (.t is) (.tup ds) s = asgL is ds s := rfl
@[simp] theorem asgL_nil (s : S) : asgL [] [] s = some s := rfl
@[simp] theorem asgL_cons (i : Nat) (is : List Nat) (d : D) (ds : List D) (s : S) : asgL (i :: is) (d :: ds) s = asgL is ds (s.set i (some d)) := rfl
@[simp] theorem own_nil (s : S) : ownOk s [] = true := rfl
@[simp] theorem own_cons (s : S) (v : Nat) (vs : List Nat) : ownOk s (v :: vs) = ((match s[v]? with
  | some (some d) => imm d
  | _ => true) && ownOk s vs) := rfl
@[simp] theorem frzA_tup (xs : List D) : frzA (.tup xs) = .tup xs := rfl
@[simp] theorem frzA_rol (xs : List D) : frzA (.rol xs) = .rol xs := rfl
@[simp] theorem frzA_lst (o : Bool) (xs : List D) : frzA (.lst o xs) = .lst false (match o with
  | true => frzL xs
  | false => xs) := by cases o <;> rfl
@[simp] theorem frz_lst (xs : List D) : frz (.lst true xs) = .lst false (frzL xs) := by simp [frz]
@[simp] theorem frzA_int (i : Int) : frzA (.int i) = .int i := rfl
@[simp] theorem seq_tup (xs : List D) : seqOf (.tup xs) = some (true, xs) := rfl
@[simp] theorem seq_rol (xs : List D) : seqOf (.rol xs) = some (false, xs) := rfl
@[simp] theorem seq_lst (o : Bool) (xs : List D) : seqOf (.lst o xs) = some (false, xs) := rfl
@[simp] theorem sl_tup (xs : List D) (lo hi : Option Int) : slF lo hi (.tup xs) = some (.tup (cutD xs lo hi)) := rfl
theorem frzL_ints (b : List Int) : frzL (b.map .int) = b.map D.int := by
  induction b with
  | nil => simp [frzL]
  | cons x b ih => simp [frzL, frz, ih]
theorem cut1 (xs : List D) : cutD xs (some 1) none = xs.drop 1 := by
  unfold cutD HT.sIx
  cases xs with
  | nil => simp
  | cons x xs => simp [List.take_of_length_le]
abbrev intsD (b : List Int) : List D := b.map .int
def bagD (b : Bag) : D := .tup (intsD b)
def famD (F : List Bag) : D := .tup (F.map bagD)
theorem all_true {α : Type} (l : List α) : allF (.lst true (l.map fun _ => D.bl true)) = some (.bl true) := by
  have h : ∀ l : List α, toBools (l.map fun _ => D.bl true) = some (l.map fun _ => true) := fun l => by
    induction l with
    | nil => rfl
    | cons x l ih => simp [toBools, ih]
  show boolsF _ _ = _
  unfold boolsF lstOf
  simp [h]
theorem zip_pairs {R : D → D → Prop} : ∀ {xs : List D}, xs.Pairwise R → ∀ d ∈ zipD xs (xs.drop 1), ∃ x y, d = .tup [x, y] ∧ R x y
  | [], _, d, h => by simp [zipD] at h
  | [x], _, d, h => by simp [zipD] at h
  | x :: y :: xs, h, d, hd => by
    simp only [List.drop_succ_cons, List.drop_zero, zipD, List.mem_cons] at hd
    have h1 := List.pairwise_cons.mp h
    rcases hd with rfl | hd
    · exact ⟨x, y, rfl, h1.1 y (List.mem_cons_self ..)⟩
    · exact zip_pairs (xs := y :: xs) h1.2 d (by simpa using hd)
theorem is_rising_ok {xs : List D} (hl : xs.length ≤ LN) (h : xs.Pairwise fun x y => cmpF .Lt x y = some (.bl true)) : f_is_rising [.tup xs] = some (.bl true, [some (.tup xs)]) := by
  unfold f_is_rising m_is_rising
  simp [runD]
  rw [mLc_m (ds := zipD xs (xs.drop 1)) (s := [some (.tup xs), none, none]) (st0 := [some (.tup xs), none, none]) (fun _ => .bl true) (by simp [mSl, mPart, cut1]) (by simp) (by rw [zipD_length]; simp; omega) (by simp) fun d hd => by
    obtain ⟨x, y, rfl, r⟩ := zip_pairs h d hd
    exact ⟨_, _, by simp; rfl, by simp [r]; exact rfl, by simp⟩]
  simp [all_true, outsOf]
end Pl
namespace Pl
open Va L2 PySem
def insP {α : Type} (lt : α → α → Bool) (x : α) : List α → List α
  | [] => [x]
  | y :: ys => match lt y x with
    | true => y :: insP lt x ys
    | false => x :: y :: ys
def isP {α : Type} (lt : α → α → Bool) : List α → List α
  | [] => []
  | x :: xs => insP lt x (isP lt xs)
theorem insP_perm {α : Type} (lt : α → α → Bool) (x : α) : ∀ ys : List α, (insP lt x ys).Perm (x :: ys)
  | [] => .refl _
  | y :: ys => by
    unfold insP
    split
    · exact ((insP_perm lt x ys).cons y).trans (.swap x y ys)
    · exact .refl _
theorem isP_perm {α : Type} (lt : α → α → Bool) : ∀ ys : List α, (isP lt ys).Perm ys
  | [] => .refl _
  | y :: ys => (insP_perm lt y _).trans ((isP_perm lt ys).cons y)
theorem isP_sorted {α : Type} {lt : α → α → Bool} (asym : ∀ a b, lt a b = true → lt b a = false) (tr : ∀ a b c, lt b a = false → lt c b = false → lt c a = false) : ∀ xs : List α, (isP lt xs).Pairwise fun a b => lt b a = false := by
  have ins : ∀ (x : α) (ys : List α), ys.Pairwise (fun a b => lt b a = false) → (insP lt x ys).Pairwise fun a b => lt b a = false := fun x ys => by
    induction ys with
    | nil => intro _; simp [insP]
    | cons y ys ih =>
      intro h
      have h1 := List.pairwise_cons.mp h
      unfold insP
      cases e : lt y x with
      | true =>
        refine List.pairwise_cons.mpr ⟨fun z hz => ?_, ih h1.2⟩
        rcases List.mem_cons.mp ((insP_perm lt x ys).mem_iff.mp hz) with rfl | hz
        · exact asym _ _ e
        · exact h1.1 z hz
      | false =>
        refine List.pairwise_cons.mpr ⟨fun z hz => ?_, h⟩
        rcases List.mem_cons.mp hz with rfl | hz
        · exact e
        · exact tr _ _ _ e (h1.1 z hz)
  intro xs
  induction xs with
  | nil => exact .nil
  | cons x xs ih => exact ins x _ ih
theorem isort_map {α : Type} {f : α → D} {lt : D → D → Bool} {lt' : α → α → Bool} (h : ∀ a b, lt (f a) (f b) = lt' a b) : ∀ l : List α, isort lt (l.map f) = (isP lt' l).map f := by
  have ins : ∀ (x : α) (l : List α), insD lt (f x) (l.map f) = (insP lt' x l).map f := fun x l => by
    induction l with
    | nil => rfl
    | cons y l ih =>
      simp only [List.map_cons, insD, insP, h]
      cases lt' y x with
      | true => simp [ih]
      | false => simp
  intro l
  induction l with
  | nil => rfl
  | cons x l ih => simp only [List.map_cons, isort, isP, ih, ins]
def ltI (a b : Int) : Bool := decide (a < b)
abbrev srtI (b : Bag) : Bag := isP ltI b
abbrev srtB (F : List Bag) : List Bag := isP HT.lexLt F
theorem srtI_asc {b : Bag} (h : b.Nodup) : (srtI b).Pairwise (· < ·) := by
  have S := isP_sorted (lt := ltI) (fun a b h => by simp [ltI] at h ⊢; omega) (fun a b c h1 h2 => by simp [ltI] at h1 h2 ⊢; omega) b
  have N := (isP_perm ltI b).nodup_iff.mpr h
  refine (List.Pairwise.and S N).imp fun {x y} ⟨h1, h2⟩ => ?_
  simp [ltI] at h1
  omega
theorem lex_asym : ∀ a b : Bag, HT.lexLt a b = true → HT.lexLt b a = false
  | [], [], h => by simp [HT.lexLt] at h
  | [], _ :: _, _ => rfl
  | _ :: _, [], h => by simp [HT.lexLt] at h
  | x :: xs, y :: ys, h => by
    rw [HT.lexLt_cons] at h ⊢
    by_cases e : x = y
    · subst e; rw [if_pos rfl] at h ⊢; exact lex_asym xs ys h
    · rw [if_neg e] at h; rw [if_neg fun q => e q.symm]; simp at h ⊢; omega
theorem lex_tri : ∀ a b : Bag, HT.lexLt a b = false → HT.lexLt b a = false → a = b
  | [], [], _, _ => rfl
  | [], _ :: _, h, _ => by simp [HT.lexLt] at h
  | _ :: _, [], _, h => by simp [HT.lexLt] at h
  | x :: xs, y :: ys, h, h' => by
    rw [HT.lexLt_cons] at h h'
    by_cases e : x = y
    · subst e; rw [if_pos rfl] at h h'; rw [lex_tri xs ys h h']
    · rw [if_neg e] at h; rw [if_neg fun q => e q.symm] at h'; simp at h h'; omega
theorem lex_ntr : ∀ a b c : Bag, HT.lexLt b a = false → HT.lexLt c b = false → HT.lexLt c a = false
  | [], [], [], _, _ => rfl
  | [], [], _ :: _, _, h => h
  | [], _ :: _, [], _, h => by simp [HT.lexLt] at h
  | [], _ :: _, _ :: _, _, _ => rfl
  | _ :: _, [], _, h, _ => by simp [HT.lexLt] at h
  | _ :: _, _ :: _, [], _, h => by simp [HT.lexLt] at h
  | x :: xs, y :: ys, z :: zs, h, h' => by
    rw [HT.lexLt_cons] at h h' ⊢
    have ih := lex_ntr xs ys zs
    by_cases e : y = x
    · subst e
      rw [if_pos rfl] at h
      by_cases e2 : z = y
      · subst e2; rw [if_pos rfl] at h' ⊢; exact ih h h'
      · rw [if_neg e2] at h' ⊢; exact h'
    · rw [if_neg e] at h
      by_cases e2 : z = y
      · subst e2; rw [if_neg e]; exact h
      · rw [if_neg e2] at h'
        simp at h h'
        rw [if_neg (by omega)]
        simp; omega
theorem srtB_srt {F : List Bag} (h : F.Nodup) : (srtB F).Pairwise fun a b => HT.lexLt a b = true := by
  have S := isP_sorted (lt := HT.lexLt) lex_asym lex_ntr F
  have N := (isP_perm HT.lexLt F).nodup_iff.mpr h
  refine (List.Pairwise.and S N).imp fun {x y} ⟨h1, h2⟩ => ?_
  cases e : HT.lexLt x y with
  | true => rfl
  | false => exact absurd (lex_tri x y e h1) h2
theorem Raw.nodup {n : Int} {B : List Bag} (R : Raw n B) : B.Nodup := by
  refine R.two.imp_of_mem fun {a b} ha hb h e => ?_
  subst e
  have hl := R.len a ha
  have nd := R.nd a ha
  match a, hl, nd with
  | x :: y :: _, _, nd =>
    have := h x y (by simp) (by simp) (by simp) (by simp)
    subst this
    simp at nd
/-- in order -/
theorem Raw.fam {n : Int} {B : List Bag} (R : Raw n B) (h2 : 2 ≤ n) (h60 : n ≤ 60) : Fam n (srtB (B.map srtI)) := by
  have R1 := R.mapB (f := srtI) fun b _ => isP_perm _ b
  have R2 := R1.perm (isP_perm HT.lexLt _).symm
  refine { toRaw := R2, n2 := h2, n60 := h60, asc := fun b hb => ?_, srt := srtB_srt R1.nodup }
  obtain ⟨c, hc, rfl⟩ := List.mem_map.mp ((isP_perm _ _).mem_iff.mp hb)
  exact srtI_asc (R.nd c hc)
theorem lvl_ints (b : List Int) : (intsD b).all (lvl 0) = true := by
  rw [List.all_eq_true]
  intro d hd
  obtain ⟨x, _, rfl⟩ := List.mem_map.mp hd
  rfl
theorem sort_ints (o : Bool) (b : List Int) : sortLF (.lst o (intsD b)) = some (.lst true (intsD (srtI b))) := by
  unfold sortLF lvlOf
  simp only [seq_lst, lvl_ints, if_true]
  rw [isort_map (f := D.int) (lt' := ltI) fun a b => rfl]
theorem lt1 (a b : Bag) : ltD 1 (bagD a) (bagD b) = HT.lexLt a b := by
  show ltLs (eqF 1) (ltD 0) (intsD a) (intsD b) = _
  induction a generalizing b with
  | nil => cases b <;> rfl
  | cons x a ih =>
    cases b with
    | nil => rfl
    | cons y b =>
      simp only [List.map_cons, ltLs, HT.lexLt_cons]
      by_cases e : x = y
      · subst e
        have : eqF 1 (D.int x) (D.int x) = true := by simp [eqF]
        rw [this, if_pos rfl]
        exact ih b
      · have : eqF 1 (D.int x) (D.int y) = false := by simp [eqF, e]
        rw [this, if_neg e]
        rfl
theorem lvl1 {b : Bag} (h : b ≠ []) : lvl 1 (bagD b) = true := by
  show (!(intsD b).isEmpty && (intsD b).all (lvl 0)) = true
  rw [lvl_ints]
  cases b with
  | nil => exact absurd rfl h
  | cons x b => rfl
theorem sort_bags (o : Bool) {F : List Bag} (h : ∀ b ∈ F, b ≠ []) (hne : F ≠ []) : sortLF (.lst o (F.map bagD)) = some (.lst true ((srtB F).map bagD)) := by
  have h0 : (F.map bagD).all (lvl 0) = false := by
    cases F with
    | nil => exact absurd rfl hne
    | cons b F => rfl
  have h1 : (F.map bagD).all (lvl 1) = true := by
    rw [List.all_eq_true]
    intro d hd
    obtain ⟨b, hb, rfl⟩ := List.mem_map.mp hd
    exact lvl1 (h b hb)
  unfold sortLF lvlOf
  simp only [seq_lst, h0, h1, if_true]
  simp only [Bool.false_eq_true, if_false]
  rw [isort_map (f := bagD) (lt' := HT.lexLt) lt1]
end Pl
namespace Pl
open Va L2 PySem
def RowOk (ns : List Int) (d : D) : Prop := ∃ a b c, d = row ns a b c ∧ 0 ≤ a ∧ 0 ≤ b ∧ b < 2147483647
@[simp] theorem imm_row (ns : List Int) (a b c : Int) : imm (row ns a b c) = false := rfl
@[simp] theorem res_nil (ds : List D) (os : List (Option D)) (s : S) : restore [] ds os s = s := rfl
@[simp] theorem res_some (i : Nat) (b : Back) (d : D) (ds : List D) (o : Option D) (os : List (Option D)) (s : S) : restore (some i :: b) (d :: ds) (o :: os) s = (match imm d with
    | true => restore b ds os s
    | false => restore b ds os (s.set i o)) := rfl
@[simp] theorem res_none (b : Back) (d : D) (ds : List D) (o : Option D) (os : List (Option D)) (s : S) : restore (none :: b) (d :: ds) (o :: os) s = restore b ds os s := rfl
@[simp] theorem outs0 (RO : Nat → Bool) (j : Nat) (s : S) : outsOf RO j 0 s = [] := rfl
@[simp] theorem outs1 (RO : Nat → Bool) (j n : Nat) (x : Option D) (s : S) : outsOf RO j (n + 1) (x :: s) = (match RO j with
      | true => x
      | false => none) :: outsOf RO (j + 1) n s := rfl
@[simp] theorem isLst0 (o : Bool) (xs : List D) (s : S) : isLst 0 (some (.lst o xs) :: s) = true := rfl
theorem isLst_s (i : Nat) (x : Option D) (s : S) : isLst (i + 1) (x :: s) = isLst i s := by unfold isLst; simp
@[simp] theorem isLst1 (x : Option D) (s : S) : isLst 1 (x :: s) = isLst 0 s := isLst_s 0 x s
@[simp] theorem isLst2 (x : Option D) (s : S) : isLst 2 (x :: s) = isLst 1 s := isLst_s 1 x s
@[simp] theorem isLst3 (x : Option D) (s : S) : isLst 3 (x :: s) = isLst 2 s := isLst_s 2 x s
@[simp] theorem isLst4 (x : Option D) (s : S) : isLst 4 (x :: s) = isLst 3 s := isLst_s 3 x s
@[simp] theorem isLst5 (x : Option D) (s : S) : isLst 5 (x :: s) = isLst 4 s := isLst_s 4 x s
@[simp] theorem isLst6 (x : Option D) (s : S) : isLst 6 (x :: s) = isLst 5 s := isLst_s 5 x s
@[simp] theorem isLst7 (x : Option D) (s : S) : isLst 7 (x :: s) = isLst 6 s := isLst_s 6 x s
@[simp] theorem isLst8 (x : Option D) (s : S) : isLst 8 (x :: s) = isLst 7 s := isLst_s 7 x s
@[simp] theorem isLst9 (x : Option D) (s : S) : isLst 9 (x :: s) = isLst 8 s := isLst_s 8 x s
/-- a number drawn -/
def SpTaken (ns : List Int) (f : Fn) : Prop := ∀ r many, RowOk ns r → 1 ≤ many → many ≤ 1000000 → ∃ x r', f [r, .int many] = some (.int x, [some r', some (.int many)]) ∧ 0 ≤ x ∧ x < many ∧ RowOk ns r'
theorem taken_sp (ns : List Int) : SpTaken ns f__law_taken := fun r many ⟨a, b, c, e, h1, h2, h3⟩ hm hm2 => by
  subst e
  obtain ⟨x, a', b', c', e, k1, k2, k3⟩ := taken_ok ns (c := c) h1 h2 h3 hm hm2
  exact ⟨x, _, e, k1, k2, a', b', c', rfl, k3⟩
theorem RowOk.imm {ns : List Int} {r : D} (h : RowOk ns r) : Va.imm r = false := by
  obtain ⟨a, b, c, rfl, _⟩ := h
  rfl
/-- a thing drawn -/
def SpPick (ns : List Int) (f : Fn) : Prop := ∀ r (o : Bool) (xs : List D), RowOk ns r → xs ≠ [] → xs.length ≤ 1000000 → (∀ x ∈ xs, Va.imm x = true) → ∃ x ∈ xs, ∃ r' o1, f [r, .lst o xs] = some (x, [some r', o1]) ∧ RowOk ns r'
theorem pick_sp {ns : List Int} {f : Fn} (ht : SpTaken ns f) : SpPick ns (f__law_pick f) := fun r o xs hr hne hl hi => by
  have hpos : 0 < xs.length := List.length_pos_iff.mpr hne
  obtain ⟨x, r', e, h0, h1, hr'⟩ := ht r xs.length hr (by omega) (by omega)
  have hx : x.toNat < xs.length := by omega
  refine ⟨xs[x.toNat], List.getElem_mem hx, r', some (.lst o xs), ?_, hr'⟩
  have ha : atI xs x = some xs[x.toNat] := by rw [atI_ok h0 (by omega), List.getElem?_eq_getElem hx]
  unfold f__law_pick m__law_pick
  simp [runD, hr.imm, e, ha, hi _ (List.getElem_mem hx)]
theorem all_imm_ints (b : List Int) : (intsD b).all Va.imm = true := by
  rw [List.all_eq_true]
  intro d hd
  obtain ⟨x, _, rfl⟩ := List.mem_map.mp hd
  rfl
theorem LN_eq' : LN = 16777216 := rfl
theorem ble_ok {n : Nat} (h : n ≤ 16777216) : Nat.ble n LN = true := Nat.ble_eq_true_of_le (LN_eq' ▸ h)
theorem blt_ok {n : Nat} (h : n < 16777216) : Nat.blt n LN = true := ble_ok h
@[simp] theorem ble0 : Nat.ble 0 LN = true := ble_ok (by omega)
@[simp] theorem ble1 : Nat.ble 1 LN = true := ble_ok (by omega)
@[simp] theorem ble2 : Nat.ble 2 LN = true := ble_ok (by omega)
@[simp] theorem ble3 : Nat.ble 3 LN = true := ble_ok (by omega)
@[simp] theorem ble4 : Nat.ble 4 LN = true := ble_ok (by omega)
@[simp] theorem ble5 : Nat.ble 5 LN = true := ble_ok (by omega)
@[simp] theorem ble6 : Nat.ble 6 LN = true := ble_ok (by omega)
theorem erase_map {α β : Type} (f : α → β) (l : List α) (i : Nat) : (l.map f).eraseIdx i = (l.eraseIdx i).map f := by
  induction l generalizing i with
  | nil => simp
  | cons x l ih => cases i <;> simp [ih]
theorem small_of {i : Int} (h : -16777216 ≤ i) (h2 : i ≤ 16777216) : smallI i = true := smallI_of (by omega) (by omega)
theorem rgD_len (a b : Int) : (rgD a b).length = (b - a).toNat := by simp [rgD]
theorem erase_perm {b : List Int} {i : Nat} (h : i < b.length) : b.Perm (b[i] :: b.eraseIdx i) := by
  induction b generalizing i with
  | nil => simp at h
  | cons x b ih =>
    cases i with
    | zero => simp
    | succ i =>
      simp only [List.eraseIdx_cons_succ, List.getElem_cons_succ]
      exact ((ih (i := i) (by simpa using h)).cons x).trans (.swap _ _ _)
theorem seqIx {i : Int} {n : Nat} (h0 : 0 ≤ i) (h1 : i < n) : seqIndex? i n = some i.toNat := by
  have e : ixN n i = some i.toNat := by unfold ixN; rw [if_pos h0, if_pos h1]
  exact (ixN_seq e).1
/-- mixed -/
def SpMixed (ns : List Int) (f : Fn) : Prop := ∀ r (o : Bool) (b : List Int), RowOk ns r → b.length ≤ 1000000 → ∃ c r' o1, f [r, .lst o (intsD b)] = some (.lst true (intsD c), [some r', o1]) ∧ c.Perm b ∧ RowOk ns r'
theorem mixed_sp {ns : List Int} {f : Fn} (ht : SpTaken ns f) : SpMixed ns (f__law_mixed f) := fun r o b hr hl => by
  unfold f__law_mixed m__law_mixed
  have key := forL_inv (t := .n 2) (b := mDo (mApp 4 (mPopAt 3 (mCall f (mCons (mTake 0) (mCons (m1 (.v 3) lenF) mNil)) [some 0, none]))))
    (fun i st => ∃ r' left found x, st = [some r', some (.lst o (intsD b)), x, some (.lst true (intsD left)), some (.lst true (intsD found))] ∧ RowOk ns r' ∧ (left ++ found).Perm b ∧ left.length + i = b.length)
    (ds := rgD 0 b.length) (k := 0) (st := [some r, some (.lst o (intsD b)), none, some (.lst true (intsD b)), some (.lst true (intsD []))])
    ⟨r, b, [], none, rfl, hr, by simp, by simp⟩ fun i d st hi ⟨r', left, found, x, e, hr', hp, hn⟩ => by
      subst e
      have hi' : i < b.length := by
        have := (List.getElem?_eq_some_iff.mp hi).1
        rw [rgD_len] at this
        omega
      have hll : 0 < left.length := by omega
      obtain ⟨x, r2, e, h0, h1, hr2⟩ := ht r' left.length hr' (by omega) (by omega)
      have hx : x.toNat < left.length := by omega
      have hfl : found.length < 16777216 := by
        have := hp.length_eq
        rw [List.length_append] at this
        omega
      refine ⟨_, [some r2, some (.lst o (intsD b)), some d, some (.lst true (intsD (left.eraseIdx x.toNat))), some (.lst true (intsD (found ++ [left[x.toNat]])))], rfl, .inl ?_, r2, left.eraseIdx x.toNat, found ++ [left[x.toNat]], some d, rfl, hr2, ?_, ?_⟩
      · have hs := small_of (i := x) (by omega) (by omega)
        simp [hr'.imm, e, seqIx h0 h1, hs, blt_ok hfl, List.getElem?_eq_getElem hx, erase_map]
      · refine List.Perm.trans ?_ hp
        rw [← List.append_assoc]
        refine List.Perm.trans List.perm_append_comm ?_
        simp only [List.singleton_append, ← List.cons_append]
        exact (erase_perm hx).symm.append_right found
      · rw [List.length_eraseIdx, if_pos hx]
        omega
  obtain ⟨st', e, r', left, found, x, rfl, hr', hp, hn⟩ := key
  have h62 := small_of (i := b.length) (by omega) (by omega)
  have hlc : lstcF (.lst o (intsD b)) = some (.lst true (intsD b)) := by
    unfold lstcF
    simp only [seq_lst, all_imm_ints]
  have hl0 : left = [] := by
    rw [rgD_len] at hn
    exact List.length_eq_zero_iff.mp (by omega)
  subst hl0
  refine ⟨found, r', some (.lst o (intsD b)), ?_, by simpa using hp, hr'⟩
  simp only [List.map_nil] at e
  simp [runD, hlc, h62, e]
end Pl
namespace Pl
open Va L2 PySem
theorem lcL_a {α : Type} {t : Tgt} {mt : M Bool} {me : M D} {own : List Nat} {st : S} (enc : α → D) (f : α → D) (p : α → Bool) : ∀ {l : List α},
    (∀ a ∈ l, ∃ s1 s2, asgT t (enc a) st = some s1 ∧ mt s1 = some (p a, s2) ∧ (p a = true → ∃ s3, me s2 = some (f a, s3) ∧ wipeS s3 own = st) ∧ (p a = false → wipeS s2 own = st)) → lcL t mt me own (l.map enc) st = some ((l.filter p).map f, st)
  | [], _ => rfl
  | a :: l, h => by
    obtain ⟨s1, s2, h1, h2, h3, h4⟩ := h a (List.mem_cons_self ..)
    have ih := lcL_a enc f p (l := l) fun d hd => h d (List.mem_cons_of_mem _ hd)
    rw [List.map_cons]
    unfold lcL
    rw [h1]
    dsimp only
    rw [h2]
    cases e : p a with
    | true =>
      obtain ⟨s3, h5, h6⟩ := h3 e
      dsimp only
      rw [h5]
      dsimp only
      rw [h6, ih]
      simp [e]
    | false =>
      dsimp only
      rw [h4 e, ih]
      simp [e]
theorem mLc_af {α : Type} {mi : M (List D)} {t : Tgt} {mt : M Bool} {me : M D} {own : List Nat} {st s st0 : S} {l : List α} (enc : α → D) (f : α → D) (p : α → Bool) (hmi : mi st = some (l.map enc, s)) (ho : ownOk s own = true) (hl : l.length ≤ 16777216) (hw : wipeS s own = st0)
    (h : ∀ a ∈ l, ∃ s1 s2, asgT t (enc a) st0 = some s1 ∧ mt s1 = some (p a, s2) ∧ (p a = true → ∃ s3, me s2 = some (f a, s3) ∧ wipeS s3 own = st0) ∧ (p a = false → wipeS s2 own = st0)) : mLc mi t mt me own st = some (.lst true ((l.filter p).map f), backS s st0 own) := by
  unfold mLc
  rw [hmi]
  dsimp only
  rw [ho, ble_ok (by rw [List.length_map]; exact hl), hw]
  simp only [Bool.and_self, lcL_a enc f p h]
theorem mLc_a {α : Type} {mi : M (List D)} {t : Tgt} {me : M D} {own : List Nat} {st s st0 : S} {l : List α} (enc : α → D) (f : α → D) (hmi : mi st = some (l.map enc, s)) (ho : ownOk s own = true) (hl : l.length ≤ 16777216) (hw : wipeS s own = st0)
    (h : ∀ a ∈ l, ∃ s1 s3, asgT t (enc a) st0 = some s1 ∧ me s1 = some (f a, s3) ∧ wipeS s3 own = st0) : mLc mi t mYes me own st = some (.lst true (l.map f), backS s st0 own) := by
  rw [mLc_af enc f (fun _ => true) hmi ho hl hw fun d hd => by
    obtain ⟨s1, s3, h1, h2, h3⟩ := h d hd
    exact ⟨s1, s1, h1, rfl, fun _ => ⟨s3, h2, h3⟩, fun e => by cases e⟩]
  rw [List.filter_eq_self.mpr (fun _ _ => rfl)]
def lstD (o : Bool) (b : Bag) : D := .lst o (intsD b)
@[simp] theorem imm_lstD (o : Bool) (b : Bag) : imm (lstD o b) = !o := rfl
@[simp] theorem tup_ints (o : Bool) (b : Bag) : tupcF (.lst o (intsD b)) = some (bagD b) := by
  unfold tupcF
  simp only [all_imm_ints]
  rfl
theorem all_imm_bags (F : List Bag) : (F.map bagD).all Va.imm = true := by
  rw [List.all_eq_true]
  intro d hd
  obtain ⟨x, _, rfl⟩ := List.mem_map.mp hd
  rfl
@[simp] theorem tup_bags (o : Bool) (F : List Bag) : tupcF (.lst o (F.map bagD)) = some (famD F) := by
  unfold tupcF
  simp only [all_imm_bags]
  rfl
theorem frzL_bags (B : List Bag) : frzL (B.map (lstD true)) = B.map (lstD false) := by
  induction B with
  | nil => simp [frzL]
  | cons b B ih => simp [frzL, ih, lstD, frz, frzL_ints]
@[simp] theorem frzA_lstD (o : Bool) (b : Bag) : frzA (lstD o b) = lstD false b := by
  unfold lstD
  rw [frzA_lst]
  cases o <;> simp [frzL_ints]
@[simp] theorem seq_lstD (o : Bool) (b : Bag) : seqOf (lstD o b) = some (false, intsD b) := rfl
theorem atI_ints {b : List Int} {x : Int} (h0 : 0 ≤ x) (h1 : x < b.length) : atI (intsD b) x = some (.int (b.getD x.toNat 0)) := by
  rw [atI_ok h0 (by simpa using h1), List.getElem?_map]
  have : x.toNat < b.length := by omega
  simp [List.getElem?_eq_getElem this]
def nm (names : List Int) (x : Int) : Int := names.getD x.toNat 0
def renB (names : List Int) (B : List Bag) : List Bag := B.map fun b => srtI (b.map (nm names))
theorem named_ok {B : List Bag} {names : List Int} (hne : B ≠ []) (hb : ∀ b ∈ B, b ≠ [] ∧ b.length ≤ 1000000 ∧ ∀ x ∈ b, 0 ≤ x ∧ x < names.length) (hl : B.length ≤ 1000000) :
    ∃ o1 o2, f__law_named [.lst true (B.map (lstD true)), lstD true names] = some (famD (srtB (renB names B)), [o1, o2]) := by
  unfold f__law_named m__law_named
  refine ⟨some (.lst false (B.map (lstD false))), some (lstD true names), ?_⟩
  simp [runD, frzL_bags]
  rw [mLc_a (l := B) (lstD false) (fun b => bagD (srtI (b.map (nm names)))) (s := [some (.lst false (B.map (lstD false))), some (lstD true names), none, none]) (st0 := [some (.lst false (B.map (lstD false))), some (lstD true names), none, none])
    (by simp [frzL_bags]) (by simp) (by omega) (by simp) fun b hbB => by
      obtain ⟨h1, h2, h3⟩ := hb b hbB
      refine ⟨_, [some (.lst false (B.map (lstD false))), some (lstD true names), some (lstD false b), none], by simp; rfl, ?_, by simp⟩
      simp
      rw [mLc_a (l := b) D.int (fun x => .int (nm names x)) (s := [some (.lst false (B.map (lstD false))), some (lstD true names), some (lstD false b), none]) (st0 := [some (.lst false (B.map (lstD false))), some (lstD true names), some (lstD false b), none])
        (by simp) (by simp) (by omega) (by simp) fun x hx => by
          refine ⟨_, [some (.lst false (B.map (lstD false))), some (lstD true names), some (lstD false b), some (.int x)], by simp; rfl, ?_, by simp⟩
          have : atI (intsD names) x = some (.int (nm names x)) := atI_ints (h3 x hx).1 (h3 x hx).2
          simp [lstD, this]]
      have e : (b.map fun x => D.int (nm names x)) = intsD (b.map (nm names)) := by simp
      rw [e]
      simp [sort_ints, -List.map_map]]
  have e : (B.map fun b => bagD (srtI (b.map (nm names)))) = (renB names B).map bagD := by unfold renB; rw [List.map_map]; rfl
  rw [e]
  have hs := sort_bags true (F := renB names B) (fun c hc => by
    obtain ⟨b, hb', rfl⟩ := List.mem_map.mp hc
    intro h0
    have := (isP_perm ltI (b.map (nm names))).length_eq
    rw [show isP ltI (b.map (nm names)) = [] from h0] at this
    simp at this
    exact (hb b hb').1 (List.length_eq_zero_iff.mp this.symm)) (by simpa [renB] using hne)
  simp [hs]
end Pl
namespace Pl
open Va L2 PySem
def iot (n : Int) : List Int := (List.range n.toNat).map fun (i : Nat) => (i : Int)
theorem rgD0 (n : Int) : rgD 0 n = intsD (iot n) := by
  unfold rgD iot
  simp
theorem iot_len (n : Int) : (iot n).length = n.toNat := by simp [iot]
theorem iot_mem {n x : Int} : x ∈ iot n ↔ 0 ≤ x ∧ x < n := by
  unfold iot
  simp only [List.mem_map, List.mem_range]
  constructor
  · rintro ⟨i, hi, rfl⟩; omega
  · rintro ⟨h0, h1⟩; exact ⟨x.toNat, by omega, by omega⟩
theorem iot_nodup (n : Int) : (iot n).Nodup := by
  unfold iot
  refine List.pairwise_map.mpr (List.nodup_range.imp fun {a b} h e => h ?_)
  omega
/-- names mixed -/
theorem Raw.ren {n : Int} {B : List Bag} (R : Raw n B) {c : List Int} (hc : c.Perm (iot n)) : Raw n (renB c B) := by
  have hl : c.length = n.toNat := by rw [hc.length_eq, iot_len]
  have nd : c.Nodup := hc.nodup_iff.mpr (iot_nodup n)
  have at' : ∀ x, 0 ≤ x → x < n → ∃ h : x.toNat < c.length, nm c x = c[x.toNat] := fun x h0 h1 => by
    have h : x.toNat < c.length := by omega
    refine ⟨h, ?_⟩
    unfold nm
    simp [List.getD, List.getElem?_eq_getElem h]
  have R1 := R.named (g := nm c) (fun x h0 h1 => by
      obtain ⟨h, e⟩ := at' x h0 h1
      rw [e]
      exact iot_mem.mp (hc.mem_iff.mp (List.getElem_mem h)))
    (fun x y x0 x1 y0 y1 e => by
      obtain ⟨h, e1⟩ := at' x x0 x1
      obtain ⟨h', e2⟩ := at' y y0 y1
      rw [e1, e2] at e
      have := (List.getElem_inj nd).mp e
      omega)
    (fun y y0 y1 => by
      have : y ∈ c := hc.mem_iff.mpr (iot_mem.mpr ⟨y0, y1⟩)
      obtain ⟨i, hi, e⟩ := List.getElem_of_mem this
      refine ⟨i, by omega, by omega, ?_⟩
      obtain ⟨h, e1⟩ := at' i (by omega) (by omega)
      rw [e1]
      simpa using e)
  have R2 := R1.mapB (f := srtI) fun b _ => isP_perm _ b
  unfold renB
  rw [List.map_map] at R2
  exact R2
/-- a family drawn -/
def SpFamily (ns : List Int) (f : Fn) : Prop := ∀ r most, RowOk ns r → 2 ≤ most → most ≤ 60 → ∃ F n r', Fam n F ∧ n ≤ most ∧ f [r, .int most] = some (famD F, [some r', some (.int most)]) ∧ RowOk ns r'
def bagsD (B : List Bag) : D := .lst true (B.map (lstD true))
@[simp] theorem imm_bagsD (B : List Bag) : imm (bagsD B) = false := rfl
@[simp] theorem len_bagsD (B : List Bag) : lenF (bagsD B) = some (.int B.length) := by simp [bagsD]
theorem isLst_bagsD (B : List Bag) (s : S) : isLst 0 (some (bagsD B) :: s) = true := rfl
theorem family_sp {ns : List Int} {ct cp cm cn : Fn} (ht : SpTaken ns ct) (hp : SpPick ns cp) (hm : SpMixed ns cm) (hn : ∀ {B : List Bag} {names : List Int}, B ≠ [] → (∀ b ∈ B, b ≠ [] ∧ b.length ≤ 1000000 ∧ ∀ x ∈ b, 0 ≤ x ∧ x < names.length) → B.length ≤ 1000000 → ∃ o1 o2, cn [.lst true (B.map (lstD true)), lstD true names] = some (famD (srtB (renB names B)), [o1, o2])) :
    SpFamily ns (f__law_family cp ct cm cn) := fun r most hr hm2 hm60 => by
  obtain ⟨x1, r1, e1, x0, x1l, hr1⟩ := ht r (most - 1) hr (by omega) (by omega)
  obtain ⟨y, hy, r2, o2, e2, hr2⟩ := hp r1 true [.int 2, .int 3, .int 3, .int 4, .int 9] hr1 (by simp) (by simp) (by simp)
  obtain ⟨o, rfl, o0, o9⟩ : ∃ o : Int, y = .int o ∧ 2 ≤ o ∧ o ≤ 9 := by
    simp at hy
    rcases hy with rfl | rfl | rfl | rfl | rfl
    all_goals exact ⟨_, rfl, by omega, by omega⟩
  have key := forL_inv (t := .n 3) (b := (mIf (mB (m2 (.e (mCall ct (mCons (mTake 0) (mCons (mTake 5) mNil)) [some 0, some 5])) (.e (mC (.int 0))) (cmpF .Eq))) (mDo (mApp2 2 (mCall ct (mCons (mTake 0) (mCons (m1 (.v 2) lenF) mNil)) [some 0, none]) (.v 3))) (mDo (mApp 2 (mLst (mCons (mCall ct (mCons (mTake 0) (mCons (mTake 3) mNil)) [some 0, some 3]) (mCons (mVar 3) mNil)))))))
    (fun i st => ∃ r' B x, st = [some r', some (.int most), some (bagsD B), x, some (.int (2 + x1)), some (.int o)] ∧ RowOk ns r' ∧ Raw (2 + (i : Int)) B)
    (ds := rgD 2 (2 + x1)) (k := 0) (st := [some r2, some (.int most), some (bagsD [[0, 1]]), none, some (.int (2 + x1)), some (.int o)])
    ⟨r2, [[0, 1]], none, rfl, hr2, by simpa using raw2⟩ fun i d st hi ⟨r', B, x, e, hr', R⟩ => by
      subst e
      have hd := rgD_get hi
      subst hd
      have hi' : i < x1.toNat := by
        have := (List.getElem?_eq_some_iff.mp hi).1
        rw [rgD_len] at this
        omega
      rw [Nat.zero_add] at R
      rw [Nat.zero_add]
      obtain ⟨z, r3, e3, z0, z1, hr3⟩ := ht r' o hr' (by omega) (by omega)
      have hfew := R.few
      by_cases hz : z = 0
      · subst hz
        have hBne := R.ne (by omega)
        have hBpos : 0 < B.length := List.length_pos_iff.mpr hBne
        obtain ⟨j, r4, e4, j0, j1, hr4⟩ := ht r3 B.length hr3 (by omega) (by omega)
        have hj : j.toNat < B.length := by omega
        have hbl := R.bag_le B[j.toNat] (List.getElem_mem hj)
        refine ⟨_, [some r4, some (.int most), some (bagsD (B.set j.toNat (B[j.toNat] ++ [2 + (i : Int)]))), some (.int (2 + (i : Nat))), some (.int (2 + x1)), some (.int o)], rfl, .inl ?_, r4, _, _, rfl, hr4, ?_⟩
        · have hix : ixN B.length j = some j.toNat := by unfold ixN; rw [if_pos j0, if_pos j1]
          have hg : B[j.toNat]? = some B[j.toNat] := List.getElem?_eq_getElem hj
          have hblt : Nat.blt B[j.toNat].length LN = true := blt_ok (by omega)
          simp [hr'.imm, hr3.imm, e3, isLst_bagsD, e4]
          simp [bagsD, hix, hg, lstD, hblt, Atm.get]
        · rw [show (2 : Int) + ((i + 1 : Nat) : Int) = (2 + (i : Int)) + 1 by omega]
          exact R.push (List.getElem?_eq_getElem hj)
      · obtain ⟨j, r4, e4, j0, j1, hr4⟩ := ht r3 (2 + (i : Int)) hr3 (by omega) (by omega)
        refine ⟨_, [some r4, some (.int most), some (bagsD (B ++ [[j, 2 + (i : Int)]])), some (.int (2 + (i : Nat))), some (.int (2 + x1)), some (.int o)], rfl, .inl ?_, r4, _, _, rfl, hr4, ?_⟩
        · have hblt : Nat.blt B.length LN = true := blt_ok (by omega)
          have hzb : (z == 0) = false := by simpa using hz
          simp [hr'.imm, hr3.imm, e3, isLst_bagsD, e4, hzb]
          simp [bagsD, hblt, lstD]
        · rw [show (2 : Int) + ((i + 1 : Nat) : Int) = (2 + (i : Int)) + 1 by omega]
          exact R.snoc j0 j1
  obtain ⟨st', e, r', B, x, rfl, hr', R⟩ := key
  rw [rgD_len, Nat.zero_add, show (2 : Int) + (((2 + x1 - 2).toNat : Nat) : Int) = 2 + x1 by omega] at R
  have hlen := iot_len (2 + x1)
  obtain ⟨c, r5, o5, e5, hc, hr5⟩ := hm r' true (iot (2 + x1)) hr' (by omega)
  have hcl : c.length = (2 + x1).toNat := by rw [hc.length_eq, iot_len]
  have hfew := R.few
  obtain ⟨o6, o7, e6⟩ := hn (B := B) (names := c) (R.ne (by omega)) (fun b hb => by
    have h1 := R.len b hb
    have h2 := R.bag_le b hb
    refine ⟨fun h => by rw [h] at h1; simp at h1, by omega, fun x hx => ?_⟩
    have := R.rng b hb x hx
    omega) (by omega)
  refine ⟨srtB (renB c B), 2 + x1, r5, ?_, by omega, ?_, hr5⟩
  · have F := (R.ren hc).perm (isP_perm HT.lexLt _).symm
    refine { toRaw := F, n2 := by omega, n60 := by omega, asc := fun b hb => ?_, srt := srtB_srt (R.ren hc).nodup }
    have hb' := (isP_perm HT.lexLt _).mem_iff.mp hb
    obtain ⟨b0, hb0, rfl⟩ := List.mem_map.mp hb'
    refine srtI_asc ?_
    exact (isP_perm ltI _).nodup_iff.mp ((R.ren hc).nd _ hb')
  · have hs2 := small_of (i := (2 : Int)) (by omega) (by omega)
    have hsz := small_of (i := 2 + x1) (by omega) (by omega)
    have hrg := rgOk_of (n := 2 + x1) (by omega) (by omega)
    unfold f__law_family m__law_family
    simp [runD, hr.imm, hr1.imm, e1, e2, hs2, hsz]
    have hb0 : bagsD [[0, 1]] = .lst true [.lst true [.int 0, .int 1]] := rfl
    rw [hb0] at e
    simp [e, rg1F, hrg, rgD0, hr'.imm, e5, hr5.imm]
    have e6' : cn [bagsD B, .lst true (intsD c)] = some (famD (srtB (renB c B)), [o6, o7]) := e6
    simp [e6']
end Pl
namespace Pl
open Va L2 PySem
@[simp] theorem isi_int (i : Int) : isiF .int (.int i) = some (.bl true) := rfl
@[simp] theorem isi_int_b (i : Int) : isiF .bool (.int i) = some (.bl false) := rfl
@[simp] theorem isi_int_s (i : Int) : isiF .str (.int i) = some (.bl false) := rfl
@[simp] theorem isi_tup (xs : List D) : isiF .tuple (.tup xs) = some (.bl true) := rfl
@[simp] theorem isi_tup_l (xs : List D) : isiF .list (.tup xs) = some (.bl false) := rfl
@[simp] theorem imm_bag (b : Bag) : imm (bagD b) = true := rfl
@[simp] theorem imm_fam (F : List Bag) : imm (famD F) = true := rfl
@[simp] theorem isi_bag (b : Bag) : isiF .tuple (bagD b) = some (.bl true) := rfl
@[simp] theorem isi_fam (b : List Bag) : isiF .tuple (famD b) = some (.bl true) := rfl
@[simp] theorem len_bag (b : Bag) : lenF (bagD b) = some (.int b.length) := by simp [bagD]
@[simp] theorem len_fam (b : List Bag) : lenF (famD b) = some (.int b.length) := by simp [famD]
@[simp] theorem frzA_bag (b : Bag) : frzA (bagD b) = bagD b := rfl
@[simp] theorem frzA_fam (b : List Bag) : frzA (famD b) = famD b := rfl
@[simp] theorem seq_bag (b : Bag) : seqOf (bagD b) = some (true, intsD b) := rfl
@[simp] theorem seq_fam (b : List Bag) : seqOf (famD b) = some (true, b.map bagD) := rfl
theorem is_int_ok (n : Int) : f_is_int [.int n] = some (.bl true, [some (.int n)]) := by
  unfold f_is_int m_is_int
  simp [runD]
theorem is_in_ok {c : Fn} (hc : ∀ n, c [.int n] = some (.bl true, [some (.int n)])) {v lo hi : Int} (h1 : lo ≤ v) (h2 : v ≤ hi) : f_is_in c [.int v, .int lo, .int hi] = some (.bl true, [some (.int v), some (.int lo), some (.int hi)]) := by
  unfold f_is_in m_is_in
  simp [runD, hc, h1, h2]
/-- an ascending tuple -/
def SpRis (f : Fn) : Prop := ∀ xs : List D, xs.length ≤ 16777216 → (xs.Pairwise fun x y => cmpF .Lt x y = some (.bl true)) → f [.tup xs] = some (.bl true, [some (.tup xs)])
theorem ris_sp : SpRis f_is_rising := fun xs hl h => is_rising_ok (by rw [LN_eq']; exact hl) h
theorem bag_ris {f : Fn} (hf : SpRis f) {b : Bag} (hl : b.length ≤ 16777216) (h : b.Pairwise (· < ·)) : f [bagD b] = some (.bl true, [some (bagD b)]) :=
  hf (intsD b) (by simpa using hl) (List.pairwise_map.mpr (h.imp fun {x y} h => by simp [h]))
theorem toInts_ints (b : List Int) : toInts (intsD b) = some b := by
  induction b with
  | nil => rfl
  | cons x b ih => simp [toInts, ih]
theorem fam_ris {f : Fn} (hf : SpRis f) {F : List Bag} (hl : F.length ≤ 16777216) (h : F.Pairwise fun a b => HT.lexLt a b = true) : f [famD F] = some (.bl true, [some (famD F)]) :=
  hf (F.map bagD) (by simpa using hl) (List.pairwise_map.mpr (h.imp fun {x y} h => by
    show ltF (.tup (intsD x)) (.tup (intsD y)) = _
    simp only [ltF, toInts_ints, h]))
theorem is_bag_ok {ci cr : Fn} (hi : ∀ v, 0 ≤ v → v ≤ 59 → ci [.int v, .int 0, .int 59] = some (.bl true, [some (.int v), some (.int 0), some (.int 59)])) (hr : SpRis cr) {b : Bag} (h2 : 2 ≤ b.length) (hl : b.length ≤ 1000000) (hx : ∀ x ∈ b, 0 ≤ x ∧ x ≤ 59) (ha : b.Pairwise (· < ·)) :
    f_is_bag ci cr [bagD b] = some (.bl true, [some (bagD b)]) := by
  have h2' : ¬ ((b.length : Int) < 2) := by omega
  have hr' := bag_ris hr (by omega) ha
  unfold f_is_bag m_is_bag
  simp [runD, h2']
  rw [mLc_a (l := b) D.int (fun x => .bl true) (s := [some (bagD b), none]) (st0 := [some (bagD b), none]) (by simp) (by simp) (by omega) (by simp) fun x hxb => by
    refine ⟨_, [some (bagD b), some (.int x)], by simp; rfl, ?_, by simp⟩
    simp [hi x (hx x hxb).1 (hx x hxb).2]]
  simp [all_true, hr']
theorem shp_ints (n : Nat) (b : List Int) : (intsD b).all (shp (n + 1)) = true := by
  rw [List.all_eq_true]
  intro d hd
  obtain ⟨x, _, rfl⟩ := List.mem_map.mp hd
  rfl
theorem shp_bags (n : Nat) (F : List Bag) : (F.map bagD).all (shp (n + 2)) = true := by
  rw [List.all_eq_true]
  intro d hd
  obtain ⟨x, _, rfl⟩ := List.mem_map.mp hd
  exact shp_ints n x
theorem eq_fam0 {F : List Bag} (h : F ≠ []) : eqcF (famD F) (.tup []) = some (.bl false) := by
  have s1 : shp 60 (famD F) = true := shp_bags 57 F
  have s2 : shp 60 (.tup []) = true := rfl
  unfold eqcF eqD
  rw [s1, s2]
  cases F with
  | nil => exact absurd rfl h
  | cons b F => rfl
def SpBag (f : Fn) : Prop := ∀ {n : Int} {b : Bag}, n ≤ 60 → 2 ≤ b.length → b.length ≤ 1000000 → (∀ x ∈ b, 0 ≤ x ∧ x < n) → b.Pairwise (· < ·) → f [bagD b] = some (.bl true, [some (bagD b)])
theorem bag_sp {ci cr : Fn} (hi : ∀ v, 0 ≤ v → v ≤ 59 → ci [.int v, .int 0, .int 59] = some (.bl true, [some (.int v), some (.int 0), some (.int 59)])) (hr : SpRis cr) : SpBag (f_is_bag ci cr) := fun hn h2 hl hx ha =>
  is_bag_ok hi hr h2 hl (fun x h => by have := hx x h; omega) ha
theorem Fam.bagOk {n : Int} {F : List Bag} (H : Fam n F) {f : Fn} (hf : SpBag f) {b : Bag} (hb : b ∈ F) : f [bagD b] = some (.bl true, [some (bagD b)]) := by
  have h1 := H.bag_le b hb
  have h2 := H.n60
  exact hf H.n60 (H.len b hb) (by omega) (H.rng b hb) (H.asc b hb)
theorem Fam.len_le {n : Int} {F : List Bag} (H : Fam n F) : F.length ≤ 59 := by
  have h1 := H.few
  have h2 := H.n60
  omega
theorem need_bags_ok {cb cr : Fn} (hb : SpBag cb) (hr : SpRis cr) {n : Int} {F : List Bag} (H : Fam n F) : f_need_bags cb cr [famD F] = some (.non, [some (famD F)]) := by
  have hl := H.len_le
  have hr' := fam_ris hr (by omega) H.srt
  unfold f_need_bags m_need_bags
  simp [runD, eq_fam0 (H.ne H.n2)]
  rw [mLc_a (l := F) bagD (fun x => .bl true) (s := [some (famD F), none]) (st0 := [some (famD F), none]) (by simp) (by simp) (by omega) (by simp) fun b hbF => by
    refine ⟨_, [some (famD F), some (bagD b)], by simp; rfl, ?_, by simp⟩
    simp [H.bagOk hb hbF]]
  simp [all_true, hr']
theorem getLast_atI {b : Bag} (h : b ≠ []) : atI (intsD b) (-1) = some (.int (b.getLast h)) := by
  have hl : 0 < b.length := List.length_pos_iff.mpr h
  have e : ixN (intsD b).length (-1) = some (b.length - 1) := by
    unfold ixN
    rw [if_neg (by omega), if_pos (by simp; omega)]
    simp
    omega
  unfold atI
  rw [e]
  simp [List.getLast_eq_getElem, List.getElem?_eq_getElem (show b.length - 1 < b.length by omega)]
/-- the greatest bead -/
theorem Fam.greatest {n : Int} {F : List Bag} (H : Fam n F) : maxF (.lst true (F.map fun b => D.int (b.getLast?.getD 0))) = some (.int (n - 1)) := by
  have h1 : ∀ b ∈ F, b.getLast?.getD 0 ≤ n - 1 ∧ (n - 1 ∈ b → b.getLast?.getD 0 = n - 1) := fun b hb => by
    have hne : b ≠ [] := fun e => by have := H.len b hb; rw [e] at this; simp at this
    rw [List.getLast?_eq_some_getLast hne]
    have hm := List.getLast_mem hne
    have := H.rng b hb _ hm
    refine ⟨by simp; omega, fun hn => ?_⟩
    simp
    have ha := H.asc b hb
    rw [← List.dropLast_concat_getLast hne] at ha hn
    rcases List.mem_append.mp hn with q | q
    · have := (List.pairwise_append.mp ha).2.2 _ q (b.getLast hne) (by simp)
      omega
    · simp at q; omega
  obtain ⟨b, hb, hn⟩ := H.cov (n - 1) (by have := H.n2; omega) (by omega)
  have e : F.map (fun b => D.int (b.getLast?.getD 0)) = intsD (F.map fun b => b.getLast?.getD 0) := by unfold intsD; rw [List.map_map]; rfl
  rw [e]
  unfold maxF intsF lstOf
  simp only [toInts_ints]
  cases hF : F.map (fun b => b.getLast?.getD 0) with
  | nil => rw [List.map_eq_nil_iff] at hF; rw [hF] at hb; simp at hb
  | cons x xs =>
    obtain ⟨i1, i2⟩ := imax_spec xs x
    have m1 : imax x xs ∈ F.map (fun b => b.getLast?.getD 0) := by rw [hF]; exact i1
    obtain ⟨c, hc, ec⟩ := List.mem_map.mp m1
    have m2 : n - 1 ∈ F.map (fun b => b.getLast?.getD 0) := List.mem_map.mpr ⟨b, hb, (h1 b hb).2 hn⟩
    have m3 := i2 (n - 1) (by rw [← hF]; exact m2)
    have m4 := (h1 c hc).1
    have : imax x xs = n - 1 := by omega
    simp [this]
theorem Fam.lastAt {n : Int} {F : List Bag} (H : Fam n F) {b : Bag} (hb : b ∈ F) : ixF (bagD b) (.int (-1)) = some (.int (b.getLast?.getD 0)) := by
  have hne : b ≠ [] := fun e => by have := H.len b hb; rw [e] at this; simp at this
  show immO (atI (intsD b) (-1)) = _
  rw [getLast_atI hne, List.getLast?_eq_some_getLast hne]
  rfl
theorem size_of_ok {n : Int} {F : List Bag} (H : Fam n F) : f_size_of [famD F] = some (.int n, [some (famD F)]) := by
  have hl := H.len_le
  unfold f_size_of m_size_of
  simp [runD]
  rw [mLc_a (l := F) bagD (fun b => .int (b.getLast?.getD 0)) (s := [some (famD F), none]) (st0 := [some (famD F), none]) (by simp) (by simp) (by omega) (by simp) fun b hbF => by
    refine ⟨_, [some (famD F), some (bagD b)], by simp; rfl, ?_, by simp⟩
    simp [H.lastAt hbF]]
  simp [H.greatest]
  omega
theorem law_size_ok {n : Int} {F : List Bag} (H : Fam n F) : f__law_size [famD F] = some (.int n, [some (famD F)]) := by
  have hl := H.len_le
  unfold f__law_size m__law_size
  simp [runD]
  rw [mLc_a (l := F) bagD (fun b => .int (b.getLast?.getD 0)) (s := [some (famD F), none]) (st0 := [some (famD F), none]) (by simp) (by simp) (by omega) (by simp) fun b hbF => by
    refine ⟨_, [some (famD F), some (bagD b)], by simp; rfl, ?_, by simp⟩
    simp [H.lastAt hbF]]
  simp [H.greatest]
  omega
end Pl
namespace Pl
open Va L2 PySem
def kset (l : List Int) : List (D × D) := l.map fun x => (.int x, .bl true)
theorem has_kset (l : List Int) (y : Int) : hasD (kset l) (.int y) = decide (y ∈ l) := by
  induction l with
  | nil => rfl
  | cons x l ih =>
    have e : hasD (kset (x :: l)) (.int y) = (x == y || hasD (kset l) (.int y)) := by
      show (match x == y with
        | true => true
        | false => hasD (kset l) (.int y)) = _
      cases x == y <;> rfl
    rw [e, ih]
    by_cases h : x = y
    · subst h; simp
    · have : (x == y) = false := by simpa using h
      rw [this, Bool.false_or]
      simp [show ¬ y = x from fun e => h e.symm]
theorem look_kset (l : List Int) (y : Int) : (lookD (kset l) (.int y)).isSome = decide (y ∈ l) := by
  induction l with
  | nil => rfl
  | cons x l ih =>
    by_cases h : x = y
    · subst h; simp [kset, lookD, keyEq]
    · have : (x == y) = false := by simpa using h
      have e : lookD (kset (x :: l)) (.int y) = lookD (kset l) (.int y) := by simp [kset, lookD, keyEq, this]
      rw [e, ih]
      simp [show ¬ y = x from fun e => h e.symm]
theorem put_kset {l : List Int} {y : Int} (h : y ∉ l) : putD (kset l) (.int y) (.bl true) = kset (l ++ [y]) := by
  unfold putD
  rw [has_kset, decide_eq_false h]
  simp [kset]
@[simp] theorem in_kset (o : Bool) (l : List Int) (y : Int) : inF (.int y) (.dic o (kset l)) = some (.bl (decide (y ∈ l))) := by
  show blO (some (lookD (kset l) (.int y)).isSome) = _
  rw [look_kset]
  rfl
@[simp] theorem nin_kset (o : Bool) (l : List Int) (y : Int) : ninF (.int y) (.dic o (kset l)) = some (.bl (!decide (y ∈ l))) := by
  unfold ninF
  show (match some (lookD (kset l) (.int y)).isSome with | some c => some (D.bl (!c)) | none => none) = _
  rw [look_kset]
@[simp] theorem kset_len (l : List Int) : (kset l).length = l.length := by simp [kset]
theorem dcL_set {t : Tgt} {mk mv : M D} {own : List Nat} {st : S} : ∀ {l acc : List Int}, (acc ++ l).Nodup →
    (∀ x ∈ l, ∃ s1 s2 s3, asgT t (.int x) st = some s1 ∧ mk s1 = some (.int x, s2) ∧ mv s2 = some (.bl true, s3) ∧ wipeS s3 own = st) → dcL t mYes mk mv own (intsD l) (kset acc) st = some (kset (acc ++ l), st)
  | [], acc, _, _ => by simp [dcL]
  | x :: l, acc, nd, h => by
    obtain ⟨s1, s2, s3, h1, h2, h3, h4⟩ := h x (List.mem_cons_self ..)
    have hx : x ∉ acc := fun hm => (List.nodup_append.mp nd).2.2 x hm x (List.mem_cons_self ..) rfl
    have ih := dcL_set (t := t) (mk := mk) (mv := mv) (own := own) (st := st) (l := l) (acc := acc ++ [x]) (by simpa using nd) fun y hy => h y (List.mem_cons_of_mem _ hy)
    show dcL t mYes mk mv own (.int x :: intsD l) (kset acc) st = _
    unfold dcL
    rw [h1]
    simp only [ev_mYes, h2, h3, keyD, imm_bl, put_kset hx, h4]
    rw [ih]
    simp
theorem mDc_set {mi : M (List D)} {t : Tgt} {mk mv : M D} {own : List Nat} {st s st0 : S} {l : List Int} (hmi : mi st = some (intsD l, s)) (ho : ownOk s own = true) (hl : l.length ≤ 16777216) (nd : l.Nodup) (hw : wipeS s own = st0)
    (h : ∀ x ∈ l, ∃ s1 s2 s3, asgT t (.int x) st0 = some s1 ∧ mk s1 = some (.int x, s2) ∧ mv s2 = some (.bl true, s3) ∧ wipeS s3 own = st0) : mDc mi t mYes mk mv own st = some (.dic true (kset l), backS s st0 own) := by
  unfold mDc
  rw [hmi]
  dsimp only
  rw [ho, ble_ok (by rw [List.length_map]; exact hl), hw]
  have := dcL_set (t := t) (mk := mk) (mv := mv) (own := own) (st := st0) (l := l) (acc := []) (by simpa using nd) h
  simp only [kset, List.map_nil, List.nil_append] at this
  simp only [Bool.and_self, this, kset]
/-- the beads that two bags share -/
theorem shared_ok {a b : Bag} (ha : a.length ≤ 16777216) (hb : b.length ≤ 16777216) (nd : b.Nodup) : f_shared_by [bagD a, bagD b] = some (.lst true (intsD (a.filter fun x => decide (x ∈ b))), [some (bagD a), some (bagD b)]) := by
  unfold f_shared_by m_shared_by
  simp [runD]
  rw [mDc_set (l := b) (s := [some (bagD a), some (bagD b), none, none]) (st0 := [some (bagD a), some (bagD b), none, none]) (by simp) (by simp) hb nd (by simp) fun x hx => by
    refine ⟨_, [some (bagD a), some (bagD b), none, some (.int x)], [some (bagD a), some (bagD b), none, some (.int x)], by simp; rfl, by simp, by simp, by simp⟩]
  simp
  rw [mLc_af (l := a) D.int D.int (fun x => decide (x ∈ b)) (s := [some (bagD a), some (bagD b), some (.dic true (kset b)), none]) (st0 := [some (bagD a), some (bagD b), some (.dic true (kset b)), none]) (by simp) (by simp) ha (by simp) fun x hx => by
    refine ⟨_, [some (bagD a), some (bagD b), some (.dic true (kset b)), some (.int x)], by simp; rfl, by simp, fun _ => ⟨[some (bagD a), some (bagD b), some (.dic true (kset b)), some (.int x)], by simp, by simp⟩, fun _ => by simp⟩]
  simp
theorem One.few {a b : Bag} (h : One a b) (nd : a.Nodup) : (a.filter fun x => decide (x ∈ b)).length ≤ 1 := by
  have n2 : (a.filter fun x => decide (x ∈ b)).Nodup := nd.sublist List.filter_sublist
  match e : (a.filter fun x => decide (x ∈ b)) with
  | [] => simp
  | [_] => simp
  | x :: y :: r =>
    rw [e] at n2
    have hx : x ∈ (a.filter fun x => decide (x ∈ b)) := by rw [e]; simp
    have hy : y ∈ (a.filter fun x => decide (x ∈ b)) := by rw [e]; simp
    simp only [List.mem_filter, decide_eq_true_eq] at hx hy
    have := h x y hx.1 hx.2 hy.1 hy.2
    subst this
    simp at n2
/-- the bags that hold a bead, by index -/
def hms (F : List Bag) (x : Int) : List Int := (F.zipIdx.filter fun p => decide (x ∈ p.1)).map fun p => (p.2 : Int)
theorem hms_snoc (F : List Bag) (b : Bag) (x : Int) : hms (F ++ [b]) x = hms F x ++ if x ∈ b then [(F.length : Int)] else [] := by
  unfold hms
  rw [List.zipIdx_append, List.filter_append, List.map_append]
  congr 1
  by_cases h : x ∈ b <;> simp [h]
theorem hms_mem {F : List Bag} {x i : Int} : i ∈ hms F x ↔ ∃ (k : Nat) (b : Bag), i = k ∧ F[k]? = some b ∧ x ∈ b := by
  unfold hms
  simp only [List.mem_map, List.mem_filter, decide_eq_true_eq, Prod.exists]
  constructor
  · rintro ⟨b, k, ⟨h1, h2⟩, rfl⟩
    have := List.mem_zipIdx_iff_getElem?.mp h1
    exact ⟨k, b, rfl, this, h2⟩
  · rintro ⟨k, b, rfl, h1, h2⟩
    exact ⟨b, k, ⟨List.mem_zipIdx_iff_getElem?.mpr h1, h2⟩, rfl⟩
theorem iot_get {n : Int} {i : Nat} (h : i < n.toNat) : (iot n)[i]? = some (i : Int) := by
  unfold iot
  simp [h]
theorem iot_set {n y : Int} (y0 : 0 ≤ y) (y1 : y < n) (g : Int → D) (v : D) : ((iot n).map g).set y.toNat v = (iot n).map fun x => if x = y then v else g x := by
  apply List.ext_getElem?
  intro i
  by_cases hi : i < n.toNat
  · rw [List.getElem?_map, iot_get hi]
    by_cases e : y.toNat = i
    · subst e
      rw [List.getElem?_set_self (by rw [List.length_map, iot_len]; exact hi)]
      simp
      omega
    · rw [List.getElem?_set_ne e, List.getElem?_map, iot_get hi]
      simp
      intro h
      omega
  · rw [List.getElem?_eq_none (by rw [List.length_set, List.length_map, iot_len]; omega), List.getElem?_eq_none (by rw [List.length_map, iot_len]; omega)]
def homesL (o : Bool) (n : Int) (h : Int → List Int) : D := .lst o ((iot n).map fun x => lstD o (h x))
theorem homes_ok {cs : Fn} {n : Int} {F : List Bag} (H : Fam n F) (hc : cs [famD F] = some (.int n, [some (famD F)])) : f_homes_of cs [famD F] = some (homesL true n (hms F), [some (famD F)]) := by
  have hl := H.len_le
  have h60 := H.n60
  have h2 := H.n2
  have hsm := small_of (i := n) (by omega) (by omega)
  have inner : ∀ (k : Nat) (b : Bag) (bd : Option D) (h0 : Int → List Int), b.Nodup → (∀ x ∈ b, 0 ≤ x ∧ x < n) → (∀ x, (h0 x).length ≤ 1000000) → ∃ st', forL (.n 4) (mDo (mApp2 1 (mVar 4) (.v 2))) (intsD b) [some (famD F), some (homesL true n h0), some (.int k), some (bagD b), bd] = some (.nx, st') ∧
      ∃ c, st' = [some (famD F), some (homesL true n fun x => h0 x ++ if x ∈ b then [(k : Int)] else []), some (.int k), some (bagD b), c] := fun k b bd h0 nd hr hlen => by
    obtain ⟨st', e, c, es⟩ := forL_inv (t := .n 4) (b := mDo (mApp2 1 (mVar 4) (.v 2))) (fun j st => ∃ c, st = [some (famD F), some (homesL true n fun x => h0 x ++ if x ∈ b.take j then [(k : Int)] else []), some (.int k), some (bagD b), c])
      (ds := intsD b) (k := 0) (st := [some (famD F), some (homesL true n h0), some (.int k), some (bagD b), bd]) ⟨bd, by simp⟩ fun j d st hj ⟨c, es⟩ => by
        subst es
        rw [Nat.zero_add]
        rw [List.getElem?_map] at hj
        cases hy : b[j]? with
        | none => rw [hy] at hj; cases hj
        | some y =>
          rw [hy] at hj
          cases hj
          obtain ⟨hjl, ey⟩ := List.getElem?_eq_some_iff.mp hy
          have hyb : y ∈ b := ey ▸ List.getElem_mem hjl
          obtain ⟨y0, y1⟩ := hr y hyb
          have hyt : y ∉ b.take j := fun hm => by
            have nd2 := nd
            rw [← List.take_append_drop j b] at nd2
            have hd : y ∈ b.drop j := by rw [List.drop_eq_getElem_cons hjl, ey]; simp
            exact (List.nodup_append.mp nd2).2.2 y hm y hd rfl
          have htk : b.take (j + 1) = b.take j ++ [y] := by rw [List.take_succ, hy]; rfl
          refine ⟨_, [some (famD F), some (homesL true n fun x => h0 x ++ if x ∈ b.take (j + 1) then [(k : Int)] else []), some (.int k), some (bagD b), some (.int y)], rfl, .inl ?_, _, rfl⟩
          have hix : ixN (iot n).length y = some y.toNat := by unfold ixN; rw [if_pos y0, if_pos (by rw [iot_len]; omega)]
          have hg : (iot n)[y.toNat]? = some y := by rw [iot_get (by omega)]; congr 1; omega
          have hbl : Nat.blt (h0 y).length LN = true := blt_ok (by have := hlen y; omega)
          simp [homesL, hix, hg, lstD, Atm.get, hyt, hbl, iot_set y0 y1]
          intro x hx
          by_cases e : x = y
          · subst e; simp [htk]
          · simp [htk, e]
    refine ⟨st', e, c, ?_⟩
    rw [es]
    simp
  obtain ⟨st', e, c, d, f, es⟩ := forL_inv (t := .t [2, 3]) (b := mFor (mItems (mVar 3)) (.n 4) (mDo (mApp2 1 (mVar 4) (.v 2)))) (fun k st => ∃ a b c, st = [some (famD F), some (homesL true n (hms (F.take k))), a, b, c])
    (ds := enumD 0 (F.map bagD)) (k := 0) (st := [some (famD F), some (homesL true n (hms [])), none, none, none]) ⟨none, none, none, by simp⟩ fun k d st hk ⟨a1, b1, c1, es⟩ => by
      subst es
      rw [Nat.zero_add]
      obtain ⟨d', hd', rfl⟩ := enumD_get _ 0 k d hk
      rw [List.getElem?_map] at hd'
      cases hb : F[k]? with
      | none => rw [hb] at hd'; cases hd'
      | some b =>
        rw [hb] at hd'
        cases hd'
        obtain ⟨hkl, eb⟩ := List.getElem?_eq_some_iff.mp hb
        have hbF : b ∈ F := eb ▸ List.getElem_mem hkl
        obtain ⟨st', e, c, es⟩ := inner k b c1 (hms (F.take k)) (H.nd b hbF) (H.rng b hbF) (fun x => by
          unfold hms
          rw [List.length_map]
          have := List.length_filter_le (fun p : Bag × Nat => decide (x ∈ p.1)) (F.take k).zipIdx
          simp at this
          omega)
        refine ⟨_, st', by simp; rfl, .inl ?_, some (.int k), some (bagD b), c, ?_⟩
        · simp [e]
        · rw [es]
          have htk : F.take (k + 1) = F.take k ++ [b] := by rw [List.take_succ, hb]; rfl
          have : (hms (F.take (k + 1))) = fun x => hms (F.take k) x ++ if x ∈ b then [(k : Int)] else [] := by
            funext x
            rw [htk, hms_snoc, List.length_take, Nat.min_eq_left (by omega)]
          rw [this]
  rw [enumD_length, List.length_map, Nat.zero_add, List.take_of_length_le (Nat.le_refl _)] at es
  subst es
  unfold f_homes_of m_homes_of
  simp [runD]
  rw [mLc_a (l := iot n) D.int (fun _ => .lst true []) (s := [some (famD F), none, none, none, none]) (st0 := [some (famD F), none, none, none, none]) (by simp [hc, hsm, rgD0]) (by simp) (by rw [iot_len]; omega) (by simp) fun x hx => by
    refine ⟨_, [some (famD F), none, none, none, some (.int x)], by simp; rfl, by simp, by simp⟩]
  have h0 : homesL true n (hms []) = .lst true ((iot n).map fun _ => .lst true []) := by simp [homesL, hms, lstD]
  rw [h0] at e
  simp [e]
  simp [homesL]
end Pl
namespace Pl
open Va L2 PySem
@[simp] theorem ev_storeAt (i : Nat) (k d : D) (s : S) : storeAt i k d s = (match s[i]? with
  | some (some (.lst true xs)) => match k with
    | .int j => match ixN xs.length j with
      | some j => some (s.set i (some (.lst true (xs.set j d))))
      | none => none
    | _ => none
  | some (some (.dic true kvs)) => match keyD k with
    | some _ => match imm d && Nat.blt kvs.length LN with
      | true => some (s.set i (some (.dic true (putD kvs k d))))
      | false => none
    | none => none
  | _ => none) := rfl
@[simp] theorem ev_isBox (i : Nat) (s : S) : isBox i s = (match s[i]? with
  | some (some _) => true
  | _ => false) := rfl
@[simp] theorem key_int (i : Int) : keyD (.int i) = some (.inl i) := rfl
theorem nodup_sub : ∀ {l S : List Int}, l.Nodup → (∀ x ∈ l, x ∈ S) → l.length ≤ S.length
  | [], _, _, _ => by simp
  | x :: l, S, nd, h => by
    have hx := h x (List.mem_cons_self ..)
    have nd1 := List.nodup_cons.mp nd
    have ih := nodup_sub (l := l) (S := S.erase x) nd1.2 fun y hy => by
      have hne : y ≠ x := fun e => nd1.1 (e ▸ hy)
      exact (List.mem_erase_of_ne hne).mpr (h y (List.mem_cons_of_mem _ hy))
    rw [List.length_erase_of_mem hx] at ih
    have := List.length_pos_of_mem hx
    simp
    omega
theorem while_inv {c : M Bool} {b : M Fl} {Post : S → Prop} (I : Nat → S → Prop) (h : ∀ μ st, I μ st → ∃ t s, c st = some (t, s) ∧ (t = false → Post s) ∧ (t = true → ∃ s2, b s = some (.nx, s2) ∧ ∃ μ', μ' < μ ∧ I μ' s2)) :
    ∀ (fuel μ : Nat) (st : S), I μ st → μ < fuel → ∃ s, mWhile c b fuel st = some (.nx, s) ∧ Post s
  | 0, _, _, _, hf => by omega
  | fuel + 1, μ, st, hI, hf => by
    obtain ⟨t, s, e, h0, h1⟩ := h μ st hI
    unfold mWhile
    rw [e]
    cases t with
    | false => exact ⟨s, rfl, h0 rfl⟩
    | true =>
      obtain ⟨s2, e2, μ', hm, hI'⟩ := h1 rfl
      dsimp only
      rw [e2]
      exact while_inv I h fuel μ' s2 hI' (by omega)
theorem frz_homes (n : Int) (h : Int → List Int) : frzL ((iot n).map fun x => lstD true (h x)) = (iot n).map fun x => lstD false (h x) := by
  induction iot n with
  | nil => simp [frzL]
  | cons x l ih =>
    simp only [List.map_cons, frzL, ih]
    simp [lstD, frz, frzL_ints]
theorem ix_fam {F : List Bag} {i : Int} {b : Bag} {k : Nat} (hk : i = k) (hb : F[k]? = some b) : ixF (famD F) (.int i) = some (bagD b) := by
  have hl := (List.getElem?_eq_some_iff.mp hb).1
  show immO (atI (F.map bagD) i) = _
  rw [atI_ok (by omega) (by rw [List.length_map]; omega), hk, List.getElem?_map]
  simp [hb]
theorem ix_homes {n x : Int} (o : Bool) (h : Int → List Int) (x0 : 0 ≤ x) (x1 : x < n) : ixF (homesL false n h) (.int x) = some (lstD false (h x)) := by
  show immO (atI ((iot n).map fun x => lstD false (h x)) x) = _
  rw [atI_ok x0 (by rw [List.length_map, iot_len]; omega), List.getElem?_map, iot_get (by omega), show ((x.toNat : Nat) : Int) = x by omega]
  rfl
/-- the bags i and j share a bead -/
def Nb (F : List Bag) (i j : Int) : Prop := ∃ x, i ∈ hms F x ∧ j ∈ hms F x
/-- found and rim; i is being seen to -/
structure Rch (F : List Bag) (S W : List Int) : Prop where
  nd : S.Nodup
  rng : ∀ i ∈ S, 0 ≤ i ∧ i < F.length
  sub : ∀ i ∈ W, i ∈ S
  zero : (0 : Int) ∈ S
def Closed (F : List Bag) (S W : List Int) : Prop := ∀ i ∈ S, i ∉ W → ∀ j, Nb F i j → j ∈ S
theorem eq_nil_ints (o o' : Bool) (W : List Int) : necF (.lst o (intsD W)) (.lst o' []) = some (.bl (!W.isEmpty)) := by
  have s1 : shp 60 (.lst o (intsD W)) = true := shp_ints 58 W
  have s2 : shp 60 (.lst o' []) = true := rfl
  unfold necF eqD
  rw [s1, s2]
  cases W with
  | nil => rfl
  | cons x W => rfl
theorem eq_nil_intsE (o o' : Bool) (W : List Int) : eqcF (.lst o (intsD W)) (.lst o' []) = some (.bl W.isEmpty) := by
  have s1 : shp 60 (.lst o (intsD W)) = true := shp_ints 58 W
  have s2 : shp 60 (.lst o' []) = true := rfl
  unfold eqcF eqD
  rw [s1, s2]
  cases W with
  | nil => rfl
  | cons x W => rfl
/-- at the end all is found -/
theorem Fam.reach {n : Int} {F : List Bag} (H : Fam n F) {S : List Int} (R : Rch F S []) (C : Closed F S []) : S.length = F.length := by
  have C' : ∀ i ∈ S, ∀ j, Nb F i j → j ∈ S := fun i hi => C i hi (by simp)
  have hpos : 0 < F.length := List.length_pos_iff.mpr (H.ne H.n2)
  have key : ∀ x, 0 ≤ x → x < n → ∃ i ∈ S, i ∈ hms F x := by
    refine H.con (fun x => ∃ i ∈ S, i ∈ hms F x) ?_ fun b hb x hx y hy ⟨i, hi, hix⟩ => ?_
    · obtain ⟨b, hb⟩ : ∃ b, F[0]? = some b := ⟨F[0], List.getElem?_eq_getElem hpos⟩
      have hbF : b ∈ F := List.mem_of_getElem? hb
      obtain ⟨x, hx⟩ : ∃ x, x ∈ b := List.exists_mem_of_length_pos (by have := H.len b hbF; omega)
      have := H.rng b hbF x hx
      exact ⟨x, this.1, this.2, 0, R.zero, hms_mem.mpr ⟨0, b, rfl, hb, hx⟩⟩
    · obtain ⟨k, hk⟩ := List.mem_iff_getElem?.mp hb
      have h1 : (k : Int) ∈ hms F x := hms_mem.mpr ⟨k, b, rfl, hk, hx⟩
      exact ⟨k, C' i hi k ⟨x, hix, h1⟩, hms_mem.mpr ⟨k, b, rfl, hk, hy⟩⟩
  have all : ∀ k : Nat, k < F.length → (k : Int) ∈ S := fun k hk => by
    have hb : F[k]? = some F[k] := List.getElem?_eq_getElem hk
    have hbF := List.getElem_mem hk
    obtain ⟨x, hx⟩ : ∃ x, x ∈ F[k] := List.exists_mem_of_length_pos (l := F[k]) (by have := H.len _ hbF; omega)
    have := H.rng _ hbF x hx
    obtain ⟨i, hi, hix⟩ := key x this.1 this.2
    exact C' i hi k ⟨x, hix, hms_mem.mpr ⟨k, _, rfl, hb, hx⟩⟩
  have h1 := nodup_sub R.nd (S := iot F.length) fun i hi => iot_mem.mpr (by have := R.rng i hi; omega)
  have h2 := nodup_sub (iot_nodup F.length) (S := S) fun i hi => by
    have := iot_mem.mp hi
    have := all i.toNat (by omega)
    rwa [show ((i.toNat : Nat) : Int) = i by omega] at this
  rw [iot_len] at h1 h2
  omega
def stR (F : List Bag) (n : Int) (S W : List Int) (a b : Option D) : Va.S := [some (famD F), some (homesL false n (hms F)), some (.int 0), some (.dic true (kset S)), some (.lst true (intsD W)), a, b]
theorem reached_ok {n : Int} {F : List Bag} (H : Fam n F) : ∃ S : List Int, S.length = F.length ∧ f_reached_from [famD F, homesL false n (hms F), .int 0] = some (.dic true (kset S), [some (famD F), some (homesL false n (hms F)), some (.int 0)]) := by
  have hl := H.len_le
  have hpos : 0 < F.length := List.length_pos_iff.mpr (H.ne H.n2)
  have bound : ∀ {S W : List Int}, Rch F S W → S.length ≤ F.length := fun {S W} R => by
    have := nodup_sub R.nd (S := iot F.length) fun i hi => iot_mem.mpr (by have := R.rng i hi; omega)
    rw [iot_len] at this
    omega
  -- the bags of a bead
  have inner : ∀ (x : Int) (S W : List Int) (c : Option D), 0 ≤ x → x < n → W.length ≤ 1000 → Rch F S W → ∃ S' W' c', forL (.n 6) (mIf (mB (m2 (.v 6) (.v 3) (cmpF .NotIn))) (mSeq (mStore 3 (mVar 6) (mC (.bl true))) (mDo (mApp 4 (mVar 6)))) mNx) (intsD (hms F x)) (stR F n S W (some (.int x)) c) = some (.nx, stR F n S' W' (some (.int x)) c') ∧
      Rch F S' W' ∧ (∀ i ∈ S, i ∈ S') ∧ (∀ i ∈ W, i ∈ W') ∧ (∀ i ∈ S', i ∈ S ∨ i ∈ W') ∧ (∀ j ∈ hms F x, j ∈ S') ∧ W'.length + S.length = W.length + S'.length := fun x S W c x0 x1 hW0 R => by
    obtain ⟨st', e, S', W', c', es, R', h1, h2, h3, h4, h5⟩ := forL_inv (t := .n 6) (b := mIf (mB (m2 (.v 6) (.v 3) (cmpF .NotIn))) (mSeq (mStore 3 (mVar 6) (mC (.bl true))) (mDo (mApp 4 (mVar 6)))) mNx)
      (fun k st => ∃ S' W' c', st = stR F n S' W' (some (.int x)) c' ∧ Rch F S' W' ∧ (∀ i ∈ S, i ∈ S') ∧ (∀ i ∈ W, i ∈ W') ∧ (∀ i ∈ S', i ∈ S ∨ i ∈ W') ∧ (∀ j ∈ (hms F x).take k, j ∈ S') ∧ W'.length + S.length = W.length + S'.length)
      (ds := intsD (hms F x)) (k := 0) (st := stR F n S W (some (.int x)) c) ⟨S, W, c, rfl, R, fun _ h => h, fun _ h => h, fun _ h => .inl h, by simp, rfl⟩ fun k d st hk ⟨S', W', c', es, R', h1, h2, h3, h4, h5⟩ => by
        subst es
        rw [Nat.zero_add] at h4
        rw [Nat.zero_add]
        rw [List.getElem?_map] at hk
        cases hj : (hms F x)[k]? with
        | none => rw [hj] at hk; cases hk
        | some j =>
          rw [hj] at hk
          cases hk
          have hjm : j ∈ hms F x := List.mem_of_getElem? hj
          obtain ⟨kk, b, ej, hkb, hxb⟩ := hms_mem.mp hjm
          have hkl := (List.getElem?_eq_some_iff.mp hkb).1
          have htk : (hms F x).take (k + 1) = (hms F x).take k ++ [j] := by rw [List.take_succ, hj]; rfl
          have hb := bound R'
          by_cases hin : j ∈ S'
          · refine ⟨_, stR F n S' W' (some (.int x)) (some (.int j)), rfl, .inl ?_, S', W', _, rfl, R', h1, h2, h3, fun i hi => ?_, h5⟩
            · simp [stR, hin]
            · rw [htk] at hi
              rcases List.mem_append.mp hi with q | q
              · exact h4 i q
              · simp at q; subst q; exact hin
          · have R2 : Rch F (S' ++ [j]) (W' ++ [j]) := ⟨List.nodup_append.mpr ⟨R'.nd, by simp, fun a ha b hb e => by simp at hb; subst hb e; exact hin ha⟩, fun i hi => by
              rcases List.mem_append.mp hi with q | q
              · exact R'.rng i q
              · simp at q; subst q; omega, fun i hi => by
              rcases List.mem_append.mp hi with q | q
              · exact List.mem_append_left _ (R'.sub i q)
              · exact List.mem_append_right _ q, List.mem_append_left _ R'.zero⟩
            have hb2 := bound R2
            rw [List.length_append, List.length_singleton] at hb2
            have hW : W'.length ≤ W.length + S'.length := by omega
            have b1 : Nat.blt S'.length LN = true := blt_ok (by omega)
            have b2 : Nat.blt W'.length LN = true := blt_ok (by omega)
            refine ⟨_, stR F n (S' ++ [j]) (W' ++ [j]) (some (.int x)) (some (.int j)), rfl, .inl ?_, S' ++ [j], W' ++ [j], _, rfl, R2, fun i hi => List.mem_append_left _ (h1 i hi), fun i hi => List.mem_append_left _ (h2 i hi), fun i hi => ?_, fun i hi => ?_, ?_⟩
            · simp [stR, hin, put_kset hin, b1, b2]
            · rcases List.mem_append.mp hi with q | q
              · exact (h3 i q).imp id fun z => List.mem_append_left _ z
              · exact .inr (List.mem_append_right _ q)
            · rw [htk] at hi
              rcases List.mem_append.mp hi with q | q
              · exact List.mem_append_left _ (h4 i q)
              · exact List.mem_append_right _ q
            · simp
              omega
    refine ⟨S', W', c', ?_, R', h1, h2, h3, fun j hj => h4 j (by rw [List.length_map, Nat.zero_add, List.take_length]; exact hj), h5⟩
    rw [e, es]
  -- the beads of a bag
  have middle : ∀ (b : Bag) (S W : List Int) (a c : Option D), b ∈ F → W.length + (F.length - S.length) ≤ 59 → Rch F S W → ∃ S' W' a' c', forL (.n 5) (mFor (mItems (m2 (.v 1) (.v 5) ixF)) (.n 6) (mIf (mB (m2 (.v 6) (.v 3) (cmpF .NotIn))) (mSeq (mStore 3 (mVar 6) (mC (.bl true))) (mDo (mApp 4 (mVar 6)))) mNx)) (intsD b) (stR F n S W a c) = some (.nx, stR F n S' W' a' c') ∧
      Rch F S' W' ∧ (∀ i ∈ S, i ∈ S') ∧ (∀ i ∈ W, i ∈ W') ∧ (∀ i ∈ S', i ∈ S ∨ i ∈ W') ∧ (∀ x ∈ b, ∀ j ∈ hms F x, j ∈ S') ∧ W'.length + S.length = W.length + S'.length := fun b S W a c hbF hW R => by
    obtain ⟨st', e, S', W', a', c', es, R', h1, h2, h3, h4, h5⟩ := forL_inv (t := .n 5) (b := mFor (mItems (m2 (.v 1) (.v 5) ixF)) (.n 6) (mIf (mB (m2 (.v 6) (.v 3) (cmpF .NotIn))) (mSeq (mStore 3 (mVar 6) (mC (.bl true))) (mDo (mApp 4 (mVar 6)))) mNx))
      (fun k st => ∃ S' W' a' c', st = stR F n S' W' a' c' ∧ Rch F S' W' ∧ (∀ i ∈ S, i ∈ S') ∧ (∀ i ∈ W, i ∈ W') ∧ (∀ i ∈ S', i ∈ S ∨ i ∈ W') ∧ (∀ x ∈ b.take k, ∀ j ∈ hms F x, j ∈ S') ∧ W'.length + S.length = W.length + S'.length)
      (ds := intsD b) (k := 0) (st := stR F n S W a c) ⟨S, W, a, c, rfl, R, fun _ h => h, fun _ h => h, fun _ h => .inl h, by simp, rfl⟩ fun k d st hk ⟨S', W', a', c', es, R', h1, h2, h3, h4, h5⟩ => by
        subst es
        rw [Nat.zero_add] at h4
        rw [Nat.zero_add]
        rw [List.getElem?_map] at hk
        cases hx : b[k]? with
        | none => rw [hx] at hk; cases hk
        | some x =>
          rw [hx] at hk
          cases hk
          have hxr := H.rng b hbF x (List.mem_of_getElem? hx)
          have htk : b.take (k + 1) = b.take k ++ [x] := by rw [List.take_succ, hx]; rfl
          have hb := bound R'
          have hb0 := bound R
          obtain ⟨S2, W2, c2, e2, R2, g1, g2, g3, g4, g5⟩ := inner x S' W' c' hxr.1 hxr.2 (by omega) R'
          refine ⟨_, stR F n S2 W2 (some (.int x)) c2, rfl, .inl ?_, S2, W2, _, c2, rfl, R2, fun i hi => g1 i (h1 i hi), fun i hi => g2 i (h2 i hi), fun i hi => ?_, fun y hy j hj => ?_, by omega⟩
          · have e3 : (stR F n S' W' a' c').set 5 (some (.int x)) = stR F n S' W' (some (.int x)) c' := rfl
            rw [e3]
            have hix := ix_homes (n := n) false (hms F) hxr.1 hxr.2
            have e4 : mItems (m2 (.v 1) (.v 5) ixF) (stR F n S' W' (some (.int x)) c') = some (intsD (hms F x), stR F n S' W' (some (.int x)) c') := by
              simp [stR, hix]
            rw [ev_mFor, e4]
            exact e2
          · rcases g3 i hi with q | q
            · exact (h3 i q).imp id (g2 i)
            · exact .inr q
          · rw [htk] at hy
            rcases List.mem_append.mp hy with q | q
            · exact g1 j (h4 y q j hj)
            · simp at q; subst q; exact g4 j hj
    refine ⟨S', W', a', c', ?_, R', h1, h2, h3, fun x hx j hj => h4 x (by rw [List.length_map, Nat.zero_add, List.take_length]; exact hx) j hj, h5⟩
    rw [e, es]
  obtain ⟨s, e, S, a, c, es, R, C⟩ := while_inv (c := mB (m2 (.v 4) (.e (mLst mNil)) (cmpF .NotEq))) (b := mFor (mItems (m2 (.v 0) (.e (mPop 4)) ixF)) (.n 5) (mFor (mItems (m2 (.v 1) (.v 5) ixF)) (.n 6) (mIf (mB (m2 (.v 6) (.v 3) (cmpF .NotIn))) (mSeq (mStore 3 (mVar 6) (mC (.bl true))) (mDo (mApp 4 (mVar 6)))) mNx)))
    (Post := fun st => ∃ S a c, st = stR F n S [] a c ∧ Rch F S [] ∧ Closed F S []) (fun μ st => ∃ S W a c, st = stR F n S W a c ∧ Rch F S W ∧ Closed F S W ∧ W.length + (F.length - S.length) = μ ∧ μ ≤ 59) (fun μ st ⟨S, W, a, c, es, R, C, hm, h59⟩ => by
      subst es
      refine ⟨!W.isEmpty, stR F n S W a c, ?_, fun ht => ?_, fun ht => ?_⟩
      · simp [stR]
        rw [show D.lst true ([] : List D) = D.lst true [] from rfl, eq_nil_ints]
      · have : W = [] := by cases W with
          | nil => rfl
          | cons => simp at ht
        subst this
        exact ⟨S, a, c, rfl, R, C⟩
      · rcases List.eq_nil_or_concat W with h0 | ⟨W', i, hW⟩
        · subst h0; simp at ht
        · rw [List.concat_eq_append] at hW
          subst hW
          have hiS := R.sub i (by simp)
          have hir := R.rng i hiS
          have hb := bound R
          obtain ⟨b, hkb⟩ : ∃ b, F[i.toNat]? = some b := ⟨F[i.toNat]'(by omega), List.getElem?_eq_getElem (by omega)⟩
          have hbF := List.mem_of_getElem? hkb
          have R1 : Rch F S W' := ⟨R.nd, R.rng, fun j hj => R.sub j (List.mem_append_left _ hj), R.zero⟩
          rw [List.length_append, List.length_singleton] at hm
          obtain ⟨S2, W2, a2, c2, e2, R2, g1, g2, g3, g4, g5⟩ := middle b S W' a c hbF (by omega) R1
          have hb2 := bound R2
          refine ⟨stR F n S2 W2 a2 c2, ?_, μ - 1, by omega, S2, W2, a2, c2, rfl, R2, fun k hk hkW j hj => ?_, by omega, by omega⟩
          · have hix := ix_fam (F := F) (i := i) (k := i.toNat) (by omega) hkb
            have e4 : mItems (m2 (.v 0) (.e (mPop 4)) ixF) (stR F n S (W' ++ [i]) a c) = some (intsD b, stR F n S W' a c) := by
              have p1 : (intsD (W' ++ [i]))[(intsD (W' ++ [i])).length - 1]? = some (.int i) := by simp
              have p2 : (intsD (W' ++ [i])).eraseIdx ((intsD (W' ++ [i])).length - 1) = intsD W' := by simp [List.eraseIdx_append]
              simp only [stR, ev_mItems, ev_m2, run_v, run_e, val_v, val_e, ev_mPop, List.getElem?_cons_zero, List.getElem?_cons_succ, p1, p2, hix, List.set_cons_zero, List.set_cons_succ, frzA_bag, seq_bag]
            rw [ev_mFor, e4]
            exact e2
          · rcases g3 k hk with q | q
            · by_cases hki : k = i
              · subst hki
                obtain ⟨x, hx1, hx2⟩ := hj
                obtain ⟨kk, b', ek, hb', hxb⟩ := hms_mem.mp hx1
                have : b' = b := by
                  have : kk = k.toNat := by omega
                  rw [this, hkb] at hb'
                  exact (Option.some.inj hb').symm
                subst this
                exact g4 x hxb j hx2
              · by_cases hkW' : k ∈ W'
                · exact absurd (g2 k hkW') hkW
                · exact g1 j (C k q (fun hm' => by
                    rcases List.mem_append.mp hm' with z | z
                    · exact hkW' z
                    · simp at z; exact hki z) j hj)
            · exact absurd q hkW)
    100000 F.length (stR F n [0] [0] none none) ⟨[0], [0], none, none, rfl, ⟨by simp, fun i hi => by simp at hi; omega, fun i hi => hi, by simp⟩, fun i hi hn => absurd hi hn, by simp; omega, hl⟩ (by omega)
  subst es
  refine ⟨S, H.reach R C, ?_⟩
  unfold f_reached_from m_reached_from
  have e0 : D.dic true [(D.int 0, D.bl true)] = .dic true (kset [0]) := rfl
  have e1 : D.lst true [D.int 0] = .lst true (intsD [0]) := rfl
  simp only [stR] at e
  rw [← e0, ← e1] at e
  have himm : imm (homesL false n (hms F)) = true := rfl
  simp [runD, e, himm]
end Pl
namespace Pl
open Va L2 PySem
theorem frz_homesL (n : Int) (h : Int → List Int) : frz (homesL true n h) = homesL false n h := by
  unfold homesL
  rw [frz_lst, frz_homes]
@[simp] theorem imm_homesL (o : Bool) (n : Int) (h : Int → List Int) : imm (homesL o n h) = !o := rfl
@[simp] theorem frzA_homesL (n : Int) (h : Int → List Int) : frzA (homesL false n h) = homesL false n h := rfl
@[simp] theorem seq_homesL (o : Bool) (n : Int) (h : Int → List Int) : seqOf (homesL o n h) = some (false, (iot n).map fun x => lstD o (h x)) := rfl
theorem len_homesL (o : Bool) {n : Int} (h : Int → List Int) (hn : 0 ≤ n) : lenF (homesL o n h) = some (.int n) := by
  unfold homesL
  simp [iot_len]
  omega
theorem bar_of_ok {ch cs cr cg : Fn} {n : Int} {F : List Bag} (H : Fam n F) (hh : ch [famD F] = some (homesL true n (hms F), [some (famD F)]))
    (hs : ∀ a ∈ F, ∀ b ∈ F, cs [bagD a, bagD b] = some (.lst true (intsD (a.filter fun x => decide (x ∈ b))), [some (bagD a), some (bagD b)]))
    (hr : ∃ S : List Int, S.length = F.length ∧ cr [famD F, homesL false n (hms F), .int 0] = some (.dic true (kset S), [some (famD F), some (homesL false n (hms F)), some (.int 0)])) :
    f_bar_of ch cs cr cg [famD F] = some (.non, [some (famD F)]) := by
  have hl := H.len_le
  have h60 := H.n60
  have h2 := H.n2
  -- no bead without a bag
  obtain ⟨st1, e1, a1, b1, es1⟩ := forL_inv (t := .t [2, 3]) (b := mIf (mB (m2 (.v 3) (.e (mLst mNil)) (cmpF .Eq))) (mRet (mTup (mCons (mC (.str "bead")) (mCons (mVar 2) mNil)))) mNx)
    (fun _ st => ∃ a b, st = [some (famD F), some (homesL false n (hms F)), a, b, none, none, none, none]) (ds := enumD 0 ((iot n).map fun x => lstD false (hms F x))) (k := 0) (st := [some (famD F), some (homesL false n (hms F)), none, none, none, none, none, none]) ⟨none, none, rfl⟩ fun k d st hk ⟨a, b, es⟩ => by
      subst es
      obtain ⟨d', hd', rfl⟩ := enumD_get _ 0 k d hk
      rw [List.getElem?_map] at hd'
      cases hx : (iot n)[k]? with
      | none => rw [hx] at hd'; cases hd'
      | some x =>
        rw [hx] at hd'
        cases hd'
        have hxr := iot_mem.mp (List.mem_of_getElem? hx)
        obtain ⟨b, hb, hxb⟩ := H.cov x hxr.1 hxr.2
        obtain ⟨i, hi⟩ := List.mem_iff_getElem?.mp hb
        have hne : (hms F x).isEmpty = false := by
          have : (i : Int) ∈ hms F x := hms_mem.mpr ⟨i, b, rfl, hi, hxb⟩
          cases e : hms F x with
          | nil => rw [e] at this; simp at this
          | cons => rfl
        refine ⟨_, [some (famD F), some (homesL false n (hms F)), some (.int ((0 + k : Nat) : Int)), some (lstD false (hms F x)), none, none, none, none], by simp; rfl, .inl ?_, _, _, rfl⟩
        have e := eq_nil_intsE false true (hms F x)
        rw [hne] at e
        simp [lstD, e]
  subst es1
  -- two bags share one bead at most
  obtain ⟨st2, e2, a2, b2, c2, es2⟩ := forL_inv (t := .t [4, 5]) (b := mFor (mRg1 (mVar 4)) (.n 6) (mIf (mB (m2 (.e (m1 (.e (mCall cs (mCons (m2 (.v 0) (.v 6) ixF) (mCons (mTake 5) mNil)) [none, some 5])) lenF)) (.e (mC (.int 1))) (cmpF .Gt))) (mRet (mTup (mCons (mC (.str "two")) (mCons (mVar 6) (mCons (mVar 4) mNil))))) mNx))
    (fun _ st => ∃ a b c, st = [some (famD F), some (homesL false n (hms F)), a1, b1, a, b, c, none]) (ds := enumD 0 (F.map bagD)) (k := 0) (st := [some (famD F), some (homesL false n (hms F)), a1, b1, none, none, none, none]) ⟨none, none, none, rfl⟩ fun k d st hk ⟨a, b, c, es⟩ => by
      subst es
      obtain ⟨d', hd', rfl⟩ := enumD_get _ 0 k d hk
      rw [List.getElem?_map] at hd'
      cases hx : F[k]? with
      | none => rw [hx] at hd'; cases hd'
      | some x =>
        rw [hx] at hd'
        cases hd'
        have hxF := List.mem_of_getElem? hx
        have hkl := (List.getElem?_eq_some_iff.mp hx).1
        obtain ⟨st3, e3, c3, es3⟩ := forL_inv (t := .n 6) (b := mIf (mB (m2 (.e (m1 (.e (mCall cs (mCons (m2 (.v 0) (.v 6) ixF) (mCons (mTake 5) mNil)) [none, some 5])) lenF)) (.e (mC (.int 1))) (cmpF .Gt))) (mRet (mTup (mCons (mC (.str "two")) (mCons (mVar 6) (mCons (mVar 4) mNil))))) mNx)
          (fun _ st => ∃ c, st = [some (famD F), some (homesL false n (hms F)), a1, b1, some (.int k), some (bagD x), c, none]) (ds := rgD 0 k) (k := 0) (st := [some (famD F), some (homesL false n (hms F)), a1, b1, some (.int k), some (bagD x), c, none]) ⟨c, rfl⟩ fun j d st hj ⟨c, es⟩ => by
            subst es
            have hd := rgD_get hj
            subst hd
            have hjl := (List.getElem?_eq_some_iff.mp hj).1
            rw [rgD_len] at hjl
            obtain ⟨y, hy⟩ : ∃ y, F[j]? = some y := ⟨F[j]'(by omega), List.getElem?_eq_getElem (by omega)⟩
            have hyF := List.mem_of_getElem? hy
            have one : One y x := by
              obtain ⟨p1, p2⟩ := List.getElem?_eq_some_iff.mp hy
              obtain ⟨q1, q2⟩ := List.getElem?_eq_some_iff.mp hx
              have := List.pairwise_iff_getElem.mp H.two j k p1 q1 (by omega)
              rwa [p2, q2] at this
            have few := one.few (H.nd y hyF)
            refine ⟨_, [some (famD F), some (homesL false n (hms F)), a1, b1, some (.int k), some (bagD x), some (.int (0 + (j : Nat))), none], rfl, .inl ?_, _, rfl⟩
            have hix := ix_fam (F := F) (i := 0 + (j : Nat)) (k := j) (by omega) hy
            rw [Int.zero_add] at hix
            have hs' := hs y hyF x hxF
            have hlt : ¬ ((1 : Int) < ((y.filter fun z => decide (z ∈ x)).length : Nat)) := by omega
            simp only [Int.zero_add]
            have hdf : decide ((1 : Int) < ((y.filter fun z => decide (z ∈ x)).length : Nat)) = false := decide_eq_false hlt
            simp [hix, hs', hdf]
        refine ⟨_, st3, by simp; rfl, .inl ?_, _, _, _, es3⟩
        have hsm := small_of (i := (k : Int)) (by omega) (by omega)
        simp [hsm, e3]
  subst es2
  obtain ⟨S, hS, hr⟩ := hr
  have hsum : sumF (.lst true (F.map fun b => D.int ((b.length : Int) - 1))) = some (.int (n - 1)) := by
    have e : F.map (fun b => D.int ((b.length : Int) - 1)) = intsD (F.map fun b => (b.length : Int) - 1) := by unfold intsD; rw [List.map_map]; rfl
    rw [e]
    unfold sumF intsF lstOf
    simp only [toInts_ints, isum_sum, H.cnt]
  unfold f_bar_of m_bar_of
  simp [runD, hh, frz_homesL, e1, e2, hr, hS]
  rw [mLc_a (l := F) bagD (fun b => .int ((b.length : Int) - 1)) (s := [some (famD F), some (homesL false n (hms F)), a1, b1, a2, b2, c2, none]) (st0 := [some (famD F), some (homesL false n (hms F)), a1, b1, a2, b2, c2, none]) (by simp) (by simp) (by omega) (by simp) fun b hbF => by
    refine ⟨_, [some (famD F), some (homesL false n (hms F)), a1, b1, a2, b2, c2, some (bagD b)], by simp; rfl, by simp, by simp⟩]
  simp [hsum, len_homesL false (hms F) (show 0 ≤ n by omega)]
end Pl
namespace Pl
open Va L2 PySem
/-- a family is let through -/
def SpNeed (f : Fn) : Prop := ∀ {n : Int} {F : List Bag}, Fam n F → f [famD F] = some (.non, [some (famD F)])
def SpSize (f : Fn) : Prop := ∀ {n : Int} {F : List Bag}, Fam n F → f [famD F] = some (.int n, [some (famD F)])
def SpHomes (f : Fn) : Prop := ∀ {n : Int} {F : List Bag}, Fam n F → f [famD F] = some (homesL true n (hms F), [some (famD F)])
theorem need_family_sp {cb cr : Fn} (hb : SpNeed cb) (hr : SpNeed cr) : SpNeed (f_need_family cb cr) := fun {n F} H => by
  unfold f_need_family m_need_family
  simp [runD, hb H, hr H, nisF, isB]
end Pl
namespace Pl
open Va L2 PySem
end Pl
namespace Pl
open Va
def m_common : M Fl := (mSeq (mWhile (mB (m2 (.v 1) (.e (mC (.int 0))) (cmpF .NotEq))) (mSet2 0 1 (mCons (mVar 1) (mCons (m2 (.v 0) (.v 1) modF) mNil))) 100000) (mRet (m1 (.v 0) absF)))
def m_lowered (c_common : Fn) : M Fl := (mSeq (mSet 2 (mCall c_common (mCons (mTake 0) (mCons (mTake 1) mNil)) [some 0, some 1])) (mRet (mTup (mCons (m2 (.v 0) (.v 2) fdivF) (mCons (m2 (.v 1) (.v 2) fdivF) mNil)))))
end Pl
namespace Nm
def ch : Nat → Nat → Nat
  | _, 0 => 1
  | 0, _ + 1 => 0
  | n + 1, k + 1 => ch n k + ch n (k + 1)
def s2 : Nat → Nat → Nat
  | 0, 0 => 1
  | 0, _ + 1 => 0
  | _ + 1, 0 => 0
  | n + 1, k + 1 => s2 n k + (k + 1) * s2 n (k + 1)
end Nm
namespace Pl
open Va L2 PySem Nm
def Lg (a k : Nat) : Prop := a < 2 ^ k
theorem Lg.le {a b i : Nat} (h : Lg b i) (hab : a ≤ b) : Lg a i := Nat.lt_of_le_of_lt hab h
end Pl
namespace Pl
open Va L2 PySem Nm
def rowL (o : Bool) (m : Nat) : D := .lst o ((List.range (m + 1)).map fun k => D.int ((s2 m k : Nat) : Int))
@[simp] theorem imm_rowL (o : Bool) (m : Nat) : imm (rowL o m) = !o := rfl
@[simp] theorem len_row (o : Bool) (m : Nat) : lenF (rowL o m) = some (.int ((m : Int) + 1)) := by simp [rowL, lenF]
/-- families of n beads with b bags -/
def fn (n b : Nat) : Nat := n ^ (b - 1) * s2 (n - 1) b
def frowL (o : Bool) (n : Nat) : D := .lst o ((List.range n).map fun k => D.int ((fn n k : Nat) : Int))
end Pl
namespace Pl
open Va L2 PySem Nm
@[simp] theorem imm_frowL (o : Bool) (m : Nat) : imm (frowL o m) = !o := rfl
def ms (a b : Nat) : Nat := if b = 0 then 0 else (a * b).log2 + 1 + (if a < b then 1 else 0)
end Pl
namespace Pl
open Va L2 PySem Nm
def ratD (a b : Nat) : D := .tup [.int ((a / Nat.gcd a b : Nat) : Int), .int ((b / Nat.gcd a b : Nat) : Int)]
@[simp] theorem imm_rat (a b : Nat) : imm (ratD a b) = true := rfl
end Pl
namespace Pl
open Va L2 PySem Nm
def SpIn (f : Fn) : Prop := ∀ {v lo hi : Int}, lo ≤ v → v ≤ hi → f [.int v, .int lo, .int hi] = some (.bl true, [some (.int v), some (.int lo), some (.int hi)])
end Pl
namespace Pl
open Va L2 PySem Nm
end Pl
namespace Pl
open Va L2 PySem Nm
end Pl
namespace Pl
open Va
def m_need_bead (c_size_of c_is_in : Fn) : M Fl := (mIf (mNot (mTru (mCall c_is_in (mCons (mTake 1) (mCons (mC (.int 0)) (mCons (m2 (.e (mCall c_size_of (mCons (mTake 0) mNil) [some 0])) (.e (mC (.int 1))) subF) mNil))) [some 1, none, none]))) (fun _ => none) mNx)
def f_need_bead (c_size_of c_is_in : Fn) : Fn := runD 2 2 (fun i => ([true, true] : List Bool).getD i false) (m_need_bead c_size_of c_is_in)
def m_plus (c_lowered : Fn) : M Fl := (mRet (mCall c_lowered (mCons (m2 (.e (m2 (.e (m2 (.v 0) (.e (mC (.int 0))) ixF)) (.e (m2 (.v 1) (.e (mC (.int 1))) ixF)) mulF)) (.e (m2 (.e (m2 (.v 1) (.e (mC (.int 0))) ixF)) (.e (m2 (.v 0) (.e (mC (.int 1))) ixF)) mulF)) addF) (mCons (m2 (.e (m2 (.v 0) (.e (mC (.int 1))) ixF)) (.e (m2 (.v 1) (.e (mC (.int 1))) ixF)) mulF) mNil)) [none, none]))
end Pl
namespace Pl
open Va L2 PySem Nm
def low (a b : Nat) : Nat × Nat := (a / Nat.gcd a b, b / Nat.gcd a b)
def pD (p : Nat × Nat) : D := .tup [.int ((p.1 : Nat) : Int), .int ((p.2 : Nat) : Int)]
@[simp] theorem imm_pD (p : Nat × Nat) : imm (pD p) = true := rfl
end Pl
namespace Pl
open Va L2 PySem Nm
/-- a list with one number for each bead -/
def fl (o : Bool) (n : Int) (g : Int → Nat) : D := .lst o ((iot n).map fun j => D.int ((g j : Nat) : Int))
@[simp] theorem imm_fl (o : Bool) (n : Int) (g : Int → Nat) : imm (fl o n g) = !o := rfl
end Pl
namespace Pl
open Va L2 PySem Nm
def SpNeedBead (f : Fn) : Prop := ∀ {n x : Int} {F : List Bag}, Fam n F → 0 ≤ x → x < n → f [famD F, .int x] = some (.non, [some (famD F), some (.int x)])
theorem need_bead_sp {cs ci : Fn} (hs : SpSize cs) (hi : ∀ {v lo hi : Int}, lo ≤ v → v ≤ hi → ci [.int v, .int lo, .int hi] = some (.bl true, [some (.int v), some (.int lo), some (.int hi)])) : SpNeedBead (f_need_bead cs ci) := fun {n x F} H h0 h1 => by
  have e := hs H
  have e2 := hi (v := x) (lo := 0) (hi := n - 1) h0 (by omega)
  unfold f_need_bead m_need_bead
  simp [runD, e, e2]
end Pl
namespace Pl
open Va L2 PySem Nm
/-- the ratios at one step -/
def pl (o : Bool) (n : Int) (g : Int → Nat × Nat) : D := .lst o ((iot n).map fun j => pD (g j))
@[simp] theorem imm_pl (o : Bool) (n : Int) (g : Int → Nat × Nat) : imm (pl o n g) = !o := rfl
end Pl
namespace Pl
open Va L2 PySem Nm
end Pl
namespace Pl
open Va L2 PySem
def m_ring_of : M Fl := (mSeq (mSet 2 (mDc (mRg1 (m1 (.v 0) lenF)) (.n 4) mYes (mVar 4) (mC (.bl true)) [4])) (mSeq (mSet 3 (mC (.bl true))) (mSeq (mWhile (mTru (mVar 3)) (mSeq (mSet 3 (mC (.bl false))) (mFor (mItems (m1 (.v 2) sortKF)) (.n 4) (mSeq (mSet 5 (mLc (mItems (m2 (.v 0) (.v 4) ixF)) (.n 6) (mB (m2 (.e (m1 (.e (mLc (mItems (m2 (.v 1) (.v 6) ixF)) (.n 7) (mB (m2 (.v 7) (.v 2) (cmpF .In))) (mC (.int 1)) [7])) lenF)) (.e (mC (.int 1))) (cmpF .Gt))) (mVar 6) [6])) (mIf (mAnd (mB (m2 (.e (m1 (.v 5) lenF)) (.e (mC (.int 2))) (cmpF .Lt))) (mB (m2 (.e (m1 (.v 2) lenF)) (.e (mC (.int 1))) (cmpF .Gt)))) (mSeq (mDel 2 (mVar 4)) (mSet 3 (mC (.bl true)))) mNx)))) 100000) (mRet (m1 (.v 2) sortKF)))))
def f_ring_of : Fn := runD 8 2 (fun i => ([true, true] : List Bool).getD i false) (m_ring_of)
def m__law_wrong_bags (c__law_pick : Fn) : M Fl := (mSeq (mSet 2 (m2 (.v 1) (.e (m1 (.e (mC (.int 1))) negF)) ixF)) (mSeq (mSet 3 (mLst (mCons (mC .non) (mCons (mTup mNil) (mCons (m1 (.v 1) lstcF) (mCons (m2 (.e (m1 (.v 1) revTF)) (.e (mSl (.v 1) none (some (mC (.int 1))))) addF) (mCons (m2 (.v 1) (.e (mSl (.v 1) (some (m1 (.e (mC (.int 1))) negF)) none)) addF) (mCons (mTup (mCons (mTup (mCons (mC (.int 0)) mNil)) mNil)) (mCons (mTup (mCons (mTup (mCons (mC (.int 1)) (mCons (mC (.int 0)) mNil))) mNil)) (mCons (mTup (mCons (mTup (mCons (mC (.int 0)) (mCons (mC (.int 0)) mNil))) mNil)) (mCons (mTup (mCons (mTup (mCons (mC (.int 0)) (mCons (mC (.int 60)) mNil))) mNil)) (mCons (mTup (mCons (mTup (mCons (mC (.int 0)) (mCons (mC (.bl true)) mNil))) mNil)) mNil)))))))))))) (mRet (mCall c__law_pick (mCons (mTake 0) (mCons (mFz (m2 (.e (mVar 3)) (.e (mLst (mCons (mTup (mCons (mTup (mCons (mC (.int 0)) (mCons (mC .non) mNil))) mNil)) (mCons (mC (.str "0.1")) (mCons (mC (.int 5)) (mCons (m2 (.e (mSl (.v 1) none (some (m1 (.e (mC (.int 1))) negF)))) (.e (mTup (mCons (m1 (.v 2) lstcF) mNil))) addF) (mCons (m2 (.e (mSl (.v 1) none (some (m1 (.e (mC (.int 1))) negF)))) (.e (mTup (mCons (m2 (.v 2) (.e (mSl (.v 2) (some (m1 (.e (mC (.int 1))) negF)) none)) addF) mNil))) addF) (mCons (mTup (mCons (mTup (mCons (m1 (.e (mC (.int 1))) negF) (mCons (mC (.int 0)) mNil))) mNil)) mNil)))))))) addF)) mNil)) [some 0, none]))))
def f__law_wrong_bags (c__law_pick : Fn) : Fn := runD 4 2 (fun i => ([true, true] : List Bool).getD i false) (m__law_wrong_bags c__law_pick)
def m__law_no_family (c__law_size c__law_pick : Fn) : M Fl := (mSeq (mSet 2 (mCall c__law_size (mCons (mTake 1) mNil) [some 1])) (mSeq (mSet 3 (mLst (mCons (mTup (mCons (mTup (mCons (mC (.int 0)) (mCons (mC (.int 1)) mNil))) (mCons (mTup (mCons (mC (.int 2)) (mCons (mC (.int 3)) mNil))) mNil))) (mCons (mTup (mCons (mTup (mCons (mC (.int 0)) (mCons (mC (.int 1)) mNil))) (mCons (mTup (mCons (mC (.int 0)) (mCons (mC (.int 2)) mNil))) (mCons (mTup (mCons (mC (.int 1)) (mCons (mC (.int 2)) mNil))) mNil)))) (mCons (mTup (mCons (mTup (mCons (mC (.int 0)) (mCons (mC (.int 1)) (mCons (mC (.int 2)) mNil)))) (mCons (mTup (mCons (mC (.int 0)) (mCons (mC (.int 1)) (mCons (mC (.int 3)) mNil)))) mNil))) (mCons (mTup (mCons (mTup (mCons (mC (.int 1)) (mCons (mC (.int 2)) mNil))) mNil)) (mCons (mTup (mCons (mTup (mCons (mC (.int 0)) (mCons (mC (.int 2)) mNil))) mNil)) (mCons (mTup (mCons (mTup (mCons (mC (.int 0)) (mCons (mC (.int 1)) mNil))) (mCons (mTup (mCons (mC (.int 1)) (mCons (mC (.int 2)) mNil))) (mCons (mTup (mCons (mC (.int 2)) (mCons (mC (.int 3)) mNil))) (mCons (mTup (mCons (mC (.int 0)) (mCons (mC (.int 3)) mNil))) mNil))))) mNil)))))))) (mRet (m1 (.e (m1 (.e (mCall c__law_pick (mCons (mTake 0) (mCons (mFz (m2 (.v 3) (.e (mLst (mCons (m2 (.v 1) (.e (mTup (mCons (mTup (mCons (m2 (.v 2) (.e (mC (.int 1))) addF) (mCons (m2 (.v 2) (.e (mC (.int 2))) addF) mNil))) mNil))) addF) (mCons (mTup (mCons (mTup (mCons (mC (.int 0)) (mCons (mC (.int 1)) mNil))) (mCons (mTup (mCons (mC (.int 0)) (mCons (mC (.int 1)) (mCons (mC (.int 2)) mNil)))) mNil))) mNil)))) addF)) mNil)) [some 0, none])) sortTF)) tupcF))))
def f__law_no_family (c__law_size c__law_pick : Fn) : Fn := runD 4 2 (fun i => ([true, true] : List Bool).getD i false) (m__law_no_family c__law_size c__law_pick)
def x_need_bags (c_is_bag c_is_rising : Fn) : MX := (xOr (xIf (mOr (mNot (mTru (m1 (.v 0) (isiF .tuple)))) (mOr (mB (m2 (.v 0) (.e (mTup mNil)) (cmpF .Eq))) (mNot (mTru (m1 (.e (mLc (mItems (mVar 0)) (.n 1) mYes (mCall c_is_bag (mCons (mTake 1) mNil) [some 1]) [1])) allF))))) (xRaise "BadBags") xNo) (xTail (mIf (mOr (mNot (mTru (m1 (.v 0) (isiF .tuple)))) (mOr (mB (m2 (.v 0) (.e (mTup mNil)) (cmpF .Eq))) (mNot (mTru (m1 (.e (mLc (mItems (mVar 0)) (.n 1) mYes (mCall c_is_bag (mCons (mTake 1) mNil) [some 1]) [1])) allF))))) (fun _ => none) mNx) (xIf (mNot (mTru (mCall c_is_rising (mCons (mTake 0) mNil) [some 0]))) (xRaise "BadBags") xNo)))
def g_need_bags (c_is_bag c_is_rising : Fn) : FX := runX 2 1 (x_need_bags c_is_bag c_is_rising)
def x_need_family (c_bar_of c_need_bags : Fn) (x_need_bags : FX) : MX := (xOr (xCall x_need_bags (mCons (mTake 0) mNil)) (xTail (mDo (mCall c_need_bags (mCons (mTake 0) mNil) [some 0])) (xIf (mB (m2 (.e (mCall c_bar_of (mCons (mTake 0) mNil) [some 0])) (.e (mC .non)) (cmpF .IsNot))) (xRaise "BadFamily") xNo)))
def g_need_family (c_bar_of c_need_bags : Fn) (x_need_bags : FX) : FX := runX 1 1 (x_need_family c_bar_of c_need_bags x_need_bags)
def x_need_number (c_is_in : Fn) : MX := (xIf (mNot (mTru (mCall c_is_in (mCons (mTake 0) (mCons (mTake 1) (mCons (mTake 2) mNil))) [some 0, some 1, some 2]))) (xRaise "BadNumber") xNo)
def g_need_number (c_is_in : Fn) : FX := runX 3 3 (x_need_number c_is_in)
def x_need_bead (c_size_of c_is_in : Fn) : MX := (xIf (mNot (mTru (mCall c_is_in (mCons (mTake 1) (mCons (mC (.int 0)) (mCons (m2 (.e (mCall c_size_of (mCons (mTake 0) mNil) [some 0])) (.e (mC (.int 1))) subF) mNil))) [some 1, none, none]))) (xRaise "BadBead") xNo)
def g_need_bead (c_size_of c_is_in : Fn) : FX := runX 2 2 (x_need_bead c_size_of c_is_in)
end Pl
namespace Pl
open Va L2 PySem Nm
@[simp] theorem ev_xOr (a b : MX) (st : S) : xOr a b st = (match a st with
  | some c => some c
  | none => b st) := rfl
@[simp] theorem ev_xTail (a : M Fl) (m : MX) (st : S) : xTail a m st = (match a st with
  | some (.nx, s) => m s
  | _ => none) := rfl
@[simp] theorem ev_xIf (c : M Bool) (a b : MX) (st : S) : xIf c a b st = (match c st with
  | some (true, s) => a s
  | some (false, s) => b s
  | none => none) := rfl
@[simp] theorem ev_xRaise (c : Str) (st : S) : xRaise c st = some c := rfl
@[simp] theorem ev_xNo (st : S) : xNo st = none := rfl
@[simp] theorem ev_xCall (φ : FX) (m : M (List D)) (st : S) : xCall φ m st = (match m st with
  | some (ds, _) => match ds.all imm with
    | true => φ ds
    | false => none
  | none => none) := rfl
@[simp] theorem ev_mBoth (m n : M D) (f : D → D → Option D) (st : S) : mBoth m n f st = (match m st with
  | some (d, s) => match n s with
    | some (e, s') => match f d e with
      | some z => some (z, s')
      | none => none
    | none => none
  | none => none) := rfl
@[simp] theorem ev_mDel (i : Nat) (mk : M D) (st : S) : mDel i mk st = (match isBox i st with
  | true => match mk st with
    | some (k, s) => match s[i]? with
      | some (some (.dic true kvs)) => match keyD k with
        | some _ => match hasD kvs k with
          | true => some (.nx, s.set i (some (.dic true (dropD kvs k))))
          | false => none
        | none => none
      | _ => none
    | none => none
  | false => none) := rfl
/-- what is told for a class -/
def told (xs : List Str) (l : List (Str × Str)) (c : Str) : Option D := match xs.any fun x => decide (x = xbase c) with
  | true => match tell l (xbase c) with
    | some r => ansD r c
    | none => none
  | false => none
@[simp] theorem ev_mErr (xs : List Str) (l : List (Str × Str)) (φ : FX) (m : M (List D)) (st : S) : mErr xs l (xCallS φ m) st = (match m st with
  | some (ds, s) => match ds.all imm with
    | true => match φ ds with
      | some c => match told xs l c with
        | some d => some (d, s)
        | none => none
      | none => none
    | false => none
  | none => none) := by
  unfold mErr xCallS
  cases m st with
  | none => rfl
  | some p =>
    obtain ⟨ds, s⟩ := p
    dsimp only
    cases ds.all imm with
    | false => rfl
    | true =>
      dsimp only
      cases φ ds with
      | none => rfl
      | some c =>
        dsimp only
        unfold told
        cases xs.any fun x => decide (x = xbase c) with
        | false => rfl
        | true =>
          dsimp only
          cases tell l (xbase c) with
          | none => rfl
          | some r =>
            dsimp only
            all_goals (cases ansD r c <;> rfl)
@[simp] theorem ev_mErr0 (m : M D) (st : S) : mErr0 m st = (match m st with
  | some (_, s) => some (.str "", s)
  | none => none) := rfl
@[simp] theorem ev_forF0 (w : Nat) (st : S) : mForF w [] st = some (.nx, st) := rfl
theorem forF_cons {w : Nat} {m : M Fl} {ms : List (M Fl)} {st s : S} (h : m (st.set w none) = some (.nx, s)) : mForF w (m :: ms) st = mForF w ms s := by
  show (match m (st.set w none) with | some (.nx, s) => mForF w ms s | some (.ct, s) => mForF w ms s | some (.bk, s) => some (.nx, s) | some (.ret d, s) => some (.ret d, s) | none => none) = _
  rw [h]
theorem seqR {a b : M Fl} {st s : Va.S} (h : a st = some (.nx, s)) : mSeq a b st = b s := by
  show (match a st with | some (.nx, s) => b s | r => r) = _
  rw [h]
def F_is_int : Fn := f_is_int
def F_is_in : Fn := f_is_in F_is_int
def X_need_number : FX := g_need_number F_is_in
def F_is_rising : Fn := f_is_rising
def F_is_bag : Fn := f_is_bag F_is_in F_is_rising
def F_need_bags : Fn := f_need_bags F_is_bag F_is_rising
def X_need_bags : FX := g_need_bags F_is_bag F_is_rising
def F_size_of : Fn := f_size_of
def F_homes_of : Fn := f_homes_of F_size_of
def F_shared_by : Fn := f_shared_by
def F_reached_from : Fn := f_reached_from
def F_ring_of : Fn := f_ring_of
def F_bar_of : Fn := f_bar_of F_homes_of F_shared_by F_reached_from F_ring_of
def F_is_family : Fn := f_is_family F_is_bag F_is_rising F_bar_of
def F_need_family : Fn := f_need_family F_need_bags F_bar_of
def X_need_family : FX := g_need_family F_bar_of F_need_bags X_need_bags
def F_need_bead : Fn := f_need_bead F_size_of F_is_in
def X_need_bead : FX := g_need_bead F_size_of F_is_in
theorem q_is_int (n : Int) : F_is_int [.int n] = some (.bl true, [some (.int n)]) := is_int_ok n
theorem q_is_in : SpIn F_is_in := fun {v lo hi} h1 h2 => is_in_ok (@q_is_int) h1 h2
theorem q_is_rising : SpRis F_is_rising := ris_sp
theorem q_is_bag : SpBag F_is_bag := bag_sp (fun v h0 h1 => @q_is_in _ _ _ h0 h1) @q_is_rising
theorem q_need_bags : SpNeed F_need_bags := fun {n F} H => need_bags_ok @q_is_bag @q_is_rising H
theorem q_size_of : SpSize F_size_of := fun {n F} H => size_of_ok H
theorem q_homes_of : SpHomes F_homes_of := fun {n F} H => homes_ok H (@q_size_of _ _ H)
theorem q_bar_of : SpNeed F_bar_of := fun {n F} H => bar_of_ok H (@q_homes_of _ _ H) (fun a ha b hb => shared_ok (by have := H.bag_le a ha; have := H.n60; omega) (by have := H.bag_le b hb; have := H.n60; omega) (H.nd b hb)) (reached_ok H)
theorem q_need_family : SpNeed F_need_family := need_family_sp @q_need_bags @q_bar_of
theorem q_need_bead : SpNeedBead F_need_bead := need_bead_sp @q_size_of @q_is_in
/-- refused by is_in -/
def NoIn (d : D) (lo hi : Int) : Prop := imm d = true ∧ F_is_in [d, .int lo, .int hi] = some (.bl false, [some d, some (.int lo), some (.int hi)])
theorem noIn_int {v lo hi : Int} (h : ¬ (lo ≤ v ∧ v ≤ hi)) : NoIn (.int v) lo hi := by
  refine ⟨rfl, ?_⟩
  unfold F_is_in f_is_in m_is_in
  by_cases h1 : lo ≤ v
  · have h2 : ¬ v ≤ hi := fun z => h ⟨h1, z⟩
    simp [runD, q_is_int, h1, h2]
  · simp [runD, q_is_int, h1]
theorem noIn_of {d : D} {lo hi : Int} (hd : imm d = true) (h : F_is_int [d] = some (.bl false, [some d])) : NoIn d lo hi := by
  refine ⟨hd, ?_⟩
  unfold F_is_in f_is_in m_is_in
  simp [runD, h, hd]
theorem noIn_non {lo hi : Int} : NoIn .non lo hi := noIn_of rfl rfl
theorem noIn_str {x : Str} {lo hi : Int} : NoIn (.str x) lo hi := noIn_of rfl rfl
theorem noIn_tup {xs : List D} {lo hi : Int} : NoIn (.tup xs) lo hi := noIn_of rfl rfl
theorem x_number {d : D} {lo hi : Int} (h : NoIn d lo hi) : X_need_number [d, .int lo, .int hi] = some ("BadNumber" : Str) := by
  obtain ⟨h1, h2⟩ := h
  unfold X_need_number g_need_number x_need_number
  simp [runX, h1, h2]
theorem x_bead {n : Int} {F : List Bag} (H : Fam n F) {d : D} (h : NoIn d 0 (n - 1)) : X_need_bead [famD F, d] = some ("BadBead" : Str) := by
  obtain ⟨h1, h2⟩ := h
  have e := @q_size_of _ _ H
  unfold X_need_bead g_need_bead x_need_bead
  simp [runX, h1, h2, e]
theorem all_bools (bs : List Bool) : allF (.lst true (bs.map .bl)) = some (.bl (bs.all id)) := by
  have h : ∀ l : List Bool, toBools (l.map D.bl) = some l := fun l => by
    induction l with
    | nil => rfl
    | cons x l ih => simp [toBools, ih]
  show boolsF _ _ = _
  unfold boolsF lstOf
  simp [h]
def pairsB {α : Type} (lt : α → α → Bool) : List α → List Bool
  | x :: y :: r => lt x y :: pairsB lt (y :: r)
  | _ => []
theorem zip_pairsB {α : Type} (enc : α → D) (lt : α → α → Bool) : ∀ l : List α, ∃ ps : List (α × α), zipD (l.map enc) ((l.map enc).drop 1) = ps.map (fun p => .tup [enc p.1, enc p.2]) ∧ ps.map (fun p => lt p.1 p.2) = pairsB lt l ∧ ps.length ≤ l.length
  | [] => ⟨[], rfl, rfl, Nat.le_refl _⟩
  | [x] => ⟨[], rfl, rfl, by simp⟩
  | x :: y :: r => by
    obtain ⟨ps, h1, h2, h3⟩ := zip_pairsB enc lt (y :: r)
    refine ⟨(x, y) :: ps, ?_, ?_, by simpa using h3⟩
    · simp only [List.map_cons, List.drop_succ_cons, List.drop_zero] at h1 ⊢
      simp only [zipD, h1]
    · simp only [List.map_cons, h2, pairsB]
theorem ris_gen {α : Type} (enc : α → D) (lt : α → α → Bool) (h : ∀ a b, cmpF .Lt (enc a) (enc b) = some (.bl (lt a b))) (l : List α) (hl : l.length ≤ 1000000) : F_is_rising [.tup (l.map enc)] = some (.bl ((pairsB lt l).all id), [some (.tup (l.map enc))]) := by
  obtain ⟨ps, e1, e2, e3⟩ := zip_pairsB enc lt l
  unfold F_is_rising f_is_rising m_is_rising
  simp [runD]
  rw [mLc_a (l := ps) (fun p : α × α => .tup [enc p.1, enc p.2]) (fun p => .bl (lt p.1 p.2)) (s := [some (.tup (l.map enc)), none, none]) (st0 := [some (.tup (l.map enc)), none, none]) (by simp [mSl, mPart, cut1, ← e1]) (by simp) (by omega) (by simp) fun p hp => by
    exact ⟨_, _, by simp; rfl, by simp [h]; exact rfl, by simp⟩]
  have : ps.map (fun p => D.bl (lt p.1 p.2)) = (pairsB lt l).map .bl := by rw [← e2, List.map_map]; rfl
  rw [this]
  simp [all_bools]
theorem ris_ints (b : Bag) (hl : b.length ≤ 1000000) : F_is_rising [bagD b] = some (.bl ((pairsB (fun x y => decide (x < y)) b).all id), [some (bagD b)]) := ris_gen D.int (fun x y => decide (x < y)) (fun _ _ => rfl) b hl
theorem ris_bags (L : List Bag) (hl : L.length ≤ 1000000) : F_is_rising [famD L] = some (.bl ((pairsB (fun x y => HT.lexLt x y) L).all id), [some (famD L)]) := ris_gen bagD (fun x y => HT.lexLt x y) (fun a b => by
  show ltF (.tup (intsD a)) (.tup (intsD b)) = _
  simp only [ltF, toInts_ints]) L hl
theorem pairsB_end {α : Type} {lt : α → α → Bool} {x y : α} (h : lt x y = false) : ∀ l : List α, (pairsB lt (l ++ [x, y])).all id = false
  | [] => by simp [pairsB, h]
  | [a] => by simp [pairsB, h]
  | a :: b :: r => by
    have := pairsB_end h (b :: r)
    simp only [List.cons_append, pairsB, List.all_cons] at this ⊢
    rw [this, Bool.and_false]
theorem pairsB_up {α : Type} {lt : α → α → Bool} : ∀ {l : List α}, l.Pairwise (fun a b => lt a b = true) → (pairsB lt l).all id = true
  | [], _ => rfl
  | [a], _ => rfl
  | a :: b :: r, h => by
    have h1 := List.pairwise_cons.mp h
    simp only [pairsB, List.all_cons, pairsB_up h1.2, Bool.and_true]
    exact h1.1 b (List.mem_cons_self ..)
/-- is_bag of ints -/
theorem bag_gen (b : Bag) (h2 : 2 ≤ b.length) (hl : b.length ≤ 1000000) (hr : ∀ x ∈ b, 0 ≤ x ∧ x ≤ 59) : F_is_bag [bagD b] = some (.bl ((pairsB (fun x y => decide (x < y)) b).all id), [some (bagD b)]) := by
  have h2' : ¬ ((b.length : Int) < 2) := by omega
  have hr' := ris_ints b hl
  unfold F_is_bag f_is_bag m_is_bag
  simp [runD, h2']
  rw [mLc_a (l := b) D.int (fun x => .bl true) (s := [some (bagD b), none]) (st0 := [some (bagD b), none]) (by simp) (by simp) (by omega) (by simp) fun x hxb => by
    refine ⟨_, [some (bagD b), some (.int x)], by simp; rfl, ?_, by simp⟩
    simp [@q_is_in _ _ _ (hr x hxb).1 (hr x hxb).2]]
  simp [all_true, hr']
def ibD (d : D) : Bool := match F_is_bag [d] with
  | some (.bl t, _) => t
  | _ => false
/-- need_bags of a tuple, an item of which is no bag -/
theorem bags_no {ds : List D} (hne : eqcF (.tup ds) (.tup []) = some (.bl false)) (hl : ds.length ≤ 1000000) (hi : ∀ d ∈ ds, imm d = true ∧ ∃ t, F_is_bag [d] = some (.bl t, [some d])) (hb : ∃ d ∈ ds, F_is_bag [d] = some (.bl false, [some d])) : X_need_bags [.tup ds] = some ("BadBags" : Str) ∧ F_is_family [.tup ds] = some (.bl false, [some (.tup ds)]) := by
  unfold X_need_bags g_need_bags x_need_bags F_is_family f_is_family m_is_family
  have e : mLc (mItems (mVar 0)) (.n 1) mYes (mCall F_is_bag (mCons (mTake 1) mNil) [some 1]) [1] [some (.tup ds), none] = some (.lst true ((ds.map ibD).map .bl), [some (.tup ds), none]) := by
    rw [mLc_m (ds := ds) (s := [some (.tup ds), none]) (st0 := [some (.tup ds), none]) (fun d => .bl (ibD d)) (by simp) (by simp) (by rw [LN_eq']; omega) (by simp) fun d hd => by
      obtain ⟨h1, t, h2⟩ := hi d hd
      have h3 : ibD d = t := by unfold ibD; rw [h2]
      refine ⟨_, [some (.tup ds), some d], by simp; rfl, by simp [h1, h2, h3], by simp⟩]
    rw [List.map_map]
    rfl
  have ha : (ds.map ibD).all id = false := by
    obtain ⟨d, hd, h⟩ := hb
    rw [List.all_map, List.all_eq_false]
    exact ⟨d, hd, by show ¬ ibD d = true; unfold ibD; rw [h]; simp⟩
  constructor
  · simp [runX, hne, e, all_bools, ha, -List.map_map]
  · simp [runD, hne, e, all_bools, ha, -List.map_map]
theorem bags_fall {ds : List D} (hne : eqcF (.tup ds) (.tup []) = some (.bl false)) (hl : ds.length ≤ 1000000) (hi : ∀ d ∈ ds, imm d = true ∧ F_is_bag [d] = some (.bl true, [some d])) (hr : F_is_rising [.tup ds] = some (.bl false, [some (.tup ds)])) : X_need_bags [.tup ds] = some ("BadBags" : Str) ∧ F_is_family [.tup ds] = some (.bl false, [some (.tup ds)]) := by
  unfold X_need_bags g_need_bags x_need_bags F_is_family f_is_family m_is_family
  have e : mLc (mItems (mVar 0)) (.n 1) mYes (mCall F_is_bag (mCons (mTake 1) mNil) [some 1]) [1] [some (.tup ds), none] = some (.lst true (ds.map fun _ => .bl true), [some (.tup ds), none]) := by
    rw [mLc_m (ds := ds) (s := [some (.tup ds), none]) (st0 := [some (.tup ds), none]) (fun d => .bl true) (by simp) (by simp) (by rw [LN_eq']; omega) (by simp) fun d hd => by
      obtain ⟨h1, h2⟩ := hi d hd
      refine ⟨_, [some (.tup ds), some d], by simp; rfl, by simp [h1, h2], by simp⟩]
    rfl
  constructor
  · simp [runX, hne, e, all_true, hr]
  · simp [runD, hne, e, all_true, hr]
theorem bags_kind {d : D} (h : isiF .tuple d = some (.bl false)) : X_need_bags [d] = some ("BadBags" : Str) ∧ F_is_family [d] = some (.bl false, [some d]) := by
  unfold X_need_bags g_need_bags x_need_bags F_is_family f_is_family m_is_family
  constructor
  · simp [runX, h]
  · simp [runD, h]
/-- no bags at all -/
def NoBags (d : D) : Prop := imm d = true ∧ X_need_bags [d] = some ("BadBags" : Str) ∧ F_is_family [d] = some (.bl false, [some d])
theorem fam_item {n : Int} {F : List Bag} (H : Fam n F) : ∀ d ∈ F.map bagD, imm d = true ∧ F_is_bag [d] = some (.bl true, [some d]) := fun d hd => by
  obtain ⟨b, hb, rfl⟩ := List.mem_map.mp hd
  exact ⟨rfl, H.bagOk @q_is_bag hb⟩
theorem lexLt_self (b : Bag) : HT.lexLt b b = false := by
  cases e : HT.lexLt b b with
  | false => rfl
  | true => have := lex_asym b b e; rw [e] at this; cases this
theorem eqt_ne {ds : List D} (h : ds ≠ []) (hs : ds.all (shp 59) = true) : eqcF (.tup ds) (.tup []) = some (.bl false) := by
  have s1 : shp 60 (.tup ds) = true := hs
  have s2 : shp 60 (.tup []) = true := rfl
  unfold eqcF eqD
  rw [s1, s2]
  cases ds with
  | nil => exact absurd rfl h
  | cons b F => rfl
theorem shp_bagD (b : Bag) : shp 59 (bagD b) = true := shp_ints 57 b
theorem shp_fam59 (F : List Bag) : (F.map bagD).all (shp 59) = true := shp_bags 57 F
/-- a list stands in the place of a bag -/
theorem noBags_list {n : Int} {F G : List Bag} (H : Fam n F) (hG : ∀ b ∈ G, b ∈ F) (hl : G.length ≤ 1000) (b : Bag) : NoBags (.tup (G.map bagD ++ [.lst false (intsD b)])) := by
  have hlst : F_is_bag [.lst false (intsD b)] = some (.bl false, [some (.lst false (intsD b))]) := rfl
  refine ⟨rfl, bags_no (eqt_ne (by simp) ?_) (by simp; omega) (fun d hd => ?_) ⟨.lst false (intsD b), by simp, hlst⟩⟩
  · rw [List.all_append, shp_fam59]
    simp only [List.all_cons, List.all_nil, Bool.and_true, Bool.true_and]
    exact shp_ints 57 b
  · rcases List.mem_append.mp hd with h | h
    · obtain ⟨c, hc, rfl⟩ := List.mem_map.mp h
      exact ⟨rfl, true, (fam_item H _ (List.mem_map_of_mem (hG c hc))).2⟩
    · rw [List.mem_singleton.mp h]
      exact ⟨rfl, _, hlst⟩
/-- a bag's greatest bead stands twice -/
theorem noBags_twice {n : Int} {F G : List Bag} (H : Fam n F) (hG : ∀ b ∈ G, b ∈ F) (hl : G.length ≤ 1000) {b : Bag} {x : Int} (hb : b ++ [x] ∈ F) : NoBags (.tup (G.map bagD ++ [bagD (b ++ [x, x])])) := by
  have h60 := H.n60
  have hbl := H.bag_le _ hb
  have hr := H.rng _ hb
  have hbad : F_is_bag [bagD (b ++ [x, x])] = some (.bl false, [some (bagD (b ++ [x, x]))]) := by
    rw [bag_gen _ (by simp) (by simp at hbl ⊢; omega) (fun y hy => by
      have : y ∈ b ++ [x] := by
        rcases List.mem_append.mp hy with h | h
        · exact List.mem_append_left _ h
        · simp at h; rw [h]; simp
      have := hr y this
      omega), pairsB_end (by simp)]
  refine ⟨rfl, bags_no (eqt_ne (by simp) ?_) (by simp; omega) (fun d hd => ?_) ⟨_, by simp, hbad⟩⟩
  · rw [List.all_append, shp_fam59]
    simp only [List.all_cons, List.all_nil, Bool.and_true, Bool.true_and]
    exact shp_bagD _
  · rcases List.mem_append.mp hd with h | h
    · obtain ⟨c, hc, rfl⟩ := List.mem_map.mp h
      exact ⟨rfl, true, (fam_item H _ (List.mem_map_of_mem (hG c hc))).2⟩
    · rw [List.mem_singleton.mp h]
      exact ⟨rfl, _, hbad⟩
/-- bags that do not rise -/
theorem noBags_fall {n : Int} {F L : List Bag} (H : Fam n F) (hL : ∀ b ∈ L, b ∈ F) (hne : L ≠ []) (hl : L.length ≤ 1000) (hp : (pairsB (fun x y => HT.lexLt x y) L).all id = false) : NoBags (famD L) := by
  refine ⟨rfl, bags_fall (ds := L.map bagD) (eqt_ne (by simpa using hne) (shp_fam59 L)) (by simp; omega) (fun d hd => ?_) ?_⟩
  · obtain ⟨c, hc, rfl⟩ := List.mem_map.mp hd
    exact fam_item H _ (List.mem_map_of_mem (hL c hc))
  · have := ris_bags L (by omega)
    rw [hp] at this
    exact this
theorem noBags_end {n : Int} {F G : List Bag} (H : Fam n F) (hG : ∀ b ∈ G, b ∈ F) (hl : G.length ≤ 900) {z : Bag} (hz : z ∈ F) : NoBags (famD (G ++ [z, z])) := by
  refine noBags_fall H (fun b hb => ?_) (by simp) (by simp; omega) (pairsB_end (lexLt_self z) G)
  rcases List.mem_append.mp hb with h | h
  · exact hG b h
  · simp at h; rw [h]; exact hz
theorem noBags_kind {d : D} (hi : imm d = true) (h : isiF .tuple d = some (.bl false)) : NoBags d := ⟨hi, bags_kind h⟩
/-- the family's errors -/
theorem x_family {d : D} (h : NoBags d) : X_need_family [d] = some ("BadBags" : Str) := by
  obtain ⟨h1, h2, _⟩ := h
  unfold X_need_family g_need_family x_need_family
  simp [runX, h1, h2]
end Pl
namespace Pl
open Va L2 PySem Nm
theorem runD_retR {nN n : Nat} {RO : Nat → Bool} {m : M Fl} {ds : List D} {d : D} {s : Va.S} {os : List (Option D)} (hl : Nat.beq ds.length n = true) (hm : m (ds.map some ++ List.replicate (nN - n) none) = some (.ret d, s)) (hs : Nat.ble n s.length = true) (ho : outsOf RO 0 n s = os := by rfl) : runD nN n RO m ds = some (d, os) := by
  unfold runD
  rw [hl]
  dsimp only
  rw [hm]
  dsimp only
  rw [hs, ← ho]
theorem bleLN {k : Nat} : Nat.ble k LN = decide (k ≤ 16777216) := by
  rw [LN_eq']
  cases h : Nat.ble k 16777216 with
  | true => exact (decide_eq_true (Nat.le_of_ble_eq_true h)).symm
  | false => exact (decide_eq_false (fun h2 => by rw [Nat.ble_eq_true_of_le h2] at h; cases h)).symm
theorem cut_to1 (xs : List D) : cutD xs none (some 1) = xs.take 1 := by
  unfold cutD HT.sIx
  cases xs with
  | nil => simp
  | cons x xs => simp
theorem cut_last (xs : List D) (x : D) : cutD (xs ++ [x]) (some (-1)) none = [x] := by
  have h : HT.sIx (xs ++ [x]).length 0 (some (-1)) = xs.length := by
    show (if (-1 : Int) < 0 then ((-1 : Int) + ((xs ++ [x]).length : Nat)).toNat else min (-1 : Int).toNat (xs ++ [x]).length) = _
    rw [if_pos (by decide), List.length_append, List.length_singleton]
    omega
  have h2 : HT.sIx (xs ++ [x]).length (xs ++ [x]).length none = xs.length + 1 := by
    show (xs ++ [x]).length = _
    simp
  unfold cutD
  rw [h, h2]
  simp
theorem cut_init (xs : List D) (x : D) : cutD (xs ++ [x]) none (some (-1)) = xs := by
  have h : HT.sIx (xs ++ [x]).length (xs ++ [x]).length (some (-1)) = xs.length := by
    show (if (-1 : Int) < 0 then ((-1 : Int) + ((xs ++ [x]).length : Nat)).toNat else min (-1 : Int).toNat (xs ++ [x]).length) = _
    rw [if_pos (by decide), List.length_append, List.length_singleton]
    omega
  have h2 : HT.sIx (xs ++ [x]).length 0 none = 0 := rfl
  unfold cutD
  rw [h, h2]
  simp
theorem at_last (xs : List D) (x : D) : atI (xs ++ [x]) (-1) = some x := by
  have e : ixN (xs ++ [x]).length (-1) = some xs.length := by
    unfold ixN
    rw [if_neg (by decide), if_pos (by simp; omega)]
    simp
    omega
  unfold atI
  rw [e]
  simp
theorem add_tup {xs ys : List D} (h : xs.length + ys.length ≤ 16777216) : addF (.tup xs) (.tup ys) = some (.tup (xs ++ ys)) := by
  show (if xs.length + ys.length ≤ LN then some (D.tup (xs ++ ys)) else none) = _
  rw [if_pos (by rw [LN_eq']; exact h)]
theorem add_lst {a b : Bool} {xs ys : List D} (hx : xs.all imm = true) (hy : ys.all imm = true) (h : xs.length + ys.length ≤ 16777216) : addF (.lst a xs) (.lst b ys) = some (.lst true (xs ++ ys)) := by
  show (if (xs.all imm && ys.all imm) = true ∧ xs.length + ys.length ≤ LN then some (D.lst true (xs ++ ys)) else none) = _
  rw [hx, hy, if_pos ⟨rfl, by rw [LN_eq']; exact h⟩]
theorem bags_imm (F : List Bag) : (F.map bagD).all imm = true := by
  rw [List.all_eq_true]
  intro d hd
  obtain ⟨b, _, rfl⟩ := List.mem_map.mp hd
  rfl
theorem frzL_bagD (F : List Bag) : frzL (F.map bagD) = F.map bagD := by
  induction F with
  | nil => rfl
  | cons b F ih => simp [frzL, ih]; rfl
/-- the values that are no bags -/
def wrongL (F G : List Bag) (z : Bag) (b : Bag) (x : Int) : List D := [.non, .tup [], .lst false (F.map bagD), .tup ((F.map bagD).reverse ++ (F.map bagD).take 1), .tup (F.map bagD ++ [bagD z]), .tup [.tup [.int 0]], .tup [.tup [.int 1, .int 0]], .tup [.tup [.int 0, .int 0]], .tup [.tup [.int 0, .int 60]], .tup [.tup [.int 0, .bl true]],
  .tup [.tup [.int 0, .non]], .str "0.1", .int 5, .tup (G.map bagD ++ [.lst false (intsD z)]), .tup (G.map bagD ++ [.tup (intsD z ++ [.int x])]), .tup [.tup [.int (-1), .int 0]]]
theorem Fam.split {n : Int} {F : List Bag} (H : Fam n F) : ∃ G b x, F = G ++ [b ++ [x]] := by
  have hne := H.ne H.n2
  have hz := List.getLast_mem hne
  have h2 := H.len _ hz
  have hz0 : F.getLast hne ≠ [] := fun e => by rw [e] at h2; simp at h2
  refine ⟨F.dropLast, (F.getLast hne).dropLast, (F.getLast hne).getLast hz0, ?_⟩
  rw [List.dropLast_concat_getLast hz0, List.dropLast_concat_getLast hne]
theorem wrong_no {n : Int} {F G : List Bag} {b : Bag} {x : Int} (H : Fam n F) (e : F = G ++ [b ++ [x]]) : ∀ d ∈ wrongL F G (b ++ [x]) b x, NoBags d := fun d hd => by
  have hz : b ++ [x] ∈ F := by rw [e]; simp
  have hG : ∀ c ∈ G, c ∈ F := fun c hc => by rw [e]; exact List.mem_append_left _ hc
  have hl := H.len_le
  have hlG8 : F.length = G.length + 1 := by rw [e]; simp
  have hlG9 : G.length ≤ 900 := by omega
  have hlG : G.length ≤ 1000 := by omega
  unfold wrongL at hd
  simp only [List.mem_cons, List.not_mem_nil, or_false] at hd
  rcases hd with rfl | rfl | rfl | rfl | rfl | rfl | rfl | rfl | rfl | rfl | rfl | rfl | rfl | rfl | rfl | rfl
  · exact noBags_kind rfl rfl
  · exact ⟨rfl, rfl, rfl⟩
  · exact noBags_kind rfl rfl
  · cases hF : F with
    | nil => rw [hF] at e; simp at e
    | cons c F' =>
      have ec : D.tup ((List.map bagD (c :: F')).reverse ++ (List.map bagD (c :: F')).take 1) = famD (F'.reverse ++ [c, c]) := by
        unfold famD
        congr 1
        simp [List.map_reverse]
      rw [ec]
      have hq : F.length = F'.length + 1 := by rw [hF]; rfl
      refine noBags_end H (fun a ha => ?_) (by rw [List.length_reverse]; omega) (by rw [hF]; simp)
      rw [hF]
      exact List.mem_cons_of_mem _ (List.mem_reverse.mp ha)
  · have ec : D.tup (F.map bagD ++ [bagD (b ++ [x])]) = famD (G ++ [b ++ [x], b ++ [x]]) := by
      unfold famD
      rw [e]
      congr 1
      simp
    rw [ec]
    exact noBags_end H hG hlG9 hz
  · exact ⟨rfl, rfl, rfl⟩
  · exact ⟨rfl, rfl, rfl⟩
  · exact ⟨rfl, rfl, rfl⟩
  · exact ⟨rfl, rfl, rfl⟩
  · exact ⟨rfl, rfl, rfl⟩
  · exact ⟨rfl, rfl, rfl⟩
  · exact noBags_kind rfl rfl
  · exact noBags_kind rfl rfl
  · exact noBags_list H hG hlG _
  · have ec : D.tup (G.map bagD ++ [.tup (intsD (b ++ [x]) ++ [.int x])]) = .tup (G.map bagD ++ [bagD (b ++ [x, x])]) := by
      congr 2
      unfold bagD
      simp
    rw [ec]
    exact noBags_twice H hG hlG hz
  · exact ⟨rfl, rfl, rfl⟩
def SpWrong (ns : List Int) (f : Fn) : Prop := ∀ {r n F}, RowOk ns r → Fam n F → ∃ bad r', f [r, famD F] = some (bad, [some r', some (famD F)]) ∧ RowOk ns r' ∧ NoBags bad
theorem wrong_sp {ns : List Int} {cp : Fn} (hp : SpPick ns cp) : SpWrong ns (f__law_wrong_bags cp) := fun {r n F} hr H => by
  obtain ⟨G, b, x, e⟩ := H.split
  have hl := H.len_le
  have hzF : b ++ [x] ∈ F := by rw [e]; simp
  have hbl := H.bag_le _ hzF
  have h60 := H.n60
  have hFl : F.length = G.length + 1 := by rw [e]; simp
  have hWi : ∀ d ∈ wrongL F G (b ++ [x]) b x, Va.imm d = true := fun d hd => (wrong_no H e d hd).1
  obtain ⟨bad, hm, r', o1, e1, hr'⟩ := hp r false (wrongL F G (b ++ [x]) b x) hr (by unfold wrongL; simp) (by unfold wrongL; simp) hWi
  refine ⟨bad, r', ?_, hr', wrong_no H e bad hm⟩
  have hri := hr.imm
  have g1 : ixF (famD F) (.int (-1)) = some (bagD (b ++ [x])) := by
    show immO (atI (F.map bagD) (-1)) = _
    rw [e, List.map_append, List.map_singleton, at_last]
    rfl
  have g2 : lstcF (famD F) = some (.lst true (F.map bagD)) := by
    show (match (F.map bagD).all Va.imm with | true => some (D.lst true (F.map bagD)) | false => none) = _
    rw [bags_imm]
  have g3 : revTF (famD F) = some (.tup (F.map bagD).reverse) := rfl
  have g4 : slF none (some 1) (famD F) = some (.tup ((F.map bagD).take 1)) := by
    show some (D.tup (cutD (F.map bagD) none (some 1))) = _
    rw [cut_to1]
  have g5 : slF (some (-1)) none (famD F) = some (.tup [bagD (b ++ [x])]) := by
    show some (D.tup (cutD (F.map bagD) (some (-1)) none)) = _
    rw [e, List.map_append, List.map_singleton, cut_last]
  have g6 : slF none (some (-1)) (famD F) = some (.tup (G.map bagD)) := by
    show some (D.tup (cutD (F.map bagD) none (some (-1)))) = _
    rw [e, List.map_append, List.map_singleton, cut_init]
  have g7 : lstcF (bagD (b ++ [x])) = some (.lst true (intsD (b ++ [x]))) := by
    show (match (intsD (b ++ [x])).all Va.imm with | true => some (D.lst true (intsD (b ++ [x]))) | false => none) = _
    rw [all_imm_ints]
  have g8 : slF (some (-1)) none (bagD (b ++ [x])) = some (.tup [.int x]) := by
    show some (D.tup (cutD (intsD (b ++ [x])) (some (-1)) none)) = _
    rw [show intsD (b ++ [x]) = intsD b ++ [D.int x] by simp, cut_last]
  have a1 : addF (.tup (F.map bagD).reverse) (.tup ((F.map bagD).take 1)) = some (.tup ((F.map bagD).reverse ++ (F.map bagD).take 1)) := add_tup (by simp; omega)
  have a2 : addF (famD F) (.tup [bagD (b ++ [x])]) = some (.tup (F.map bagD ++ [bagD (b ++ [x])])) := add_tup (by simp; omega)
  have a3 : addF (.tup (G.map bagD)) (.tup [.lst false (intsD (b ++ [x]))]) = some (.tup (G.map bagD ++ [.lst false (intsD (b ++ [x]))])) := add_tup (by simp; omega)
  have a4 : addF (bagD (b ++ [x])) (.tup [.int x]) = some (.tup (intsD (b ++ [x]) ++ [.int x])) := add_tup (by simp at hbl ⊢; omega)
  have a5 : addF (.tup (G.map bagD)) (.tup [.tup (intsD (b ++ [x]) ++ [.int x])]) = some (.tup (G.map bagD ++ [.tup (intsD (b ++ [x]) ++ [.int x])])) := add_tup (by simp; omega)
  have f1 : frzL (intsD (b ++ [x])) = intsD (b ++ [x]) := frzL_ints _
  have f2 : frzL (F.map bagD) = F.map bagD := frzL_bagD F
  obtain ⟨X1, hX1⟩ : ∃ X, X = D.tup ((F.map bagD).reverse ++ (F.map bagD).take 1) := ⟨_, rfl⟩
  obtain ⟨X2, hX2⟩ : ∃ X, X = D.tup (F.map bagD ++ [bagD (b ++ [x])]) := ⟨_, rfl⟩
  obtain ⟨X3, hX3⟩ : ∃ X, X = D.tup (G.map bagD ++ [.lst false (intsD (b ++ [x]))]) := ⟨_, rfl⟩
  obtain ⟨X4, hX4⟩ : ∃ X, X = D.tup (G.map bagD ++ [.tup (intsD (b ++ [x]) ++ [.int x])]) := ⟨_, rfl⟩
  have i1 : frz X1 = X1 := by rw [hX1]; rfl
  have i2 : frz X2 = X2 := by rw [hX2]; rfl
  have j1 : Va.imm X1 = true := by rw [hX1]; rfl
  have j2 : Va.imm X2 = true := by rw [hX2]; rfl
  have j3 : Va.imm X3 = true := by rw [hX3]; rfl
  have j4 : Va.imm X4 = true := by rw [hX4]; rfl
  have i3 : frz X3 = X3 := by rw [hX3]; rfl
  have i4 : frz X4 = X4 := by rw [hX4]; rfl
  unfold wrongL at e1
  rw [← hX1] at a1 e1
  rw [← hX2] at a2 e1
  rw [← hX3] at a3 e1
  rw [← hX4] at a5 e1
  unfold f__law_wrong_bags m__law_wrong_bags
  have jY1 : Va.imm (D.tup (intsD (b ++ [x]) ++ [.int x])) = true := rfl
  generalize D.tup (intsD (b ++ [x]) ++ [.int x]) = Y1 at *
  generalize (F.map bagD).reverse = Y2 at *
  generalize (F.map bagD).take 1 = Y3 at *
  generalize hY4 : F.map bagD = Y4 at *
  generalize G.map bagD = Y5 at *
  generalize intsD (b ++ [x]) = Y6 at *
  have hZi : Va.imm (bagD (b ++ [x])) = true := rfl
  generalize bagD (b ++ [x]) = Z at *
  have hFi : Va.imm (famD F) = true := rfl
  generalize famD F = FF at *
  have a6 : addF (.lst false [.non, .tup [], .lst false Y4, X1, X2, .tup [.tup [.int 0]], .tup [.tup [.int 1, .int 0]], .tup [.tup [.int 0, .int 0]], .tup [.tup [.int 0, .int 60]], .tup [.tup [.int 0, .bl true]]]) (.lst true [.tup [.tup [.int 0, .non]], .str "0.1", .int 5, X3, X4, .tup [.tup [.int (-1), .int 0]]]) = some (.lst true [.non, .tup [], .lst false Y4, X1, X2, .tup [.tup [.int 0]], .tup [.tup [.int 1, .int 0]], .tup [.tup [.int 0, .int 0]], .tup [.tup [.int 0, .int 60]], .tup [.tup [.int 0, .bl true]], .tup [.tup [.int 0, .non]], .str "0.1", .int 5, X3, X4, .tup [.tup [.int (-1), .int 0]]]) := add_lst (by simp [j1, j2]) (by simp [j3, j4]) (by simp)
  refine runD_retR (s := [some r', some FF, some Z, some (.lst false [.non, .tup [], .lst false Y4, X1, X2, .tup [.tup [.int 0]], .tup [.tup [.int 1, .int 0]], .tup [.tup [.int 0, .int 0]], .tup [.tup [.int 0, .int 60]], .tup [.tup [.int 0, .bl true]]])]) rfl ((seqR (s := [some r, some FF, some Z, none]) ?_).trans ((seqR (s := [some r, some FF, some Z, some (.lst true [.non, .tup [], .lst true Y4, X1, X2, .tup [.tup [.int 0]], .tup [.tup [.int 1, .int 0]], .tup [.tup [.int 0, .int 0]], .tup [.tup [.int 0, .int 60]], .tup [.tup [.int 0, .bl true]]])]) ?_).trans ?_)) rfl
  · simp [g1]
  · simp [g2, g3, g4, a1, a2, g5, i1, i2, j1, j2, frzA, bleLN]
  · simp [g6, g7, g8, a3, a4, a5, a6, f1, f2, jY1, i1, i2, i3, i4, j1, j2, j3, j4, frzA, frz, frzL, bleLN, hri, frz_lst, e1]
end Pl
namespace Pl
open Va L2 PySem Nm
theorem forL_stop {t : Tgt} {b : M Fl} (I : Nat → Va.S → Prop) (R : D → Va.S → Prop) : ∀ (K : Nat) {ds : List D} {k : Nat} {st : Va.S}, K < ds.length → I k st →
    (∀ i d st, i < K → ds[i]? = some d → I (k + i) st → ∃ s1 s2, asgT t d st = some s1 ∧ b s1 = some (.nx, s2) ∧ I (k + i + 1) s2) →
    (∀ d st, ds[K]? = some d → I (k + K) st → ∃ s1 v s2, asgT t d st = some s1 ∧ b s1 = some (.ret v, s2) ∧ R v s2) → ∃ v st', forL t b ds st = some (.ret v, st') ∧ R v st'
  | _, [], k, st, hK, _, _, _ => by simp at hK
  | 0, d :: ds, k, st, _, h0, _, hr => by
    obtain ⟨s1, v, s2, ha, hb, h2⟩ := hr d st rfl h0
    refine ⟨v, s2, ?_, h2⟩
    unfold forL
    rw [ha]
    dsimp only
    rw [hb]
  | K + 1, d :: ds, k, st, hK, h0, hs, hr => by
    obtain ⟨s1, s2, ha, hb, h2⟩ := hs 0 d st (by omega) rfl h0
    obtain ⟨v, st', e, h⟩ := forL_stop I R K (ds := ds) (k := k + 1) (st := s2) (by simpa using hK) (by simpa using h2) (fun i d st hi he hI => by
      have := hs (i + 1) d st (by omega) (by simpa using he) (by rw [show k + (i + 1) = k + 1 + i by omega]; exact hI)
      rw [show k + (i + 1) = k + 1 + i by omega] at this
      exact this) (fun d st he hI => by
        have := hr d st (by simpa using he) (by rw [show k + (K + 1) = k + 1 + K by omega]; exact hI)
        exact this)
    refine ⟨v, st', ?_, h⟩
    unfold forL
    rw [ha]
    dsimp only
    rw [hb]
    exact e
/-- bags that lie below n -/
structure Bgs (n : Int) (L : List Bag) : Prop where
  n0 : 0 ≤ n
  n64 : n ≤ 64
  le : L.length ≤ 1000
  nd : ∀ b ∈ L, b.Nodup
  rng : ∀ b ∈ L, ∀ x ∈ b, 0 ≤ x ∧ x < n
theorem homes_gen {cs : Fn} {n : Int} {F : List Bag} (H : Bgs n F) (hc : cs [famD F] = some (.int n, [some (famD F)])) : f_homes_of cs [famD F] = some (homesL true n (hms F), [some (famD F)]) := by
  have hl := H.le
  have h60 := H.n64
  have h2 := H.n0
  have hsm := small_of (i := n) (by omega) (by omega)
  have inner : ∀ (k : Nat) (b : Bag) (bd : Option D) (h0 : Int → List Int), b.Nodup → (∀ x ∈ b, 0 ≤ x ∧ x < n) → (∀ x, (h0 x).length ≤ 1000000) → ∃ st', forL (.n 4) (mDo (mApp2 1 (mVar 4) (.v 2))) (intsD b) [some (famD F), some (homesL true n h0), some (.int k), some (bagD b), bd] = some (.nx, st') ∧
      ∃ c, st' = [some (famD F), some (homesL true n fun x => h0 x ++ if x ∈ b then [(k : Int)] else []), some (.int k), some (bagD b), c] := fun k b bd h0 nd hr hlen => by
    obtain ⟨st', e, c, es⟩ := forL_inv (t := .n 4) (b := mDo (mApp2 1 (mVar 4) (.v 2))) (fun j st => ∃ c, st = [some (famD F), some (homesL true n fun x => h0 x ++ if x ∈ b.take j then [(k : Int)] else []), some (.int k), some (bagD b), c])
      (ds := intsD b) (k := 0) (st := [some (famD F), some (homesL true n h0), some (.int k), some (bagD b), bd]) ⟨bd, by simp⟩ fun j d st hj ⟨c, es⟩ => by
        subst es
        rw [Nat.zero_add]
        rw [List.getElem?_map] at hj
        cases hy : b[j]? with
        | none => rw [hy] at hj; cases hj
        | some y =>
          rw [hy] at hj
          cases hj
          obtain ⟨hjl, ey⟩ := List.getElem?_eq_some_iff.mp hy
          have hyb : y ∈ b := ey ▸ List.getElem_mem hjl
          obtain ⟨y0, y1⟩ := hr y hyb
          have hyt : y ∉ b.take j := fun hm => by
            have nd2 := nd
            rw [← List.take_append_drop j b] at nd2
            have hd : y ∈ b.drop j := by rw [List.drop_eq_getElem_cons hjl, ey]; simp
            exact (List.nodup_append.mp nd2).2.2 y hm y hd rfl
          have htk : b.take (j + 1) = b.take j ++ [y] := by rw [List.take_succ, hy]; rfl
          refine ⟨_, [some (famD F), some (homesL true n fun x => h0 x ++ if x ∈ b.take (j + 1) then [(k : Int)] else []), some (.int k), some (bagD b), some (.int y)], rfl, .inl ?_, _, rfl⟩
          have hix : ixN (iot n).length y = some y.toNat := by unfold ixN; rw [if_pos y0, if_pos (by rw [iot_len]; omega)]
          have hg : (iot n)[y.toNat]? = some y := by rw [iot_get (by omega)]; congr 1; omega
          have hbl : Nat.blt (h0 y).length LN = true := blt_ok (by have := hlen y; omega)
          simp [homesL, hix, hg, lstD, Atm.get, hyt, hbl, iot_set y0 y1]
          intro x hx
          by_cases e : x = y
          · subst e; simp [htk]
          · simp [htk, e]
    refine ⟨st', e, c, ?_⟩
    rw [es]
    simp
  obtain ⟨st', e, c, d, f, es⟩ := forL_inv (t := .t [2, 3]) (b := mFor (mItems (mVar 3)) (.n 4) (mDo (mApp2 1 (mVar 4) (.v 2)))) (fun k st => ∃ a b c, st = [some (famD F), some (homesL true n (hms (F.take k))), a, b, c])
    (ds := enumD 0 (F.map bagD)) (k := 0) (st := [some (famD F), some (homesL true n (hms [])), none, none, none]) ⟨none, none, none, by simp⟩ fun k d st hk ⟨a1, b1, c1, es⟩ => by
      subst es
      rw [Nat.zero_add]
      obtain ⟨d', hd', rfl⟩ := enumD_get _ 0 k d hk
      rw [List.getElem?_map] at hd'
      cases hb : F[k]? with
      | none => rw [hb] at hd'; cases hd'
      | some b =>
        rw [hb] at hd'
        cases hd'
        obtain ⟨hkl, eb⟩ := List.getElem?_eq_some_iff.mp hb
        have hbF : b ∈ F := eb ▸ List.getElem_mem hkl
        obtain ⟨st', e, c, es⟩ := inner k b c1 (hms (F.take k)) (H.nd b hbF) (H.rng b hbF) (fun x => by
          unfold hms
          rw [List.length_map]
          have := List.length_filter_le (fun p : Bag × Nat => decide (x ∈ p.1)) (F.take k).zipIdx
          simp at this
          omega)
        refine ⟨_, st', by simp; rfl, .inl ?_, some (.int k), some (bagD b), c, ?_⟩
        · simp [e]
        · rw [es]
          have htk : F.take (k + 1) = F.take k ++ [b] := by rw [List.take_succ, hb]; rfl
          have : (hms (F.take (k + 1))) = fun x => hms (F.take k) x ++ if x ∈ b then [(k : Int)] else [] := by
            funext x
            rw [htk, hms_snoc, List.length_take, Nat.min_eq_left (by omega)]
          rw [this]
  rw [enumD_length, List.length_map, Nat.zero_add, List.take_of_length_le (Nat.le_refl _)] at es
  subst es
  unfold f_homes_of m_homes_of
  simp [runD]
  rw [mLc_a (l := iot n) D.int (fun _ => .lst true []) (s := [some (famD F), none, none, none, none]) (st0 := [some (famD F), none, none, none, none]) (by simp [hc, hsm, rgD0]) (by simp) (by rw [iot_len]; omega) (by simp) fun x hx => by
    refine ⟨_, [some (famD F), none, none, none, some (.int x)], by simp; rfl, by simp, by simp⟩]
  have h0 : homesL true n (hms []) = .lst true ((iot n).map fun _ => .lst true []) := by simp [homesL, hms, lstD]
  rw [h0] at e
  simp [e]
theorem isP_id {α : Type} {lt : α → α → Bool} (asym : ∀ a b, lt a b = true → lt b a = false) : ∀ {l : List α}, l.Pairwise (fun a b => lt a b = true) → isP lt l = l
  | [], _ => rfl
  | [x], _ => rfl
  | x :: y :: l, h => by
    have h1 := List.pairwise_cons.mp h
    have ih := isP_id asym h1.2
    show insP lt x (isP lt (y :: l)) = _
    rw [ih]
    unfold insP
    rw [asym _ _ (h1.1 y (List.mem_cons_self ..))]
/-- bags that are no family -/
structure NoFam (d : D) : Prop where
  imm : Va.imm d = true
  fam : X_need_family [d] = some ("BadFamily" : Str)
  isf : F_is_family [d] = some (.bl false, [some d])
  bar : ∃ v, F_bar_of [d] = some (v, [some d]) ∧ isB v .non = some false
  ok : F_need_bags [d] = some (.non, [some d])
/-- with a gap -/
def gapL (n : Int) (F : List Bag) : List Bag := F ++ [[n + 1, n + 2]]
theorem Fam.gap {n : Int} {F : List Bag} (H : Fam n F) (h : n ≤ 50) : Bgs (n + 3) (gapL n F) := by
  have hl := H.len_le
  have h2 := H.n2
  refine ⟨by omega, by omega, by unfold gapL; rw [List.length_append]; simp; omega, fun b hb => ?_, fun b hb => ?_⟩
  · rcases List.mem_append.mp hb with h | h
    · exact H.nd b h
    · rw [List.mem_singleton.mp h]; simp
  · rcases List.mem_append.mp hb with h | h
    · intro x hx; have := H.rng b h x hx; omega
    · rw [List.mem_singleton.mp h]; intro x hx; simp at hx; omega
theorem gap_mem {n : Int} {F : List Bag} (H : Fam n F) (h : n ≤ 50) : ∀ d ∈ (gapL n F).map bagD, Va.imm d = true ∧ F_is_bag [d] = some (.bl true, [some d]) := fun d hd => by
  have h2 := H.n2
  obtain ⟨b, hb, rfl⟩ := List.mem_map.mp hd
  rcases List.mem_append.mp hb with hb | hb
  · exact fam_item H _ (List.mem_map_of_mem hb)
  · rw [List.mem_singleton.mp hb]
    refine ⟨rfl, ?_⟩
    rw [bag_gen _ (by simp) (by simp) (fun x hx => by simp at hx; omega)]
    simp [pairsB]
theorem gap_srt {n : Int} {F : List Bag} (H : Fam n F) : (gapL n F).Pairwise fun a b => HT.lexLt a b = true := by
  refine List.pairwise_append.mpr ⟨H.srt, by simp, fun b hb c hc => ?_⟩
  rw [List.mem_singleton.mp hc]
  have h2 := H.len b hb
  have hr := H.rng b hb
  cases b with
  | nil => simp at h2
  | cons x b =>
    have := hr x (by simp)
    rw [HT.lexLt_cons, if_neg (by omega)]
    simp; omega
theorem gap_size {n : Int} {F : List Bag} (H : Fam n F) : F_size_of [famD (gapL n F)] = some (.int (n + 3), [some (famD (gapL n F))]) := by
  have hl := H.len_le
  have h60 := H.n60
  have hln : (gapL n F).length ≤ 1000 := by unfold gapL; rw [List.length_append]; simp; omega
  have hne : ∀ b ∈ gapL n F, b ≠ [] := fun b hb e => by
    rcases List.mem_append.mp hb with h | h
    · have := H.len b h; rw [e] at this; simp at this
    · rw [List.mem_singleton.mp h] at e; cases e
  have hlast : ∀ b ∈ gapL n F, ixF (bagD b) (.int (-1)) = some (.int (b.getLast?.getD 0)) := fun b hb => by
    show immO (atI (intsD b) (-1)) = _
    rw [getLast_atI (hne b hb), List.getLast?_eq_some_getLast (hne b hb)]
    rfl
  have hmax : maxF (.lst true ((gapL n F).map fun b => D.int (b.getLast?.getD 0))) = some (.int (n + 2)) := by
    have e : (gapL n F).map (fun b => D.int (b.getLast?.getD 0)) = intsD ((gapL n F).map fun b => b.getLast?.getD 0) := by unfold intsD; rw [List.map_map]; rfl
    rw [e]
    unfold maxF intsF lstOf
    simp only [toInts_ints]
    have hm : n + 2 ∈ (gapL n F).map fun b => b.getLast?.getD 0 := List.mem_map.mpr ⟨[n + 1, n + 2], by unfold gapL; simp, by simp⟩
    cases hF : (gapL n F).map (fun b => b.getLast?.getD 0) with
    | nil => rw [hF] at hm; cases hm
    | cons x xs =>
      obtain ⟨i1, i2⟩ := imax_spec xs x
      rw [← hF] at i1
      obtain ⟨c, hc, ec⟩ := List.mem_map.mp i1
      have m3 := i2 (n + 2) (by rw [← hF]; exact hm)
      have : c.getLast?.getD 0 ≤ n + 2 := by
        rcases List.mem_append.mp hc with h | h
        · have hz := hne c hc
          rw [List.getLast?_eq_some_getLast hz]
          have := H.rng c h _ (List.getLast_mem hz)
          simp; omega
        · rw [List.mem_singleton.mp h]; simp
      have : imax x xs = n + 2 := by omega
      simp [this]
  unfold F_size_of f_size_of m_size_of
  generalize gapL n F = L at *
  simp [runD]
  rw [mLc_a (l := L) bagD (fun b => .int (b.getLast?.getD 0)) (s := [some (famD L), none]) (st0 := [some (famD L), none]) (by simp) (by simp) (by omega) (by simp) fun b hbF => by
    refine ⟨_, [some (famD L), some (bagD b)], by simp; rfl, ?_, by simp⟩
    simp [hlast b hbF]]
  simp [hmax]
  omega
theorem gap_bar {n : Int} {F : List Bag} (H : Fam n F) (h : n ≤ 50) : F_bar_of [famD (gapL n F)] = some (.tup [.str "bead", .int n], [some (famD (gapL n F))]) := by
  have hh : F_homes_of [famD (gapL n F)] = some (homesL true (n + 3) (hms (gapL n F)), [some (famD (gapL n F))]) := homes_gen (H.gap h) (gap_size H)
  have h2 := H.n2
  have hnn : hms (gapL n F) n = [] := by
    cases e : hms (gapL n F) n with
    | nil => rfl
    | cons i l =>
      obtain ⟨k, b, _, hb, hx⟩ := hms_mem.mp (show i ∈ hms (gapL n F) n by rw [e]; simp)
      rcases List.mem_append.mp (List.mem_of_getElem? hb) with h | h
      · have := H.rng b h n hx; omega
      · rw [List.mem_singleton.mp h] at hx; simp at hx; omega
  have hne : ∀ x, 0 ≤ x → x < n → (hms (gapL n F) x).isEmpty = false := fun x h0 h1 => by
    obtain ⟨b, hb, hxb⟩ := H.cov x h0 h1
    obtain ⟨i, hi⟩ := List.mem_iff_getElem?.mp (show b ∈ gapL n F from List.mem_append_left _ hb)
    have : (i : Int) ∈ hms (gapL n F) x := hms_mem.mpr ⟨i, b, rfl, hi, hxb⟩
    cases e : hms (gapL n F) x with
    | nil => rw [e] at this; simp at this
    | cons => rfl
  generalize gapL n F = L at *
  obtain ⟨v, st1, e1, ev, x6, x7, e6⟩ := forL_stop (t := .t [2, 3]) (b := mIf (mB (m2 (.v 3) (.e (mLst mNil)) (cmpF .Eq))) (mRet (mTup (mCons (mC (.str "bead")) (mCons (mVar 2) mNil)))) mNx)
    (fun _ st => ∃ a b, st = [some (famD L), some (homesL false (n + 3) (hms L)), a, b, none, none, none, none]) (fun v st => v = .tup [.str "bead", .int n] ∧ ∃ a b, st = [some (famD L), some (homesL false (n + 3) (hms L)), a, b, none, none, none, none]) n.toNat
    (ds := enumD 0 ((iot (n + 3)).map fun x => lstD false (hms L x))) (k := 0) (st := [some (famD L), some (homesL false (n + 3) (hms L)), none, none, none, none, none, none]) (by rw [enumD_length, List.length_map, iot_len]; omega) ⟨none, none, rfl⟩ (fun k d st hkn hk ⟨a, b, es⟩ => by
      subst es
      obtain ⟨d', hd', rfl⟩ := enumD_get _ 0 k d hk
      rw [List.getElem?_map, iot_get (by omega)] at hd'
      cases hd'
      refine ⟨_, [some (famD L), some (homesL false (n + 3) (hms L)), some (.int ((0 + k : Nat) : Int)), some (lstD false (hms L k)), none, none, none, none], by simp; rfl, ?_, _, _, rfl⟩
      have e := eq_nil_intsE false true (hms L k)
      rw [hne k (by omega) (by omega)] at e
      simp [lstD, e]) (fun d st hk ⟨a, b, es⟩ => by
      subst es
      obtain ⟨d', hd', rfl⟩ := enumD_get _ 0 n.toNat d hk
      rw [List.getElem?_map, iot_get (by omega)] at hd'
      cases hd'
      have en : ((n.toNat : Nat) : Int) = n := by omega
      refine ⟨_, .tup [.str "bead", .int n], [some (famD L), some (homesL false (n + 3) (hms L)), some (.int n), some (lstD false (hms L n)), none, none, none, none], by simp [en]; rfl, ?_, rfl, _, _, rfl⟩
      have e := eq_nil_intsE false true (hms L n)
      rw [hnn] at e ⊢
      simp [lstD] at e ⊢
      simp [e, frzA])
  subst ev e6
  unfold F_bar_of f_bar_of m_bar_of
  simp [runD, hh, frz_homesL, e1]
theorem gap_no {n : Int} {F : List Bag} (H : Fam n F) (h : n ≤ 50) : NoFam (famD (gapL n F)) := by
  have hb := gap_bar H h
  have hl := H.len_le
  have h60 := H.n60
  have hln : (gapL n F).length ≤ 1000 := by unfold gapL; rw [List.length_append]; simp; omega
  have hne : eqcF (famD (gapL n F)) (.tup []) = some (.bl false) := eqt_ne (by unfold gapL; simp) (shp_fam59 _)
  have hr := ris_bags (gapL n F) (by omega)
  rw [pairsB_up (gap_srt H)] at hr
  have e : mLc (mItems (mVar 0)) (.n 1) mYes (mCall F_is_bag (mCons (mTake 1) mNil) [some 1]) [1] [some (famD (gapL n F)), none] = some (.lst true (((gapL n F).map bagD).map fun _ => .bl true), [some (famD (gapL n F)), none]) := by
    have hi := gap_mem H h
    generalize gapL n F = L at *
    rw [mLc_m (ds := L.map bagD) (s := [some (famD L), none]) (st0 := [some (famD L), none]) (fun d => .bl true) (by simp) (by simp) (by rw [LN_eq', List.length_map]; omega) (by simp) fun d hd => by
      obtain ⟨h1, h2⟩ := hi d hd
      refine ⟨_, [some (famD L), some d], by simp; rfl, by simp [h1, h2], by simp⟩]
    rfl
  have hx : X_need_bags [famD (gapL n F)] = none := by
    unfold X_need_bags g_need_bags x_need_bags
    simp [runX, hne, e, all_true, hr, -List.map_map]
  have hn : F_need_bags [famD (gapL n F)] = some (.non, [some (famD (gapL n F))]) := by
    unfold F_need_bags f_need_bags m_need_bags
    simp [runD, hne, e, all_true, hr, -List.map_map]
  have hv1 : nisF (.tup [.str "bead", .int n]) .non = some (.bl true) := rfl
  have hv2 : isF (.tup [.str "bead", .int n]) .non = some (.bl false) := rfl
  have hv3 : isB (.tup [.str "bead", .int n]) .non = some false := rfl
  refine ⟨rfl, ?_, ?_, ⟨_, hb, rfl⟩, hn⟩
  · unfold X_need_family g_need_family x_need_family
    simp [runX, hx, hn, hb, hv1]
  · unfold F_is_family f_is_family m_is_family
    simp [runD, hne, e, all_true, hr, hb, hv2, hv3, -List.map_map]
def noC : List (List Bag) := [[[0, 1], [2, 3]], [[0, 1], [0, 2], [1, 2]], [[0, 1, 2], [0, 1, 3]], [[1, 2]], [[0, 2]], [[0, 1], [0, 3], [1, 2], [2, 3]], [[0, 1], [0, 1, 2]]]
theorem noC_no : ∀ L ∈ noC, NoFam (famD L) := fun L hL => by
  unfold noC at hL
  simp only [List.mem_cons, List.not_mem_nil, or_false] at hL
  have mk : ∀ L v, X_need_family [famD L] = some ("BadFamily" : Str) → F_is_family [famD L] = some (.bl false, [some (famD L)]) → F_bar_of [famD L] = some (v, [some (famD L)]) → isB v .non = some false → F_need_bags [famD L] = some (.non, [some (famD L)]) → NoFam (famD L) := fun L v h1 h2 h3 h4 h5 => ⟨rfl, h1, h2, ⟨v, h3, h4⟩, h5⟩
  rcases hL with rfl | rfl | rfl | rfl | rfl | rfl | rfl
  · exact mk _ (.tup [.str "apart", .tup [.int 0]]) (by kernel_rfl) (by kernel_rfl) (by kernel_rfl) rfl (by kernel_rfl)
  · exact mk _ (.tup [.str "ring", .tup [.int 0, .int 1, .int 2]]) (by kernel_rfl) (by kernel_rfl) (by kernel_rfl) rfl (by kernel_rfl)
  · exact mk _ (.tup [.str "two", .int 0, .int 1]) (by kernel_rfl) (by kernel_rfl) (by kernel_rfl) rfl (by kernel_rfl)
  · exact mk _ (.tup [.str "bead", .int 0]) (by kernel_rfl) (by kernel_rfl) (by kernel_rfl) rfl (by kernel_rfl)
  · exact mk _ (.tup [.str "bead", .int 1]) (by kernel_rfl) (by kernel_rfl) (by kernel_rfl) rfl (by kernel_rfl)
  · exact mk _ (.tup [.str "ring", .tup [.int 0, .int 1, .int 2, .int 3]]) (by kernel_rfl) (by kernel_rfl) (by kernel_rfl) rfl (by kernel_rfl)
  · exact mk _ (.tup [.str "two", .int 0, .int 1]) (by kernel_rfl) (by kernel_rfl) (by kernel_rfl) rfl (by kernel_rfl)
end Pl
namespace Pl
open Va L2 PySem Nm
theorem bltLN {k : Nat} : Nat.blt k LN = decide (k < 16777216) := by
  show Nat.ble (k + 1) LN = _
  rw [bleLN]
  rfl
theorem cut_pre {xs : List D} {k : Int} (k0 : 0 ≤ k) : Va.cutD xs none (some k) = xs.take k.toNat := by
  unfold Va.cutD
  have h1 : HT.sIx xs.length 0 none = 0 := rfl
  have h2 : HT.sIx xs.length xs.length (some k) = min k.toNat xs.length := by
    unfold HT.sIx
    simp
    intro h
    omega
  rw [h1, h2, List.drop_zero, Nat.sub_zero, List.take_eq_take_iff]
  omega
theorem sl_pre {o : Bool} {xs : List D} {k : Int} (k0 : 0 ≤ k) (h : xs.all Va.imm = true) : slF none (some k) (.lst o xs) = some (.lst true (xs.take k.toNat)) := by
  show (match xs.all imm with | true => some (D.lst true (Va.cutD xs none (some k))) | false => none) = _
  rw [h, cut_pre k0]
theorem mFor_run {mi : M (List D)} {t : Tgt} {b : M Fl} {st s : Va.S} {ds : List D} (h : mi st = some (ds, s)) : mFor mi t b st = forL t b ds s := by
  unfold mFor
  rw [h]
theorem allm_nil {P : D → Prop} : ∀ x ∈ ([] : List D), P x := fun x h => nomatch h
theorem allm_cons {P : D → Prop} {a : D} {l : List D} (h : P a) (r : ∀ x ∈ l, P x) : ∀ x ∈ a :: l, P x := fun x hx => by
  rcases List.mem_cons.mp hx with e | e
  · rw [e]; exact h
  · exact r x e
theorem pick_P {ns : List Int} {f : Fn} (hp : SpPick ns f) {r : D} (hr : RowOk ns r) (o : Bool) (xs : List D) (P : D → Prop) (hne : xs ≠ []) (hl : xs.length ≤ 1000000) (ha : ∀ x ∈ xs, P x) (hi : ∀ x, P x → Va.imm x = true) :
    ∃ x r' o1, P x ∧ RowOk ns r' ∧ f [r, .lst o xs] = some (x, [some r', o1]) := by
  obtain ⟨x, hx, r', o1, e, hr'⟩ := hp r o xs hr hne hl fun x hx => hi x (ha x hx)
  exact ⟨x, r', o1, ha x hx, hr', e⟩
def SpNo (ns : List Int) (f : Fn) : Prop := ∀ {r : D} {n : Int} {F : List Bag}, RowOk ns r → Fam n F → n ≤ 50 → ∃ w r', f [r, famD F] = some (w, [some r', some (famD F)]) ∧ RowOk ns r' ∧ NoFam w
theorem sort_tup (xs : List D) : sortTF (.tup xs) = sortLF (.lst true xs) := rfl
theorem no_sp {ns : List Int} {cs cp : Fn} (hs : SpSize cs) (hp : SpPick ns cp) : SpNo ns (f__law_no_family cs cp) := fun {r n F} hr H h50 => by
  have hl := H.len_le
  have h60 := H.n60
  have h2 := H.n2
  have e0 := hs H
  obtain ⟨xs, hxs⟩ : ∃ xs : List D, xs = [famD [[0, 1], [2, 3]], famD [[0, 1], [0, 2], [1, 2]], famD [[0, 1, 2], [0, 1, 3]], famD [[1, 2]], famD [[0, 2]], famD [[0, 1], [1, 2], [2, 3], [0, 3]], famD (gapL n F), famD [[0, 1], [0, 1, 2]]] := ⟨_, rfl⟩
  have all : ∀ x ∈ xs, Va.imm x = true ∧ ∃ L, sortTF x = some (.lst true (L.map bagD)) ∧ NoFam (famD L) := by
    rw [hxs]
    refine allm_cons ⟨rfl, [[0, 1], [2, 3]], rfl, noC_no _ (by unfold noC; simp)⟩ (allm_cons ⟨rfl, [[0, 1], [0, 2], [1, 2]], rfl, noC_no _ (by unfold noC; simp)⟩ (allm_cons ⟨rfl, [[0, 1, 2], [0, 1, 3]], rfl, noC_no _ (by unfold noC; simp)⟩
      (allm_cons ⟨rfl, [[1, 2]], rfl, noC_no _ (by unfold noC; simp)⟩ (allm_cons ⟨rfl, [[0, 2]], rfl, noC_no _ (by unfold noC; simp)⟩ (allm_cons ⟨rfl, [[0, 1], [0, 3], [1, 2], [2, 3]], rfl, noC_no _ (by unfold noC; simp)⟩
      (allm_cons ⟨rfl, gapL n F, ?_, gap_no H h50⟩ (allm_cons ⟨rfl, [[0, 1], [0, 1, 2]], rfl, noC_no _ (by unfold noC; simp)⟩ allm_nil)))))))
    show sortTF (.tup ((gapL n F).map bagD)) = _
    rw [sort_tup, sort_bags true (fun b hb e => by
      rcases List.mem_append.mp hb with h | h
      · have := H.len b h; rw [e] at this; simp at this
      · rw [List.mem_singleton.mp h] at e; cases e) (by unfold gapL; simp)]
    rw [show srtB (gapL n F) = gapL n F from isP_id lex_asym (gap_srt H)]
  have hi : ∀ x ∈ xs, Va.imm x = true := fun x hx => (all x hx).1
  obtain ⟨x, hx, r', o1, e1, hr'⟩ := hp r false xs hr (by rw [hxs]; simp) (by rw [hxs]; simp) hi
  obtain ⟨hxi, L, hs1, hL⟩ := all x hx
  refine ⟨famD L, r', ?_, hr', hL⟩
  have a1 : addF (famD F) (.tup [.tup [.int (n + 1), .int (n + 2)]]) = some (famD (gapL n F)) := by
    rw [show famD F = .tup (F.map bagD) from rfl, add_tup (by simp; omega)]
    unfold gapL famD
    rw [List.map_append]
    rfl
  have hri := hr.imm
  have ig : Va.imm (famD (gapL n F)) = true := rfl
  have iF : Va.imm (famD F) = true := rfl
  have fg : frz (famD (gapL n F)) = famD (gapL n F) := rfl
  unfold f__law_no_family m__law_no_family
  rw [hxs] at e1
  generalize famD (gapL n F) = G at *
  have t1 : tupcF (.lst true (L.map bagD)) = some (famD L) := by
    show (match (L.map bagD).all Va.imm with | true => some (D.tup (L.map bagD)) | false => none) = _
    rw [bags_imm]
    rfl
  generalize famD L = W at *
  generalize L.map bagD = W1 at *
  generalize famD F = FF at *
  have a2 : addF (.lst true [famD [[0, 1], [2, 3]], famD [[0, 1], [0, 2], [1, 2]], famD [[0, 1, 2], [0, 1, 3]], famD [[1, 2]], famD [[0, 2]], famD [[0, 1], [1, 2], [2, 3], [0, 3]]]) (.lst true [G, famD [[0, 1], [0, 1, 2]]]) = some (.lst true [famD [[0, 1], [2, 3]], famD [[0, 1], [0, 2], [1, 2]], famD [[0, 1, 2], [0, 1, 3]], famD [[1, 2]], famD [[0, 2]], famD [[0, 1], [1, 2], [2, 3], [0, 3]], G, famD [[0, 1], [0, 1, 2]]]) := add_lst rfl (by simp [ig]) (by simp)
  refine runD_retR (s := [some r', some FF, some (.int n), some (.lst true [famD [[0, 1], [2, 3]], famD [[0, 1], [0, 2], [1, 2]], famD [[0, 1, 2], [0, 1, 3]], famD [[1, 2]], famD [[0, 2]], famD [[0, 1], [1, 2], [2, 3], [0, 3]]])]) rfl ((seqR (s := [some r, some FF, some (.int n), none]) ?_).trans ((seqR (s := [some r, some FF, some (.int n), some (.lst true [famD [[0, 1], [2, 3]], famD [[0, 1], [0, 2], [1, 2]], famD [[0, 1, 2], [0, 1, 3]], famD [[1, 2]], famD [[0, 2]], famD [[0, 1], [1, 2], [2, 3], [0, 3]]])]) ?_).trans ?_)) rfl
  · simp [e0, iF]
  · simp [famD, bagD]
  · simp only [famD, bagD, List.map_cons, List.map_nil] at a2 e1
    simp [famD, bagD, a1, a2, e1, hri, frz_lst, frz, frzL, fg, hs1, t1]
theorem xb_good {n : Int} {F : List Bag} (H : Fam n F) : X_need_bags [famD F] = none := by
  have hl := H.len_le
  have hne : eqcF (famD F) (.tup []) = some (.bl false) := eqt_ne (by simpa using H.ne H.n2) (shp_fam59 _)
  have hr := ris_bags F (by omega)
  rw [pairsB_up H.srt] at hr
  have e : mLc (mItems (mVar 0)) (.n 1) mYes (mCall F_is_bag (mCons (mTake 1) mNil) [some 1]) [1] [some (famD F), none] = some (.lst true ((F.map bagD).map fun _ => .bl true), [some (famD F), none]) := by
    have hi := fam_item H
    rw [mLc_m (ds := F.map bagD) (s := [some (famD F), none]) (st0 := [some (famD F), none]) (fun d => .bl true) (by simp) (by simp) (by rw [LN_eq', List.length_map]; omega) (by simp) fun d hd => by
      obtain ⟨h1, h2⟩ := hi d hd
      refine ⟨_, [some (famD F), some d], by simp; rfl, by simp [h1, h2], by simp⟩]
    rfl
  unfold X_need_bags g_need_bags x_need_bags
  simp [runX, hne, e, all_true, hr, -List.map_map]
theorem xf_good {n : Int} {F : List Bag} (H : Fam n F) : X_need_family [famD F] = none := by
  have h1 := xb_good H
  have h2 := q_need_bags H
  have h3 := q_bar_of H
  have h4 : nisF .non .non = some (.bl false) := rfl
  unfold X_need_family g_need_family x_need_family
  simp [runX, h1, h2, h3, h4]
theorem xd_good {n x : Int} {F : List Bag} (H : Fam n F) (h1 : 0 ≤ x) (h2 : x < n) : X_need_bead [famD F, .int x] = none := by
  have e := @q_is_in x 0 (n - 1) h1 (by omega)
  have e2 := q_size_of H
  unfold X_need_bead g_need_bead x_need_bead
  simp [runX, e, e2]
end Pl
namespace K53
open PySem PySem.Spec PyProof.Rows L2 Va
def sig : List (Str × Nat) := [(("is_int" : Str), 1), (("is_in" : Str), 3), (("need_number" : Str), 3), (("is_rising" : Str), 1), (("is_bag" : Str), 1), (("need_bags" : Str), 1), (("size_of" : Str), 1), (("shared_by" : Str), 2), (("homes_of" : Str), 1), (("reached_from" : Str), 3), (("bar_of" : Str), 1), (("ring_of" : Str), 2), (("need_family" : Str), 1), (("need_few" : Str), 2), (("need_bead" : Str), 2), (("poured_at" : Str), 3), (("pairs_of" : Str), 1), (("common" : Str), 2), (("lowered" : Str), 2), (("plus" : Str), 2), (("after" : Str), 2), (("need_blind" : Str), 2), (("chances" : Str), 2), (("are_together" : Str), 3), (("together_chance" : Str), 4), (("mean_wait" : Str), 3), (("mean_greatest" : Str), 2), (("likeliest" : Str), 2), (("last_pair" : Str), 1), (("_law_taken" : Str), 2), (("_law_pick" : Str), 2), (("_law_mixed" : Str), 2), (("_law_named" : Str), 2), (("_law_family" : Str), 2), (("_law_size" : Str), 1), (("_law_wrong_bags" : Str), 2), (("_law_no_family" : Str), 2), (("_law_error" : Str), 1), (("law" : Str), 1)]
def N_is_int : List Str := ["value"]
def ro_is_int : Nat → Bool := fun i => ([true] : List Bool).getD i false
def e_is_int : Ent := ⟨d_is_int, N_is_int, ["value"], ro_is_int, fun ρ =>  Pl.m_is_int⟩
theorem ss_is_int (ρ : Nat → Fn) : SS { N := N_is_int, sc := defScope (top 9) } (Phi sig bs gis ρ) ro_is_int (defBody (top 9)) (Pl.m_is_int) :=
  (ss_one (s_ret ((sv_and (sv_e (se_isi (T := .int) (so_v 0) rfl (fun g h => h.bl 0 _ rfl) (fun g h => h.bl 1 _ rfl))) (sv_and1 (sv_not (sv_e (se_isi (T := .bool) (so_v 0) rfl (fun g h => h.bl 0 _ rfl) (fun g h => h.bl 2 _ rfl)))))))))
theorem k_is_int : Ent.Ok sig bs gis e_is_int := ⟨rfl, rfl, rfl, ⟨rfl, rfl, rfl, by decide +kernel, rfl, by decide +kernel, by decide +kernel⟩, by decide, fun _ _ _ _ _ _ us hl => (match us, hl with | [_], _ => rfl), ss_is_int⟩
def N_is_in : List Str := ["value", "least", "most"]
def ro_is_in : Nat → Bool := fun i => ([true, true, true] : List Bool).getD i false
def e_is_in : Ent := ⟨d_is_in, N_is_in, ["value", "least", "most"], ro_is_in, fun ρ =>  Pl.m_is_in (ρ 0)⟩
theorem ss_is_in (ρ : Nat → Fn) : SS { N := N_is_in, sc := defScope (top 10) } (Phi sig bs gis ρ) ro_is_in (defBody (top 10)) (Pl.m_is_in (ρ 0)) :=
  (ss_one (s_ret ((sv_and (sv_e (se_call (fun g h => h.fn 0 _ rfl) (sl_v 0 sl_nil))) (sv_and1 (sv_e (se_chain (so_v 1) (so_v 0) (so_v 2))))))))
theorem k_is_in : Ent.Ok sig bs gis e_is_in := ⟨rfl, rfl, rfl, ⟨rfl, rfl, rfl, by decide +kernel, rfl, by decide +kernel, by decide +kernel⟩, by decide, fun _ _ _ _ _ _ us hl => (match us, hl with | [_, _, _], _ => rfl), ss_is_in⟩
def N_need_number : List Str := ["value", "least", "most"]
def ro_need_number : Nat → Bool := fun i => ([true, true, true] : List Bool).getD i false
def e_need_number : Ent := ⟨d_need_number, N_need_number, ["value", "least", "most"], ro_need_number, fun ρ =>  Pl.m_need_number (ρ 1)⟩
theorem ss_need_number (ρ : Nat → Fn) : SS { N := N_need_number, sc := defScope (top 11) } (Phi sig bs gis ρ) ro_need_number (defBody (top 11)) (Pl.m_need_number (ρ 1)) :=
  (ss_one (s_if (st_not (st_tru (se_call (fun g h => h.fn 1 _ rfl) (sl_v 0 (sl_v 1 (sl_v 2 sl_nil)))))) (ss_one (s_no)) ss_nil))
theorem k_need_number : Ent.Ok sig bs gis e_need_number := ⟨rfl, rfl, rfl, ⟨rfl, rfl, rfl, by decide +kernel, rfl, by decide +kernel, by decide +kernel⟩, by decide, fun _ _ _ _ _ _ us hl => (match us, hl with | [_, _, _], _ => rfl), ss_need_number⟩
theorem sx_need_number (ρ : Nat → Fn) (ρX : Nat → FX) : SX { N := N_need_number, sc := defScope (top 11) } (PhiX sig bs gis xs ρ ρX) (defBody (top 11)) (Pl.x_need_number (ρ 1)) :=
  (sx_head (sx_if (st_not (st_tru (se_call (fun g h => h.fn 1 _ rfl) (sl_v 0 (sl_v 1 (sl_v 2 sl_nil)))))) (sx_head (sx_raise (fun g h => h.exc 0 _ rfl))) sx_no))
def N_is_rising : List Str := ["value", "one", "other"]
def ro_is_rising : Nat → Bool := fun i => ([true] : List Bool).getD i false
def e_is_rising : Ent := ⟨d_is_rising, N_is_rising, ["value"], ro_is_rising, fun ρ =>  Pl.m_is_rising⟩
theorem ss_is_rising (ρ : Nat → Fn) : SS { N := N_is_rising, sc := defScope (top 12) } (Phi sig bs gis ρ) ro_is_rising (defBody (top 12)) (Pl.m_is_rising) :=
  (ss_one (s_ret (se_b1 (fun _ _ hc => b_all hc) boot_all (fun g h => h.bl 4 _ rfl) (so_e (se_lc (own := [("one", 1), ("other", 2)]) (by decide +kernel) (si_zip (sa_cons (se_var 0) (sa_cons (se_sl (so_v 0) (sp_some (se_int)) sp_none) sa_nil)) (fun g h => h.bl 3 _ rfl)) (sg_t (sgs_cons 1 (sgs_cons 2 sgs_nil))) sts_nil (se_cmp (so_v 1) (so_v 2)))))))
theorem k_is_rising : Ent.Ok sig bs gis e_is_rising := ⟨rfl, rfl, rfl, ⟨rfl, rfl, rfl, by decide +kernel, rfl, by decide +kernel, by decide +kernel⟩, by decide, fun _ _ _ _ _ _ us hl => (match us, hl with | [_], _ => rfl), ss_is_rising⟩
def N_is_bag : List Str := ["value", "bead"]
def ro_is_bag : Nat → Bool := fun i => ([true] : List Bool).getD i false
def e_is_bag : Ent := ⟨d_is_bag, N_is_bag, ["value"], ro_is_bag, fun ρ =>  Pl.m_is_bag (ρ 1) (ρ 3)⟩
theorem ss_is_bag (ρ : Nat → Fn) : SS { N := N_is_bag, sc := defScope (top 13) } (Phi sig bs gis ρ) ro_is_bag (defBody (top 13)) (Pl.m_is_bag (ρ 1) (ρ 3)) :=
  (ss_cons (s_if (SW.st (sw_or (st_not (st_tru (se_isi (T := .tuple) (so_v 0) rfl (fun g h => h.bl 0 _ rfl) (fun g h => h.bl 5 _ rfl)))) (sw_or1 (st_cmp (so_e (se_b1 (fun _ _ _ => b_len) boot_len (fun g h => h.bl 6 _ rfl) (so_v 0))) (so_e (se_int)))))) (ss_one (s_ret (se_bl))) ss_nil)
    (ss_one (s_ret ((sv_and (sv_e (se_b1 (fun _ _ hc => b_all hc) boot_all (fun g h => h.bl 4 _ rfl) (so_e (se_lc (own := [("bead", 1)]) (by decide +kernel) (si_e (se_var 0)) (sg_n 1) sts_nil (se_call (fun g h => h.fn 1 _ rfl) (sl_v 1 (sl_e (se_int) (sl_e (se_sub (so_e (se_gint (fun X o => o.phi.int 0 _ rfl rfl) rfl)) (so_e (se_int))) sl_nil)))))))) (sv_and1 (sv_e (se_call (fun g h => h.fn 3 _ rfl) (sl_v 0 sl_nil)))))))))
theorem k_is_bag : Ent.Ok sig bs gis e_is_bag := ⟨rfl, rfl, rfl, ⟨rfl, rfl, rfl, by decide +kernel, rfl, by decide +kernel, by decide +kernel⟩, by decide, fun _ _ _ _ _ _ us hl => (match us, hl with | [_], _ => rfl), ss_is_bag⟩
def N_need_bags : List Str := ["value", "bag"]
def ro_need_bags : Nat → Bool := fun i => ([true] : List Bool).getD i false
def e_need_bags : Ent := ⟨d_need_bags, N_need_bags, ["value"], ro_need_bags, fun ρ =>  Pl.m_need_bags (ρ 4) (ρ 3)⟩
theorem ss_need_bags (ρ : Nat → Fn) : SS { N := N_need_bags, sc := defScope (top 14) } (Phi sig bs gis ρ) ro_need_bags (defBody (top 14)) (Pl.m_need_bags (ρ 4) (ρ 3)) :=
  (ss_cons (s_if (SW.st (sw_or (st_not (st_tru (se_isi (T := .tuple) (so_v 0) rfl (fun g h => h.bl 0 _ rfl) (fun g h => h.bl 5 _ rfl)))) (sw_or (st_cmp (so_v 0) (so_e (se_tup sa_nil))) (sw_or1 (st_not (st_tru (se_b1 (fun _ _ hc => b_all hc) boot_all (fun g h => h.bl 4 _ rfl) (so_e (se_lc (own := [("bag", 1)]) (by decide +kernel) (si_e (se_var 0)) (sg_n 1) sts_nil (se_call (fun g h => h.fn 4 _ rfl) (sl_v 1 sl_nil))))))))))) (ss_one (s_no)) ss_nil)
    (ss_one (s_if (st_not (st_tru (se_call (fun g h => h.fn 3 _ rfl) (sl_v 0 sl_nil)))) (ss_one (s_no)) ss_nil)))
theorem k_need_bags : Ent.Ok sig bs gis e_need_bags := ⟨rfl, rfl, rfl, ⟨rfl, rfl, rfl, by decide +kernel, rfl, by decide +kernel, by decide +kernel⟩, by decide, fun _ _ _ _ _ _ us hl => (match us, hl with | [_], _ => rfl), ss_need_bags⟩
theorem sx_need_bags (ρ : Nat → Fn) (ρX : Nat → FX) : SX { N := N_need_bags, sc := defScope (top 14) } (PhiX sig bs gis xs ρ ρX) (defBody (top 14)) (Pl.x_need_bags (ρ 4) (ρ 3)) :=
  (sx_or (sx_head (sx_if (SW.st (sw_or (st_not (st_tru (se_isi (T := .tuple) (so_v 0) rfl (fun g h => h.bl 0 _ rfl) (fun g h => h.bl 5 _ rfl)))) (sw_or (st_cmp (so_v 0) (so_e (se_tup sa_nil))) (sw_or1 (st_not (st_tru (se_b1 (fun _ _ hc => b_all hc) boot_all (fun g h => h.bl 4 _ rfl) (so_e (se_lc (own := [("bag", 1)]) (by decide +kernel) (si_e (se_var 0)) (sg_n 1) sts_nil (se_call (fun g h => h.fn 4 _ rfl) (sl_v 1 sl_nil))))))))))) (sx_head (sx_raise (fun g h => h.exc 1 _ rfl))) sx_no))
    (sx_tail (RO := ro_need_bags) (s_if (SW.st (sw_or (st_not (st_tru (se_isi (T := .tuple) (so_v 0) rfl (fun g h => h.bl 0 _ rfl) (fun g h => h.bl 5 _ rfl)))) (sw_or (st_cmp (so_v 0) (so_e (se_tup sa_nil))) (sw_or1 (st_not (st_tru (se_b1 (fun _ _ hc => b_all hc) boot_all (fun g h => h.bl 4 _ rfl) (so_e (se_lc (own := [("bag", 1)]) (by decide +kernel) (si_e (se_var 0)) (sg_n 1) sts_nil (se_call (fun g h => h.fn 4 _ rfl) (sl_v 1 sl_nil))))))))))) (ss_one (s_no)) ss_nil) (sx_head (sx_if (st_not (st_tru (se_call (fun g h => h.fn 3 _ rfl) (sl_v 0 sl_nil)))) (sx_head (sx_raise (fun g h => h.exc 1 _ rfl))) sx_no))))
def N_size_of : List Str := ["bags", "bag"]
def ro_size_of : Nat → Bool := fun i => ([true] : List Bool).getD i false
def e_size_of : Ent := ⟨d_size_of, N_size_of, ["bags"], ro_size_of, fun ρ =>  Pl.m_size_of⟩
theorem ss_size_of (ρ : Nat → Fn) : SS { N := N_size_of, sc := defScope (top 15) } (Phi sig bs gis ρ) ro_size_of (defBody (top 15)) (Pl.m_size_of) :=
  (ss_one (s_ret (se_add (so_e (se_int)) (so_e (se_b1 (fun _ _ hc => b_max hc) boot_max (fun g h => h.bl 7 _ rfl) (so_e (se_lc (own := [("bag", 1)]) (by decide +kernel) (si_e (se_var 0)) (sg_n 1) sts_nil (se_ix (so_v 1) (so_e (se_neg (so_e (se_int))))))))))))
theorem k_size_of : Ent.Ok sig bs gis e_size_of := ⟨rfl, rfl, rfl, ⟨rfl, rfl, rfl, by decide +kernel, rfl, by decide +kernel, by decide +kernel⟩, by decide, fun _ _ _ _ _ _ us hl => (match us, hl with | [_], _ => rfl), ss_size_of⟩
def N_shared_by : List Str := ["one", "other", "told", "bead"]
def ro_shared_by : Nat → Bool := fun i => ([true, true] : List Bool).getD i false
def e_shared_by : Ent := ⟨d_shared_by, N_shared_by, ["one", "other"], ro_shared_by, fun ρ =>  Pl.m_shared_by⟩
theorem ss_shared_by (ρ : Nat → Fn) : SS { N := N_shared_by, sc := defScope (top 16) } (Phi sig bs gis ρ) ro_shared_by (defBody (top 16)) (Pl.m_shared_by) :=
  (ss_cons (s_setN 2 (se_dc (own := [("bead", 3)]) (by decide +kernel) (si_e (se_var 1)) (sg_n 3) sts_nil (se_var 3) (se_bl)))
    (ss_one (s_ret (se_lc (own := [("bead", 3)]) (by decide +kernel) (si_e (se_var 0)) (sg_n 3) (sts_one (st_cmp (so_v 3) (so_v 2))) (se_var 3)))))
theorem k_shared_by : Ent.Ok sig bs gis e_shared_by := ⟨rfl, rfl, rfl, ⟨rfl, rfl, rfl, by decide +kernel, rfl, by decide +kernel, by decide +kernel⟩, by decide, fun _ _ _ _ _ _ us hl => (match us, hl with | [_, _], _ => rfl), ss_shared_by⟩
def N_homes_of : List Str := ["bags", "found", "index", "bag", "bead"]
def ro_homes_of : Nat → Bool := fun i => ([true] : List Bool).getD i false
def e_homes_of : Ent := ⟨d_homes_of, N_homes_of, ["bags"], ro_homes_of, fun ρ =>  Pl.m_homes_of (ρ 6)⟩
theorem ss_homes_of (ρ : Nat → Fn) : SS { N := N_homes_of, sc := defScope (top 17) } (Phi sig bs gis ρ) ro_homes_of (defBody (top 17)) (Pl.m_homes_of (ρ 6)) :=
  (ss_cons (s_setLc 1 (own := [("bead", 4)]) (by decide +kernel) (si_rg1 (se_call (fun g h => h.fn 6 _ rfl) (sl_v 0 sl_nil)) (fun g h => h.bl 8 _ rfl)) (sg_n 4) sts_nil (se_lst sa_nil))
    (ss_cons (s_for (si_enum (se_var 0) (fun g h => h.bl 9 _ rfl)) (sg_t (sgs_cons 2 (sgs_cons 3 sgs_nil))) (ss_one (s_for (si_e (se_var 3)) (sg_n 4) (ss_one (s_expr (se_app2 1 (se_var 4) (sat_v 2)))))))
    (ss_one (s_retV 1))))
theorem k_homes_of : Ent.Ok sig bs gis e_homes_of := ⟨rfl, rfl, rfl, ⟨rfl, rfl, rfl, by decide +kernel, rfl, by decide +kernel, by decide +kernel⟩, by decide, fun _ _ _ _ _ _ us hl => (match us, hl with | [_], _ => rfl), ss_homes_of⟩
def N_reached_from : List Str := ["bags", "homes", "first", "found", "rim", "bead", "index"]
def ro_reached_from : Nat → Bool := fun i => ([true, true, true] : List Bool).getD i false
def e_reached_from : Ent := ⟨d_reached_from, N_reached_from, ["bags", "homes", "first"], ro_reached_from, fun ρ =>  Pl.m_reached_from⟩
theorem ss_reached_from (ρ : Nat → Fn) : SS { N := N_reached_from, sc := defScope (top 18) } (Phi sig bs gis ρ) ro_reached_from (defBody (top 18)) (Pl.m_reached_from) :=
  (ss_cons (s_set2 3 4 (sa_cons (se_dict1 (se_var 2) (se_bl)) (sa_cons (se_lst (sa_cons (se_var 2) sa_nil)) sa_nil)))
    (ss_cons (s_while 100000 (st_cmp (so_v 4) (so_e (se_lst sa_nil))) (ss_one (s_for (si_e (se_ix (so_v 0) (so_e (se_pop 4)))) (sg_n 5) (ss_one (s_for (si_e (se_ix (so_v 1) (so_v 5))) (sg_n 6) (ss_one (s_if (st_cmp (so_v 6) (so_v 3)) (ss_cons (s_store 3 (se_bl) (se_var 6))
    (ss_one (s_expr (se_app 4 (se_var 6))))) ss_nil)))))))
    (ss_one (s_retV 3))))
theorem k_reached_from : Ent.Ok sig bs gis e_reached_from := ⟨rfl, rfl, rfl, ⟨rfl, rfl, rfl, by decide +kernel, rfl, by decide +kernel, by decide +kernel⟩, by decide, fun _ _ _ _ _ _ us hl => (match us, hl with | [_, _, _], _ => rfl), ss_reached_from⟩
def N_bar_of : List Str := ["bags", "homes", "bead", "told", "at", "one", "spot", "bag"]
def ro_bar_of : Nat → Bool := fun i => ([true] : List Bool).getD i false
def e_bar_of : Ent := ⟨d_bar_of, N_bar_of, ["bags"], ro_bar_of, fun ρ =>  Pl.m_bar_of (ρ 8) (ρ 7) (ρ 9) (ρ 11)⟩
theorem ss_bar_of (ρ : Nat → Fn) : SS { N := N_bar_of, sc := defScope (top 19) } (Phi sig bs gis ρ) ro_bar_of (defBody (top 19)) (Pl.m_bar_of (ρ 8) (ρ 7) (ρ 9) (ρ 11)) :=
  (ss_cons (s_set 1 (se_call (fun g h => h.fn 8 _ rfl) (sl_v 0 sl_nil)))
    (ss_cons (s_for (si_enum (se_var 1) (fun g h => h.bl 9 _ rfl)) (sg_t (sgs_cons 2 (sgs_cons 3 sgs_nil))) (ss_one (s_if (st_cmp (so_v 3) (so_e (se_lst sa_nil))) (ss_one (s_ret (se_tup (sa_cons (se_str) (sa_cons (se_var 2) sa_nil))))) ss_nil)))
    (ss_cons (s_for (si_enum (se_var 0) (fun g h => h.bl 9 _ rfl)) (sg_t (sgs_cons 4 (sgs_cons 5 sgs_nil))) (ss_one (s_for (si_rg1 (se_var 4) (fun g h => h.bl 8 _ rfl)) (sg_n 6) (ss_one (s_if (st_cmp (so_e (se_b1 (fun _ _ _ => b_len) boot_len (fun g h => h.bl 6 _ rfl) (so_e (se_call (fun g h => h.fn 7 _ rfl) (sl_e (se_ix (so_v 0) (so_v 6)) (sl_v 5 sl_nil)))))) (so_e (se_int))) (ss_one (s_ret (se_tup (sa_cons (se_str) (sa_cons (se_var 6) (sa_cons (se_var 4) sa_nil)))))) ss_nil)))))
    (ss_cons (s_if (st_cmp (so_e (se_b1 (fun _ _ _ => b_len) boot_len (fun g h => h.bl 6 _ rfl) (so_e (se_call (fun g h => h.fn 9 _ rfl) (sl_v 0 (sl_v 1 (sl_e (se_int) sl_nil))))))) (so_e (se_b1 (fun _ _ _ => b_len) boot_len (fun g h => h.bl 6 _ rfl) (so_v 0)))) (ss_one (s_ret (se_tup (sa_cons (se_str) (sa_cons (se_t1 (fun _ _ _ => b_tuple) boot_tuple (fun g h => h.bl 5 _ rfl) (so_e (se_b1 (fun _ _ hc => b_sortK hc) boot_sorted (fun g h => h.bl 10 _ rfl) (so_e (se_call (fun g h => h.fn 9 _ rfl) (sl_v 0 (sl_v 1 (sl_e (se_int) sl_nil)))))))) sa_nil))))) ss_nil)
    (ss_cons (s_if (st_cmp (so_e (se_b1 (fun _ _ hc => b_sum hc) boot_sum (fun g h => h.bl 11 _ rfl) (so_e (se_lc (own := [("bag", 7)]) (by decide +kernel) (si_e (se_var 0)) (sg_n 7) sts_nil (se_sub (so_e (se_b1 (fun _ _ _ => b_len) boot_len (fun g h => h.bl 6 _ rfl) (so_v 7))) (so_e (se_int))))))) (so_e (se_sub (so_e (se_b1 (fun _ _ _ => b_len) boot_len (fun g h => h.bl 6 _ rfl) (so_v 1))) (so_e (se_int))))) (ss_one (s_ret (se_tup (sa_cons (se_str) (sa_cons (se_t1 (fun _ _ _ => b_tuple) boot_tuple (fun g h => h.bl 5 _ rfl) (so_e (se_call (fun g h => h.fn 11 _ rfl) (sl_v 0 (sl_v 1 sl_nil))))) sa_nil))))) ss_nil)
    (ss_one (s_ret (se_non))))))))
theorem k_bar_of : Ent.Ok sig bs gis e_bar_of := ⟨rfl, rfl, rfl, ⟨rfl, rfl, rfl, by decide +kernel, rfl, by decide +kernel, by decide +kernel⟩, by decide, fun _ _ _ _ _ _ us hl => (match us, hl with | [_], _ => rfl), ss_bar_of⟩
def N_ring_of : List Str := ["bags", "homes", "left", "is_going", "index", "ties", "bead", "other"]
def ro_ring_of : Nat → Bool := fun i => ([true, true] : List Bool).getD i false
def e_ring_of : Ent := ⟨d_ring_of, N_ring_of, ["bags", "homes"], ro_ring_of, fun ρ =>  Pl.m_ring_of⟩
theorem ss_ring_of (ρ : Nat → Fn) : SS { N := N_ring_of, sc := defScope (top 20) } (Phi sig bs gis ρ) ro_ring_of (defBody (top 20)) (Pl.m_ring_of) :=
  (ss_cons (s_setN 2 (se_dc (own := [("index", 4)]) (by decide +kernel) (si_rg1 (se_b1 (fun _ _ _ => b_len) boot_len (fun g h => h.bl 6 _ rfl) (so_v 0)) (fun g h => h.bl 8 _ rfl)) (sg_n 4) sts_nil (se_var 4) (se_bl)))
    (ss_cons (s_set 3 (se_bl))
    (ss_cons (s_while 100000 (st_tru (se_var 3)) (ss_cons (s_set 3 (se_bl))
    (ss_one (s_for (si_e (se_b1 (fun _ _ hc => b_sortK hc) boot_sorted (fun g h => h.bl 10 _ rfl) (so_v 2))) (sg_n 4) (ss_cons (s_setLc 5 (own := [("bead", 6)]) (by decide +kernel) (si_e (se_ix (so_v 0) (so_v 4))) (sg_n 6) (sts_one (st_cmp (so_e (se_b1 (fun _ _ _ => b_len) boot_len (fun g h => h.bl 6 _ rfl) (so_e (se_lc (own := [("other", 7)]) (by decide +kernel) (si_e (se_ix (so_v 1) (so_v 6))) (sg_n 7) (sts_one (st_cmp (so_v 7) (so_v 2))) (se_int))))) (so_e (se_int)))) (se_var 6))
    (ss_one (s_if (SW.st (sw_and (st_cmp (so_e (se_b1 (fun _ _ _ => b_len) boot_len (fun g h => h.bl 6 _ rfl) (so_v 5))) (so_e (se_int))) (sw_and1 (st_cmp (so_e (se_b1 (fun _ _ _ => b_len) boot_len (fun g h => h.bl 6 _ rfl) (so_v 2))) (so_e (se_int)))))) (ss_cons (s_del 2 (se_var 4))
    (ss_one (s_set 3 (se_bl)))) ss_nil)))))))
    (ss_one (s_ret (se_b1 (fun _ _ hc => b_sortK hc) boot_sorted (fun g h => h.bl 10 _ rfl) (so_v 2)))))))
theorem k_ring_of : Ent.Ok sig bs gis e_ring_of := ⟨rfl, rfl, rfl, ⟨rfl, rfl, rfl, by decide +kernel, rfl, by decide +kernel, by decide +kernel⟩, by decide, fun _ _ _ _ _ _ us hl => (match us, hl with | [_, _], _ => rfl), ss_ring_of⟩
def N_need_family : List Str := ["value"]
def ro_need_family : Nat → Bool := fun i => ([true] : List Bool).getD i false
def e_need_family : Ent := ⟨d_need_family, N_need_family, ["value"], ro_need_family, fun ρ =>  Pl.m_need_family (ρ 5) (ρ 10)⟩
theorem ss_need_family (ρ : Nat → Fn) : SS { N := N_need_family, sc := defScope (top 21) } (Phi sig bs gis ρ) ro_need_family (defBody (top 21)) (Pl.m_need_family (ρ 5) (ρ 10)) :=
  (ss_cons (s_expr (se_call (fun g h => h.fn 5 _ rfl) (sl_v 0 sl_nil)))
    (ss_one (s_if (st_cmp (so_e (se_call (fun g h => h.fn 10 _ rfl) (sl_v 0 sl_nil))) (so_e (se_non))) (ss_one (s_no)) ss_nil)))
theorem k_need_family : Ent.Ok sig bs gis e_need_family := ⟨rfl, rfl, rfl, ⟨rfl, rfl, rfl, by decide +kernel, rfl, by decide +kernel, by decide +kernel⟩, by decide, fun _ _ _ _ _ _ us hl => (match us, hl with | [_], _ => rfl), ss_need_family⟩
theorem sx_need_family (ρ : Nat → Fn) (ρX : Nat → FX) : SX { N := N_need_family, sc := defScope (top 21) } (PhiX sig bs gis xs ρ ρX) (defBody (top 21)) (Pl.x_need_family (ρ 10) (ρ 5) (ρX 5)) :=
  (sx_or (sx_head (sx_expr (sxe_call (fun g h => h.fnX 5 _ rfl) (sl_v 0 sl_nil))))
    (sx_tail (RO := ro_need_family) (s_expr (se_call (fun g h => h.fn 5 _ rfl) (sl_v 0 sl_nil))) (sx_head (sx_if (st_cmp (so_e (se_call (fun g h => h.fn 10 _ rfl) (sl_v 0 sl_nil))) (so_e (se_non))) (sx_head (sx_raise (fun g h => h.exc 2 _ rfl))) sx_no))))
def N_need_few : List Str := ["family", "most"]
def ro_need_few : Nat → Bool := fun i => ([true, true] : List Bool).getD i false
def m_need_few (c_need_family : Fn) : M Fl := (mSeq (mDo (mCall c_need_family (mCons (mTake 0) mNil) [some 0])) (mIf (mB (m2 (.e (m1 (.v 0) lenF)) (.v 1) (cmpF .Gt))) (fun _ => none) mNx))
def f_need_few (c_need_family : Fn) : Fn := runD 2 2 (fun i => ([true, true] : List Bool).getD i false) (m_need_few c_need_family)
def e_need_few : Ent := ⟨d_need_few, N_need_few, ["family", "most"], ro_need_few, fun ρ =>  m_need_few (ρ 12)⟩
theorem ss_need_few (ρ : Nat → Fn) : SS { N := N_need_few, sc := defScope (top 22) } (Phi sig bs gis ρ) ro_need_few (defBody (top 22)) (m_need_few (ρ 12)) :=
  (ss_cons (s_expr (se_call (fun g h => h.fn 12 _ rfl) (sl_v 0 sl_nil)))
    (ss_one (s_if (st_cmp (so_e (se_b1 (fun _ _ _ => b_len) boot_len (fun g h => h.bl 6 _ rfl) (so_v 0))) (so_v 1)) (ss_one (s_no)) ss_nil)))
theorem k_need_few : Ent.Ok sig bs gis e_need_few := ⟨rfl, rfl, rfl, ⟨rfl, rfl, rfl, by decide +kernel, rfl, by decide +kernel, by decide +kernel⟩, by decide, fun _ _ _ _ _ _ us hl => (match us, hl with | [_, _], _ => rfl), ss_need_few⟩
def x_need_few (c_need_family : Fn) (x_need_family : FX) : MX := (xOr (xCall x_need_family (mCons (mTake 0) mNil)) (xTail (mDo (mCall c_need_family (mCons (mTake 0) mNil) [some 0])) (xIf (mB (m2 (.e (m1 (.v 0) lenF)) (.v 1) (cmpF .Gt))) (xRaiseF "TooGreat" (mVar 1)) xNo)))
def g_need_few (c_need_family : Fn) (x_need_family : FX) : FX := runX 2 2 (x_need_few c_need_family x_need_family)
theorem sx_need_few (ρ : Nat → Fn) (ρX : Nat → FX) : SX { N := N_need_few, sc := defScope (top 22) } (PhiX sig bs gis xs ρ ρX) (defBody (top 22)) (x_need_few (ρ 12) (ρX 12)) :=
  (sx_or (sx_head (sx_expr (sxe_call (fun g h => h.fnX 12 _ rfl) (sl_v 0 sl_nil))))
    (sx_tail (RO := ro_need_few) (s_expr (se_call (fun g h => h.fn 12 _ rfl) (sl_v 0 sl_nil))) (sx_head (sx_if (st_cmp (so_e (se_b1 (fun _ _ _ => b_len) boot_len (fun g h => h.bl 6 _ rfl) (so_v 0))) (so_v 1)) (sx_head (sx_raiseF (fun g h => h.exc 3 _ rfl) (se_var 1))) sx_no))))
def N_need_bead : List Str := ["family", "value"]
def ro_need_bead : Nat → Bool := fun i => ([true, true] : List Bool).getD i false
def e_need_bead : Ent := ⟨d_need_bead, N_need_bead, ["family", "value"], ro_need_bead, fun ρ =>  Pl.m_need_bead (ρ 6) (ρ 1)⟩
theorem ss_need_bead (ρ : Nat → Fn) : SS { N := N_need_bead, sc := defScope (top 23) } (Phi sig bs gis ρ) ro_need_bead (defBody (top 23)) (Pl.m_need_bead (ρ 6) (ρ 1)) :=
  (ss_one (s_if (st_not (st_tru (se_call (fun g h => h.fn 1 _ rfl) (sl_v 1 (sl_e (se_int) (sl_e (se_sub (so_e (se_call (fun g h => h.fn 6 _ rfl) (sl_v 0 sl_nil))) (so_e (se_int))) sl_nil)))))) (ss_one (s_no)) ss_nil))
theorem k_need_bead : Ent.Ok sig bs gis e_need_bead := ⟨rfl, rfl, rfl, ⟨rfl, rfl, rfl, by decide +kernel, rfl, by decide +kernel, by decide +kernel⟩, by decide, fun _ _ _ _ _ _ us hl => (match us, hl with | [_, _], _ => rfl), ss_need_bead⟩
theorem sx_need_bead (ρ : Nat → Fn) (ρX : Nat → FX) : SX { N := N_need_bead, sc := defScope (top 23) } (PhiX sig bs gis xs ρ ρX) (defBody (top 23)) (Pl.x_need_bead (ρ 6) (ρ 1)) :=
  (sx_head (sx_if (st_not (st_tru (se_call (fun g h => h.fn 1 _ rfl) (sl_v 1 (sl_e (se_int) (sl_e (se_sub (so_e (se_call (fun g h => h.fn 6 _ rfl) (sl_v 0 sl_nil))) (so_e (se_int))) sl_nil)))))) (sx_head (sx_raise (fun g h => h.exc 4 _ rfl))) sx_no))
def N_poured_at : List Str := ["family", "one", "other", "whole", "bead", "index", "bag"]
def ro_poured_at : Nat → Bool := fun i => ([true, true, true] : List Bool).getD i false
def m_poured_at : M Fl := (mSeq (mSet 3 (m1 (.e (m1 (.e (mDc (mItems (m2 (.e (m2 (.v 0) (.v 1) ixF)) (.e (m2 (.v 0) (.v 2) ixF)) addF)) (.n 4) mYes (mVar 4) (mC (.bl true)) [4])) sortKF)) tupcF)) (mRet (m1 (.e (m1 (.e (m2 (.e (mLc (mEnum (mVar 0)) (.t [5, 6]) (mB (m2 (.v 5) (.e (mTup (mCons (mVar 1) (mCons (mVar 2) mNil)))) (cmpF .NotIn))) (mVar 6) [5, 6])) (.e (mLst (mCons (mVar 3) mNil))) addF)) sortLF)) tupcF)))
def e_poured_at : Ent := ⟨d_poured_at, N_poured_at, ["family", "one", "other"], ro_poured_at, fun ρ =>  m_poured_at⟩
theorem ss_poured_at (ρ : Nat → Fn) : SS { N := N_poured_at, sc := defScope (top 24) } (Phi sig bs gis ρ) ro_poured_at (defBody (top 24)) (m_poured_at) :=
  (ss_cons (s_set 3 (se_t1 (fun _ _ _ => b_tuple) boot_tuple (fun g h => h.bl 5 _ rfl) (so_e (se_b1 (fun _ _ hc => b_sortK hc) boot_sorted (fun g h => h.bl 10 _ rfl) (so_e (se_dc (own := [("bead", 4)]) (by decide +kernel) (si_e (se_add (so_e (se_ix (so_v 0) (so_v 1))) (so_e (se_ix (so_v 0) (so_v 2))))) (sg_n 4) sts_nil (se_var 4) (se_bl)))))))
    (ss_one (s_ret (se_t1 (fun _ _ _ => b_tuple) boot_tuple (fun g h => h.bl 5 _ rfl) (so_e (se_b1 (fun _ hu _ => b_sorted hu) boot_sorted (fun g h => h.bl 10 _ rfl) (so_e (se_add (so_e (se_lc (own := [("index", 5), ("bag", 6)]) (by decide +kernel) (si_enum (se_var 0) (fun g h => h.bl 9 _ rfl)) (sg_t (sgs_cons 5 (sgs_cons 6 sgs_nil))) (sts_one (st_cmp (so_v 5) (so_e (se_tup (sa_cons (se_var 1) (sa_cons (se_var 2) sa_nil)))))) (se_var 6))) (so_e (se_lst (sa_cons (se_var 3) sa_nil)))))))))))
theorem k_poured_at : Ent.Ok sig bs gis e_poured_at := ⟨rfl, rfl, rfl, ⟨rfl, rfl, rfl, by decide +kernel, rfl, by decide +kernel, by decide +kernel⟩, by decide, fun _ _ _ _ _ _ us hl => (match us, hl with | [_, _, _], _ => rfl), ss_poured_at⟩
def N_pairs_of : List Str := ["family", "found", "told", "one", "other"]
def ro_pairs_of : Nat → Bool := fun i => ([true] : List Bool).getD i false
def m_pairs_of (c_homes_of : Fn) : M Fl := (mSeq (mSet 1 (mLst mNil)) (mSeq (mFor (mItems (mCall c_homes_of (mCons (mTake 0) mNil) [some 0])) (.n 2) (mSet 1 (m2 (.v 1) (.e (mLc2 (mItems (mVar 2)) (.n 3) mYes (mItems (mVar 2)) (.n 4) (mB (m2 (.v 3) (.v 4) (cmpF .Lt))) (mTup (mCons (mVar 3) (mCons (mVar 4) mNil))) [3, 4] [4])) addF))) (mRet (m1 (.v 1) sortLF))))
def e_pairs_of : Ent := ⟨d_pairs_of, N_pairs_of, ["family"], ro_pairs_of, fun ρ =>  m_pairs_of (ρ 8)⟩
theorem ss_pairs_of (ρ : Nat → Fn) : SS { N := N_pairs_of, sc := defScope (top 25) } (Phi sig bs gis ρ) ro_pairs_of (defBody (top 25)) (m_pairs_of (ρ 8)) :=
  (ss_cons (s_set 1 (se_lst sa_nil))
    (ss_cons (s_for (si_e (se_call (fun g h => h.fn 8 _ rfl) (sl_v 0 sl_nil))) (sg_n 2) (ss_one (s_set 1 (se_add (so_v 1) (so_e (se_lc2 (own := [("one", 3), ("other", 4)]) (vs1 := [4]) (by decide +kernel) (si_e (se_var 2)) (sg_n 3) sts_nil (si_e (se_var 2)) (sg_n 4) (sts_one (st_cmp (so_v 3) (so_v 4))) (se_tup (sa_cons (se_var 3) (sa_cons (se_var 4) sa_nil)))))))))
    (ss_one (s_ret (se_b1 (fun _ hu _ => b_sorted hu) boot_sorted (fun g h => h.bl 10 _ rfl) (so_v 1))))))
theorem k_pairs_of : Ent.Ok sig bs gis e_pairs_of := ⟨rfl, rfl, rfl, ⟨rfl, rfl, rfl, by decide +kernel, rfl, by decide +kernel, by decide +kernel⟩, by decide, fun _ _ _ _ _ _ us hl => (match us, hl with | [_], _ => rfl), ss_pairs_of⟩
def N_common : List Str := ["one", "other"]
def ro_common : Nat → Bool := fun i => ([false, false] : List Bool).getD i false
def e_common : Ent := ⟨d_common, N_common, ["one", "other"], ro_common, fun ρ =>  Pl.m_common⟩
theorem ss_common (ρ : Nat → Fn) : SS { N := N_common, sc := defScope (top 27) } (Phi sig bs gis ρ) ro_common (defBody (top 27)) (Pl.m_common) :=
  (ss_cons (s_while 100000 (st_cmp (so_v 1) (so_e (se_int))) (ss_one (s_set2 0 1 (sa_cons (se_var 1) (sa_cons (se_mod (so_v 0) (so_v 1)) sa_nil)))))
    (ss_one (s_ret (se_b1 (fun _ _ _ => b_abs) boot_abs (fun g h => h.bl 12 _ rfl) (so_v 0)))))
theorem k_common : Ent.Ok sig bs gis e_common := ⟨rfl, rfl, rfl, ⟨rfl, rfl, rfl, by decide +kernel, rfl, by decide +kernel, by decide +kernel⟩, by decide, fun _ _ _ _ _ _ us hl => (match us, hl with | [_, _], _ => rfl), ss_common⟩
def N_lowered : List Str := ["above", "low", "shared"]
def ro_lowered : Nat → Bool := fun i => ([true, true] : List Bool).getD i false
def e_lowered : Ent := ⟨d_lowered, N_lowered, ["above", "low"], ro_lowered, fun ρ =>  Pl.m_lowered (ρ 17)⟩
theorem ss_lowered (ρ : Nat → Fn) : SS { N := N_lowered, sc := defScope (top 28) } (Phi sig bs gis ρ) ro_lowered (defBody (top 28)) (Pl.m_lowered (ρ 17)) :=
  (ss_cons (s_set 2 (se_call (fun g h => h.fn 17 _ rfl) (sl_v 0 (sl_v 1 sl_nil))))
    (ss_one (s_ret (se_tup (sa_cons (se_fdiv (so_v 0) (so_v 2)) (sa_cons (se_fdiv (so_v 1) (so_v 2)) sa_nil))))))
theorem k_lowered : Ent.Ok sig bs gis e_lowered := ⟨rfl, rfl, rfl, ⟨rfl, rfl, rfl, by decide +kernel, rfl, by decide +kernel, by decide +kernel⟩, by decide, fun _ _ _ _ _ _ us hl => (match us, hl with | [_, _], _ => rfl), ss_lowered⟩
def N_plus : List Str := ["one", "other"]
def ro_plus : Nat → Bool := fun i => ([true, true] : List Bool).getD i false
def e_plus : Ent := ⟨d_plus, N_plus, ["one", "other"], ro_plus, fun ρ =>  Pl.m_plus (ρ 18)⟩
theorem ss_plus (ρ : Nat → Fn) : SS { N := N_plus, sc := defScope (top 31) } (Phi sig bs gis ρ) ro_plus (defBody (top 31)) (Pl.m_plus (ρ 18)) :=
  (ss_one (s_ret (se_call (fun g h => h.fn 18 _ rfl) (sl_e (se_add (so_e (se_mul (so_e (se_ix (so_v 0) (so_e (se_int)))) (so_e (se_ix (so_v 1) (so_e (se_int)))))) (so_e (se_mul (so_e (se_ix (so_v 1) (so_e (se_int)))) (so_e (se_ix (so_v 0) (so_e (se_int))))))) (sl_e (se_mul (so_e (se_ix (so_v 0) (so_e (se_int)))) (so_e (se_ix (so_v 1) (so_e (se_int))))) sl_nil)))))
theorem k_plus : Ent.Ok sig bs gis e_plus := ⟨rfl, rfl, rfl, ⟨rfl, rfl, rfl, by decide +kernel, rfl, by decide +kernel, by decide +kernel⟩, by decide, fun _ _ _ _ _ _ us hl => (match us, hl with | [_, _], _ => rfl), ss_plus⟩
def N_after : List Str := ["family", "times", "now", "turn", "later", "here", "share", "some", "one", "other", "there"]
def ro_after : Nat → Bool := fun i => ([true, true] : List Bool).getD i false
def m_after (c_pairs_of c_poured_at c_lowered c_plus : Fn) : M Fl := (mSeq (mSet 2 (mDictN1 (mVar 0) (mTup (mCons (mC (.int 1)) (mCons (mC (.int 1)) mNil))))) (mSeq (mFor (mRg1 (mVar 1)) (.n 3) (mSeq (mSet 4 (mDictN)) (mSeq (mFor (mItemsN (mTake 2)) (.t [5, 6]) (mSeq (mSet 7 (mCall c_pairs_of (mCons (mTake 5) mNil) [some 5])) (mFor (mItems (mVar 7)) (.t [8, 9]) (mSeq (mSet 10 (mCall c_poured_at (mCons (mTake 5) (mCons (mTake 8) (mCons (mTake 9) mNil))) [some 5, some 8, some 9])) (mStoreN 4 (mVar 10) (mCall c_plus (mCons (mGetD 4 (mVar 10) (mTup (mCons (mC (.int 0)) (mCons (mC (.int 1)) mNil)))) (mCons (mCall c_lowered (mCons (m2 (.v 6) (.e (mC (.int 0))) ixF) (mCons (m2 (.e (m2 (.v 6) (.e (mC (.int 1))) ixF)) (.e (m1 (.v 7) lenF)) mulF) mNil)) [none, none]) mNil)) [none, none])))))) (mSet 2 (mVar 4))))) (mRet (mTake 2))))
def e_after : Ent := ⟨d_after, N_after, ["family", "times"], ro_after, fun ρ =>  m_after (ρ 16) (ρ 15) (ρ 18) (ρ 19)⟩
theorem ss_after (ρ : Nat → Fn) : SS { N := N_after, sc := defScope (top 32) } (Phi sig bs gis ρ) ro_after (defBody (top 32)) (m_after (ρ 16) (ρ 15) (ρ 18) (ρ 19)) :=
  (ss_cons (s_set 2 (se_dictN1 (se_var 0) (se_tup (sa_cons (se_int) (sa_cons (se_int) sa_nil)))))
    (ss_cons (s_for (si_rg1 (se_var 1) (fun g h => h.bl 8 _ rfl)) (sg_n 3) (ss_cons (s_set 4 (se_dictN))
    (ss_cons (s_for (si_in (se_take 2)) (sg_t (sgs_cons 5 (sgs_cons 6 sgs_nil))) (ss_cons (s_set 7 (se_call (fun g h => h.fn 16 _ rfl) (sl_v 5 sl_nil)))
    (ss_one (s_for (si_e (se_var 7)) (sg_t (sgs_cons 8 (sgs_cons 9 sgs_nil))) (ss_cons (s_set 10 (se_call (fun g h => h.fn 15 _ rfl) (sl_v 5 (sl_v 8 (sl_v 9 sl_nil)))))
    (ss_one (s_storeN 4 (se_call (fun g h => h.fn 19 _ rfl) (sl_e (se_getD 4 (so_v 4) (se_var 10) (se_tup (sa_cons (se_int) (sa_cons (se_int) sa_nil)))) (sl_e (se_call (fun g h => h.fn 18 _ rfl) (sl_e (se_ix (so_v 6) (so_e (se_int))) (sl_e (se_mul (so_e (se_ix (so_v 6) (so_e (se_int)))) (so_e (se_b1 (fun _ _ _ => b_len) boot_len (fun g h => h.bl 6 _ rfl) (so_v 7)))) sl_nil))) sl_nil))) (se_var 10))))))))
    (ss_one (s_set 2 (se_var 4))))))
    (ss_one (s_retV 2))))
theorem k_after : Ent.Ok sig bs gis e_after := ⟨rfl, rfl, rfl, ⟨rfl, rfl, rfl, by decide +kernel, rfl, by decide +kernel, by decide +kernel⟩, by decide, fun _ _ _ _ _ _ us hl => (match us, hl with | [_, _], _ => rfl), ss_after⟩
def N_need_blind : List Str := ["family", "times"]
def ro_need_blind : Nat → Bool := fun i => ([true, true] : List Bool).getD i false
def m_need_blind (c_need_few c_need_number : Fn) : M Fl := (mSeq (mDo (mCall c_need_few (mCons (mTake 0) (mCons (mC (.int 8)) mNil)) [some 0, none])) (mDo (mCall c_need_number (mCons (mTake 1) (mCons (mC (.int 0)) (mCons (m2 (.e (m1 (.v 0) lenF)) (.e (mC (.int 1))) subF) mNil))) [some 1, none, none])))
def e_need_blind : Ent := ⟨d_need_blind, N_need_blind, ["family", "times"], ro_need_blind, fun ρ =>  m_need_blind (ρ 13) (ρ 2)⟩
theorem ss_need_blind (ρ : Nat → Fn) : SS { N := N_need_blind, sc := defScope (top 33) } (Phi sig bs gis ρ) ro_need_blind (defBody (top 33)) (m_need_blind (ρ 13) (ρ 2)) :=
  (ss_cons (s_expr (se_call (fun g h => h.fn 13 _ rfl) (sl_v 0 (sl_e (se_gint (fun X o => o.phi.int 1 _ rfl rfl) rfl) sl_nil))))
    (ss_one (s_expr (se_call (fun g h => h.fn 2 _ rfl) (sl_v 1 (sl_e (se_int) (sl_e (se_sub (so_e (se_b1 (fun _ _ _ => b_len) boot_len (fun g h => h.bl 6 _ rfl) (so_v 0))) (so_e (se_int))) sl_nil)))))))
theorem k_need_blind : Ent.Ok sig bs gis e_need_blind := ⟨rfl, rfl, rfl, ⟨rfl, rfl, rfl, by decide +kernel, rfl, by decide +kernel, by decide +kernel⟩, by decide, fun _ _ _ _ _ _ us hl => (match us, hl with | [_, _], _ => rfl), ss_need_blind⟩
def x_need_blind (c_need_few : Fn) (x_need_few x_need_number : FX) : MX := (xOr (xCall x_need_few (mCons (mTake 0) (mCons (mC (.int 8)) mNil))) (xTail (mDo (mCall c_need_few (mCons (mTake 0) (mCons (mC (.int 8)) mNil)) [some 0, none])) (xCall x_need_number (mCons (mTake 1) (mCons (mC (.int 0)) (mCons (m2 (.e (m1 (.v 0) lenF)) (.e (mC (.int 1))) subF) mNil))))))
def g_need_blind (c_need_few : Fn) (x_need_few x_need_number : FX) : FX := runX 2 2 (x_need_blind c_need_few x_need_few x_need_number)
theorem sx_need_blind (ρ : Nat → Fn) (ρX : Nat → FX) : SX { N := N_need_blind, sc := defScope (top 33) } (PhiX sig bs gis xs ρ ρX) (defBody (top 33)) (x_need_blind (ρ 13) (ρX 13) (ρX 2)) :=
  (sx_or (sx_head (sx_expr (sxe_call (fun g h => h.fnX 13 _ rfl) (sl_v 0 (sl_e (se_gint (fun X o => o.phi.int 1 _ rfl rfl) rfl) sl_nil)))))
    (sx_tail (RO := ro_need_blind) (s_expr (se_call (fun g h => h.fn 13 _ rfl) (sl_v 0 (sl_e (se_gint (fun X o => o.phi.int 1 _ rfl rfl) rfl) sl_nil)))) (sx_head (sx_expr (sxe_call (fun g h => h.fnX 2 _ rfl) (sl_v 1 (sl_e (se_int) (sl_e (se_sub (so_e (se_b1 (fun _ _ _ => b_len) boot_len (fun g h => h.bl 6 _ rfl) (so_v 0))) (so_e (se_int))) sl_nil))))))))
def N_chances : List Str := ["family", "times"]
def ro_chances : Nat → Bool := fun i => ([true, true] : List Bool).getD i false
def m_chances (c_need_blind c_after : Fn) : M Fl := (mSeq (mDo (mCall c_need_blind (mCons (mTake 0) (mCons (mTake 1) mNil)) [some 0, some 1])) (mRet (m1 (.e (mSortI (mCall c_after (mCons (mTake 0) (mCons (mTake 1) mNil)) [some 0, some 1]))) tupcF)))
def e_chances : Ent := ⟨d_chances, N_chances, ["family", "times"], ro_chances, fun ρ =>  m_chances (ρ 21) (ρ 20)⟩
theorem ss_chances (ρ : Nat → Fn) : SS { N := N_chances, sc := defScope (top 34) } (Phi sig bs gis ρ) ro_chances (defBody (top 34)) (m_chances (ρ 21) (ρ 20)) :=
  (ss_cons (s_expr (se_call (fun g h => h.fn 21 _ rfl) (sl_v 0 (sl_v 1 sl_nil))))
    (ss_one (s_ret (se_t1 (fun _ _ _ => b_tuple) boot_tuple (fun g h => h.bl 5 _ rfl) (so_e ((se_sortI (se_call (fun g h => h.fn 20 _ rfl) (sl_v 0 (sl_v 1 sl_nil))) (hv := boot_sorted) (hbl := (fun g h => h.bl 10 _ rfl)))))))))
theorem k_chances : Ent.Ok sig bs gis e_chances := ⟨rfl, rfl, rfl, ⟨rfl, rfl, rfl, by decide +kernel, rfl, by decide +kernel, by decide +kernel⟩, by decide, fun _ _ _ _ _ _ us hl => (match us, hl with | [_, _], _ => rfl), ss_chances⟩
def x_chances (x_need_blind : FX) : MX := (xCall x_need_blind (mCons (mTake 0) (mCons (mTake 1) mNil)))
def g_chances (x_need_blind : FX) : FX := runX 2 2 (x_chances x_need_blind)
theorem sx_chances (ρ : Nat → Fn) (ρX : Nat → FX) : SX { N := N_chances, sc := defScope (top 34) } (PhiX sig bs gis xs ρ ρX) (defBody (top 34)) (x_chances (ρX 21)) :=
  (sx_head (sx_expr (sxe_call (fun g h => h.fnX 21 _ rfl) (sl_v 0 (sl_v 1 sl_nil)))))
def N_are_together : List Str := ["family", "one", "other", "bag"]
def ro_are_together : Nat → Bool := fun i => ([true, true, true] : List Bool).getD i false
def m_are_together : M Fl := (mRet (m1 (.e (mLc (mItems (mVar 0)) (.n 3) mYes (mD (mAnd (mB (m2 (.v 1) (.v 3) (cmpF .In))) (mB (m2 (.v 2) (.v 3) (cmpF .In))))) [3])) anyF))
def e_are_together : Ent := ⟨d_are_together, N_are_together, ["family", "one", "other"], ro_are_together, fun ρ =>  m_are_together⟩
theorem ss_are_together (ρ : Nat → Fn) : SS { N := N_are_together, sc := defScope (top 35) } (Phi sig bs gis ρ) ro_are_together (defBody (top 35)) (m_are_together) :=
  (ss_one (s_ret (se_b1 (fun _ _ hc => b_any hc) boot_any (fun g h => h.bl 13 _ rfl) (so_e (se_lc (own := [("bag", 3)]) (by decide +kernel) (si_e (se_var 0)) (sg_n 3) sts_nil ((sv_and (sv_e (se_cmp (so_v 1) (so_v 3))) (sv_and1 (sv_e (se_cmp (so_v 2) (so_v 3)))))))))))
theorem k_are_together : Ent.Ok sig bs gis e_are_together := ⟨rfl, rfl, rfl, ⟨rfl, rfl, rfl, by decide +kernel, rfl, by decide +kernel, by decide +kernel⟩, by decide, fun _ _ _ _ _ _ us hl => (match us, hl with | [_, _, _], _ => rfl), ss_are_together⟩
def N_together_chance : List Str := ["family", "one", "other", "times", "found", "here", "share"]
def ro_together_chance : Nat → Bool := fun i => ([true, true, true, true] : List Bool).getD i false
def m_together_chance (c_need_few c_need_bead c_need_number c_after c_are_together c_plus : Fn) : M Fl := (mSeq (mDo (mCall c_need_few (mCons (mTake 0) (mCons (mC (.int 8)) mNil)) [some 0, none])) (mSeq (mDo (mCall c_need_bead (mCons (mTake 0) (mCons (mTake 1) mNil)) [some 0, some 1])) (mSeq (mDo (mCall c_need_bead (mCons (mTake 0) (mCons (mTake 2) mNil)) [some 0, some 2])) (mSeq (mDo (mCall c_need_number (mCons (mTake 3) (mCons (mC (.int 0)) (mCons (m2 (.e (m1 (.v 0) lenF)) (.e (mC (.int 1))) subF) mNil))) [some 3, none, none])) (mSeq (mSet 4 (mTup (mCons (mC (.int 0)) (mCons (mC (.int 1)) mNil)))) (mSeq (mFor (mItemsN (mCall c_after (mCons (mTake 0) (mCons (mTake 3) mNil)) [some 0, some 3])) (.t [5, 6]) (mIf (mTru (mCall c_are_together (mCons (mTake 5) (mCons (mTake 1) (mCons (mTake 2) mNil))) [some 5, some 1, some 2])) (mSet 4 (mCall c_plus (mCons (mTake 4) (mCons (mTake 6) mNil)) [some 4, some 6])) mNx)) (mRet (mTake 4))))))))
def e_together_chance : Ent := ⟨d_together_chance, N_together_chance, ["family", "one", "other", "times"], ro_together_chance, fun ρ =>  m_together_chance (ρ 13) (ρ 14) (ρ 2) (ρ 20) (ρ 23) (ρ 19)⟩
theorem ss_together_chance (ρ : Nat → Fn) : SS { N := N_together_chance, sc := defScope (top 36) } (Phi sig bs gis ρ) ro_together_chance (defBody (top 36)) (m_together_chance (ρ 13) (ρ 14) (ρ 2) (ρ 20) (ρ 23) (ρ 19)) :=
  (ss_cons (s_expr (se_call (fun g h => h.fn 13 _ rfl) (sl_v 0 (sl_e (se_gint (fun X o => o.phi.int 1 _ rfl rfl) rfl) sl_nil))))
    (ss_cons (s_expr (se_call (fun g h => h.fn 14 _ rfl) (sl_v 0 (sl_v 1 sl_nil))))
    (ss_cons (s_expr (se_call (fun g h => h.fn 14 _ rfl) (sl_v 0 (sl_v 2 sl_nil))))
    (ss_cons (s_expr (se_call (fun g h => h.fn 2 _ rfl) (sl_v 3 (sl_e (se_int) (sl_e (se_sub (so_e (se_b1 (fun _ _ _ => b_len) boot_len (fun g h => h.bl 6 _ rfl) (so_v 0))) (so_e (se_int))) sl_nil)))))
    (ss_cons (s_set 4 (se_tup (sa_cons (se_int) (sa_cons (se_int) sa_nil))))
    (ss_cons (s_for (si_in (se_call (fun g h => h.fn 20 _ rfl) (sl_v 0 (sl_v 3 sl_nil)))) (sg_t (sgs_cons 5 (sgs_cons 6 sgs_nil))) (ss_one (s_if (st_tru (se_call (fun g h => h.fn 23 _ rfl) (sl_v 5 (sl_v 1 (sl_v 2 sl_nil))))) (ss_one (s_set 4 (se_call (fun g h => h.fn 19 _ rfl) (sl_v 4 (sl_v 6 sl_nil))))) ss_nil)))
    (ss_one (s_retV 4))))))))
theorem k_together_chance : Ent.Ok sig bs gis e_together_chance := ⟨rfl, rfl, rfl, ⟨rfl, rfl, rfl, by decide +kernel, rfl, by decide +kernel, by decide +kernel⟩, by decide, fun _ _ _ _ _ _ us hl => (match us, hl with | [_, _, _, _], _ => rfl), ss_together_chance⟩
def x_together_chance (c_need_bead c_need_few : Fn) (x_need_few x_need_bead x_need_number : FX) : MX := (xOr (xCall x_need_few (mCons (mTake 0) (mCons (mC (.int 8)) mNil))) (xTail (mDo (mCall c_need_few (mCons (mTake 0) (mCons (mC (.int 8)) mNil)) [some 0, none])) (xOr (xCall x_need_bead (mCons (mTake 0) (mCons (mTake 1) mNil))) (xTail (mDo (mCall c_need_bead (mCons (mTake 0) (mCons (mTake 1) mNil)) [some 0, some 1])) (xOr (xCall x_need_bead (mCons (mTake 0) (mCons (mTake 2) mNil))) (xTail (mDo (mCall c_need_bead (mCons (mTake 0) (mCons (mTake 2) mNil)) [some 0, some 2])) (xCall x_need_number (mCons (mTake 3) (mCons (mC (.int 0)) (mCons (m2 (.e (m1 (.v 0) lenF)) (.e (mC (.int 1))) subF) mNil))))))))))
def g_together_chance (c_need_bead c_need_few : Fn) (x_need_few x_need_bead x_need_number : FX) : FX := runX 7 4 (x_together_chance c_need_bead c_need_few x_need_few x_need_bead x_need_number)
theorem sx_together_chance (ρ : Nat → Fn) (ρX : Nat → FX) : SX { N := N_together_chance, sc := defScope (top 36) } (PhiX sig bs gis xs ρ ρX) (defBody (top 36)) (x_together_chance (ρ 14) (ρ 13) (ρX 13) (ρX 14) (ρX 2)) :=
  (sx_or (sx_head (sx_expr (sxe_call (fun g h => h.fnX 13 _ rfl) (sl_v 0 (sl_e (se_gint (fun X o => o.phi.int 1 _ rfl rfl) rfl) sl_nil)))))
    (sx_tail (RO := ro_together_chance) (s_expr (se_call (fun g h => h.fn 13 _ rfl) (sl_v 0 (sl_e (se_gint (fun X o => o.phi.int 1 _ rfl rfl) rfl) sl_nil)))) (sx_or (sx_head (sx_expr (sxe_call (fun g h => h.fnX 14 _ rfl) (sl_v 0 (sl_v 1 sl_nil)))))
    (sx_tail (RO := ro_together_chance) (s_expr (se_call (fun g h => h.fn 14 _ rfl) (sl_v 0 (sl_v 1 sl_nil)))) (sx_or (sx_head (sx_expr (sxe_call (fun g h => h.fnX 14 _ rfl) (sl_v 0 (sl_v 2 sl_nil)))))
    (sx_tail (RO := ro_together_chance) (s_expr (se_call (fun g h => h.fn 14 _ rfl) (sl_v 0 (sl_v 2 sl_nil)))) (sx_head (sx_expr (sxe_call (fun g h => h.fnX 2 _ rfl) (sl_v 3 (sl_e (se_int) (sl_e (se_sub (so_e (se_b1 (fun _ _ _ => b_len) boot_len (fun g h => h.bl 6 _ rfl) (so_v 0))) (so_e (se_int))) sl_nil))))))))))))
def N_mean_wait : List Str := ["family", "one", "other", "found", "times", "here", "share"]
def ro_mean_wait : Nat → Bool := fun i => ([true, true, true] : List Bool).getD i false
def m_mean_wait (c_need_few c_need_bead c_after c_are_together c_plus : Fn) : M Fl := (mSeq (mDo (mCall c_need_few (mCons (mTake 0) (mCons (mC (.int 8)) mNil)) [some 0, none])) (mSeq (mDo (mCall c_need_bead (mCons (mTake 0) (mCons (mTake 1) mNil)) [some 0, some 1])) (mSeq (mDo (mCall c_need_bead (mCons (mTake 0) (mCons (mTake 2) mNil)) [some 0, some 2])) (mSeq (mSet 3 (mTup (mCons (mC (.int 0)) (mCons (mC (.int 1)) mNil)))) (mSeq (mFor (mRg1 (m2 (.e (m1 (.v 0) lenF)) (.e (mC (.int 1))) subF)) (.n 4) (mFor (mItemsN (mCall c_after (mCons (mTake 0) (mCons (mTake 4) mNil)) [some 0, some 4])) (.t [5, 6]) (mIf (mNot (mTru (mCall c_are_together (mCons (mTake 5) (mCons (mTake 1) (mCons (mTake 2) mNil))) [some 5, some 1, some 2]))) (mSet 3 (mCall c_plus (mCons (mTake 3) (mCons (mTake 6) mNil)) [some 3, some 6])) mNx))) (mRet (mTake 3)))))))
def e_mean_wait : Ent := ⟨d_mean_wait, N_mean_wait, ["family", "one", "other"], ro_mean_wait, fun ρ =>  m_mean_wait (ρ 13) (ρ 14) (ρ 20) (ρ 23) (ρ 19)⟩
theorem ss_mean_wait (ρ : Nat → Fn) : SS { N := N_mean_wait, sc := defScope (top 37) } (Phi sig bs gis ρ) ro_mean_wait (defBody (top 37)) (m_mean_wait (ρ 13) (ρ 14) (ρ 20) (ρ 23) (ρ 19)) :=
  (ss_cons (s_expr (se_call (fun g h => h.fn 13 _ rfl) (sl_v 0 (sl_e (se_gint (fun X o => o.phi.int 1 _ rfl rfl) rfl) sl_nil))))
    (ss_cons (s_expr (se_call (fun g h => h.fn 14 _ rfl) (sl_v 0 (sl_v 1 sl_nil))))
    (ss_cons (s_expr (se_call (fun g h => h.fn 14 _ rfl) (sl_v 0 (sl_v 2 sl_nil))))
    (ss_cons (s_set 3 (se_tup (sa_cons (se_int) (sa_cons (se_int) sa_nil))))
    (ss_cons (s_for (si_rg1 (se_sub (so_e (se_b1 (fun _ _ _ => b_len) boot_len (fun g h => h.bl 6 _ rfl) (so_v 0))) (so_e (se_int))) (fun g h => h.bl 8 _ rfl)) (sg_n 4) (ss_one (s_for (si_in (se_call (fun g h => h.fn 20 _ rfl) (sl_v 0 (sl_v 4 sl_nil)))) (sg_t (sgs_cons 5 (sgs_cons 6 sgs_nil))) (ss_one (s_if (st_not (st_tru (se_call (fun g h => h.fn 23 _ rfl) (sl_v 5 (sl_v 1 (sl_v 2 sl_nil)))))) (ss_one (s_set 3 (se_call (fun g h => h.fn 19 _ rfl) (sl_v 3 (sl_v 6 sl_nil))))) ss_nil)))))
    (ss_one (s_retV 3)))))))
theorem k_mean_wait : Ent.Ok sig bs gis e_mean_wait := ⟨rfl, rfl, rfl, ⟨rfl, rfl, rfl, by decide +kernel, rfl, by decide +kernel, by decide +kernel⟩, by decide, fun _ _ _ _ _ _ us hl => (match us, hl with | [_, _, _], _ => rfl), ss_mean_wait⟩
def x_mean_wait (c_need_bead c_need_few : Fn) (x_need_few x_need_bead : FX) : MX := (xOr (xCall x_need_few (mCons (mTake 0) (mCons (mC (.int 8)) mNil))) (xTail (mDo (mCall c_need_few (mCons (mTake 0) (mCons (mC (.int 8)) mNil)) [some 0, none])) (xOr (xCall x_need_bead (mCons (mTake 0) (mCons (mTake 1) mNil))) (xTail (mDo (mCall c_need_bead (mCons (mTake 0) (mCons (mTake 1) mNil)) [some 0, some 1])) (xCall x_need_bead (mCons (mTake 0) (mCons (mTake 2) mNil)))))))
def g_mean_wait (c_need_bead c_need_few : Fn) (x_need_few x_need_bead : FX) : FX := runX 7 3 (x_mean_wait c_need_bead c_need_few x_need_few x_need_bead)
theorem sx_mean_wait (ρ : Nat → Fn) (ρX : Nat → FX) : SX { N := N_mean_wait, sc := defScope (top 37) } (PhiX sig bs gis xs ρ ρX) (defBody (top 37)) (x_mean_wait (ρ 14) (ρ 13) (ρX 13) (ρX 14)) :=
  (sx_or (sx_head (sx_expr (sxe_call (fun g h => h.fnX 13 _ rfl) (sl_v 0 (sl_e (se_gint (fun X o => o.phi.int 1 _ rfl rfl) rfl) sl_nil)))))
    (sx_tail (RO := ro_mean_wait) (s_expr (se_call (fun g h => h.fn 13 _ rfl) (sl_v 0 (sl_e (se_gint (fun X o => o.phi.int 1 _ rfl rfl) rfl) sl_nil)))) (sx_or (sx_head (sx_expr (sxe_call (fun g h => h.fnX 14 _ rfl) (sl_v 0 (sl_v 1 sl_nil)))))
    (sx_tail (RO := ro_mean_wait) (s_expr (se_call (fun g h => h.fn 14 _ rfl) (sl_v 0 (sl_v 1 sl_nil)))) (sx_head (sx_expr (sxe_call (fun g h => h.fnX 14 _ rfl) (sl_v 0 (sl_v 2 sl_nil)))))))))
def N_mean_greatest : List Str := ["family", "times", "found", "here", "share", "bag"]
def ro_mean_greatest : Nat → Bool := fun i => ([true, true] : List Bool).getD i false
def m_mean_greatest (c_need_blind c_after c_lowered c_plus : Fn) : M Fl := (mSeq (mDo (mCall c_need_blind (mCons (mTake 0) (mCons (mTake 1) mNil)) [some 0, some 1])) (mSeq (mSet 2 (mTup (mCons (mC (.int 0)) (mCons (mC (.int 1)) mNil)))) (mSeq (mFor (mItemsN (mCall c_after (mCons (mTake 0) (mCons (mTake 1) mNil)) [some 0, some 1])) (.t [3, 4]) (mSet 2 (mCall c_plus (mCons (mTake 2) (mCons (mCall c_lowered (mCons (m2 (.e (m2 (.v 4) (.e (mC (.int 0))) ixF)) (.e (m1 (.e (mLc (mItems (mVar 3)) (.n 5) mYes (m1 (.v 5) lenF) [5])) maxF)) mulF) (mCons (m2 (.v 4) (.e (mC (.int 1))) ixF) mNil)) [none, none]) mNil)) [some 2, none]))) (mRet (mTake 2)))))
def e_mean_greatest : Ent := ⟨d_mean_greatest, N_mean_greatest, ["family", "times"], ro_mean_greatest, fun ρ =>  m_mean_greatest (ρ 21) (ρ 20) (ρ 18) (ρ 19)⟩
theorem ss_mean_greatest (ρ : Nat → Fn) : SS { N := N_mean_greatest, sc := defScope (top 38) } (Phi sig bs gis ρ) ro_mean_greatest (defBody (top 38)) (m_mean_greatest (ρ 21) (ρ 20) (ρ 18) (ρ 19)) :=
  (ss_cons (s_expr (se_call (fun g h => h.fn 21 _ rfl) (sl_v 0 (sl_v 1 sl_nil))))
    (ss_cons (s_set 2 (se_tup (sa_cons (se_int) (sa_cons (se_int) sa_nil))))
    (ss_cons (s_for (si_in (se_call (fun g h => h.fn 20 _ rfl) (sl_v 0 (sl_v 1 sl_nil)))) (sg_t (sgs_cons 3 (sgs_cons 4 sgs_nil))) (ss_one (s_set 2 (se_call (fun g h => h.fn 19 _ rfl) (sl_v 2 (sl_e (se_call (fun g h => h.fn 18 _ rfl) (sl_e (se_mul (so_e (se_ix (so_v 4) (so_e (se_int)))) (so_e (se_b1 (fun _ _ hc => b_max hc) boot_max (fun g h => h.bl 7 _ rfl) (so_e (se_lc (own := [("bag", 5)]) (by decide +kernel) (si_e (se_var 3)) (sg_n 5) sts_nil (se_b1 (fun _ _ _ => b_len) boot_len (fun g h => h.bl 6 _ rfl) (so_v 5))))))) (sl_e (se_ix (so_v 4) (so_e (se_int))) sl_nil))) sl_nil))))))
    (ss_one (s_retV 2)))))
theorem k_mean_greatest : Ent.Ok sig bs gis e_mean_greatest := ⟨rfl, rfl, rfl, ⟨rfl, rfl, rfl, by decide +kernel, rfl, by decide +kernel, by decide +kernel⟩, by decide, fun _ _ _ _ _ _ us hl => (match us, hl with | [_, _], _ => rfl), ss_mean_greatest⟩
def x_mean_greatest (x_need_blind : FX) : MX := (xCall x_need_blind (mCons (mTake 0) (mCons (mTake 1) mNil)))
def g_mean_greatest (x_need_blind : FX) : FX := runX 6 2 (x_mean_greatest x_need_blind)
theorem sx_mean_greatest (ρ : Nat → Fn) (ρX : Nat → FX) : SX { N := N_mean_greatest, sc := defScope (top 38) } (PhiX sig bs gis xs ρ ρX) (defBody (top 38)) (x_mean_greatest (ρX 21)) :=
  (sx_head (sx_expr (sxe_call (fun g h => h.fnX 21 _ rfl) (sl_v 0 (sl_v 1 sl_nil)))))
def N_likeliest : List Str := ["family", "times", "best", "here", "share"]
def ro_likeliest : Nat → Bool := fun i => ([true, true] : List Bool).getD i false
def m_likeliest (c_need_blind c_after : Fn) : M Fl := (mSeq (mDo (mCall c_need_blind (mCons (mTake 0) (mCons (mTake 1) mNil)) [some 0, some 1])) (mSeq (mSet 2 (mC .non)) (mSeq (mFor (mItems (mSortI (mCall c_after (mCons (mTake 0) (mCons (mTake 1) mNil)) [some 0, some 1]))) (.t [3, 4]) (mIf (mOr (mB (m2 (.v 2) (.e (mC .non)) (cmpF .Is))) (mB (m2 (.e (m2 (.e (m2 (.v 4) (.e (mC (.int 0))) ixF)) (.e (m2 (.e (m2 (.v 2) (.e (mC (.int 1))) ixF)) (.e (mC (.int 1))) ixF)) mulF)) (.e (m2 (.e (m2 (.e (m2 (.v 2) (.e (mC (.int 1))) ixF)) (.e (mC (.int 0))) ixF)) (.e (m2 (.v 4) (.e (mC (.int 1))) ixF)) mulF)) (cmpF .Gt)))) (mSet 2 (mTup (mCons (mVar 3) (mCons (mVar 4) mNil)))) mNx)) (mRet (m2 (.v 2) (.e (mC (.int 0))) ixF)))))
def e_likeliest : Ent := ⟨d_likeliest, N_likeliest, ["family", "times"], ro_likeliest, fun ρ =>  m_likeliest (ρ 21) (ρ 20)⟩
theorem ss_likeliest (ρ : Nat → Fn) : SS { N := N_likeliest, sc := defScope (top 39) } (Phi sig bs gis ρ) ro_likeliest (defBody (top 39)) (m_likeliest (ρ 21) (ρ 20)) :=
  (ss_cons (s_expr (se_call (fun g h => h.fn 21 _ rfl) (sl_v 0 (sl_v 1 sl_nil))))
    (ss_cons (s_set 2 (se_non))
    (ss_cons (s_for (si_e ((se_sortI (se_call (fun g h => h.fn 20 _ rfl) (sl_v 0 (sl_v 1 sl_nil))) (hv := boot_sorted) (hbl := (fun g h => h.bl 10 _ rfl))))) (sg_t (sgs_cons 3 (sgs_cons 4 sgs_nil))) (ss_one (s_if (SW.st (sw_or (st_cmp (so_v 2) (so_e (se_non))) (sw_or1 (st_cmp (so_e (se_mul (so_e (se_ix (so_v 4) (so_e (se_int)))) (so_e (se_ix (so_e (se_ix (so_v 2) (so_e (se_int)))) (so_e (se_int)))))) (so_e (se_mul (so_e (se_ix (so_e (se_ix (so_v 2) (so_e (se_int)))) (so_e (se_int)))) (so_e (se_ix (so_v 4) (so_e (se_int)))))))))) (ss_one (s_set 2 (se_tup (sa_cons (se_var 3) (sa_cons (se_var 4) sa_nil))))) ss_nil)))
    (ss_one (s_ret (se_ix (so_v 2) (so_e (se_int))))))))
theorem k_likeliest : Ent.Ok sig bs gis e_likeliest := ⟨rfl, rfl, rfl, ⟨rfl, rfl, rfl, by decide +kernel, rfl, by decide +kernel, by decide +kernel⟩, by decide, fun _ _ _ _ _ _ us hl => (match us, hl with | [_, _], _ => rfl), ss_likeliest⟩
def x_likeliest (x_need_blind : FX) : MX := (xCall x_need_blind (mCons (mTake 0) (mCons (mTake 1) mNil)))
def g_likeliest (x_need_blind : FX) : FX := runX 5 2 (x_likeliest x_need_blind)
theorem sx_likeliest (ρ : Nat → Fn) (ρX : Nat → FX) : SX { N := N_likeliest, sc := defScope (top 39) } (PhiX sig bs gis xs ρ ρX) (defBody (top 39)) (x_likeliest (ρX 21)) :=
  (sx_head (sx_expr (sxe_call (fun g h => h.fnX 21 _ rfl) (sl_v 0 (sl_v 1 sl_nil)))))
def N_last_pair : List Str := ["family"]
def ro_last_pair : Nat → Bool := fun i => ([true] : List Bool).getD i false
def m_last_pair (c_need_few c_after : Fn) : M Fl := (mSeq (mDo (mCall c_need_few (mCons (mTake 0) (mCons (mC (.int 8)) mNil)) [some 0, none])) (mSeq (mIf (mB (m2 (.e (m1 (.v 0) lenF)) (.e (mC (.int 2))) (cmpF .Lt))) (mRet (mTup mNil)) mNx) (mRet (m1 (.e (mSortI (mCall c_after (mLate 0 (mCons (m2 (.e (m1 (.v 0) lenF)) (.e (mC (.int 2))) subF) mNil)) [some 0, none]))) tupcF))))
def e_last_pair : Ent := ⟨d_last_pair, N_last_pair, ["family"], ro_last_pair, fun ρ =>  m_last_pair (ρ 13) (ρ 20)⟩
theorem ss_last_pair (ρ : Nat → Fn) : SS { N := N_last_pair, sc := defScope (top 40) } (Phi sig bs gis ρ) ro_last_pair (defBody (top 40)) (m_last_pair (ρ 13) (ρ 20)) :=
  (ss_cons (s_expr (se_call (fun g h => h.fn 13 _ rfl) (sl_v 0 (sl_e (se_gint (fun X o => o.phi.int 1 _ rfl rfl) rfl) sl_nil))))
    (ss_cons (s_if (st_cmp (so_e (se_b1 (fun _ _ _ => b_len) boot_len (fun g h => h.bl 6 _ rfl) (so_v 0))) (so_e (se_int))) (ss_one (s_ret (se_tup sa_nil))) ss_nil)
    (ss_one (s_ret (se_t1 (fun _ _ _ => b_tuple) boot_tuple (fun g h => h.bl 5 _ rfl) (so_e ((se_sortI (se_call (fun g h => h.fn 20 _ rfl) (sl_w 0 (sl_e (se_sub (so_e (se_b1 (fun _ _ _ => b_len) boot_len (fun g h => h.bl 6 _ rfl) (so_v 0))) (so_e (se_int))) sl_nil))) (hv := boot_sorted) (hbl := (fun g h => h.bl 10 _ rfl))))))))))
theorem k_last_pair : Ent.Ok sig bs gis e_last_pair := ⟨rfl, rfl, rfl, ⟨rfl, rfl, rfl, by decide +kernel, rfl, by decide +kernel, by decide +kernel⟩, by decide, fun _ _ _ _ _ _ us hl => (match us, hl with | [_], _ => rfl), ss_last_pair⟩
def x_last_pair (x_need_few : FX) : MX := (xCall x_need_few (mCons (mTake 0) (mCons (mC (.int 8)) mNil)))
def g_last_pair (x_need_few : FX) : FX := runX 1 1 (x_last_pair x_need_few)
theorem sx_last_pair (ρ : Nat → Fn) (ρX : Nat → FX) : SX { N := N_last_pair, sc := defScope (top 40) } (PhiX sig bs gis xs ρ ρX) (defBody (top 40)) (x_last_pair (ρX 13)) :=
  (sx_head (sx_expr (sxe_call (fun g h => h.fnX 13 _ rfl) (sl_v 0 (sl_e (se_gint (fun X o => o.phi.int 1 _ rfl rfl) rfl) sl_nil)))))
def N__law_taken : List Str := ["_law_row", "_law_many", "_law_cell", "_law_found"]
def ro__law_taken : Nat → Bool := fun i => ([true, true] : List Bool).getD i false
def e__law_taken : Ent := ⟨d__law_taken, N__law_taken, ["_law_row", "_law_many"], ro__law_taken, fun ρ =>  Pl.m__law_taken⟩
theorem ss__law_taken (ρ : Nat → Fn) : SS { N := N__law_taken, sc := defScope (top 42) } (Phi sig bs gis ρ) ro__law_taken (defBody (top 42)) (Pl.m__law_taken) :=
  (ss_cons (s_if (st_cmp (so_e (se_ix (so_v 0) (so_e (se_int)))) (so_e (se_int))) (ss_cons (s_set 3 (se_mod (so_e (se_t1 (fun _ _ _ => b_int) boot_int (fun g h => h.bl 1 _ rfl) (so_e (se_ix (so_v 0) (so_e (se_int)))))) (so_v 1)))
    (ss_cons (s_store 0 (se_fdiv (so_e (se_ix (so_v 0) (so_e (se_int)))) (so_v 1)) (se_int))
    (ss_one (s_retV 3)))) ss_nil)
    (ss_cons (s_store 0 (se_add (so_e (se_ix (so_v 0) (so_e (se_int)))) (so_e (se_int))) (se_int))
    (ss_cons (s_if (st_cmp (so_e (se_ix (so_v 0) (so_e (se_int)))) (so_e (se_b1 (fun _ _ _ => b_len) boot_len (fun g h => h.bl 6 _ rfl) (so_e (se_ix (so_v 0) (so_e (se_int))))))) (ss_cons (s_store 0 (se_mod (so_e (se_t1 (fun _ _ _ => b_int) boot_int (fun g h => h.bl 1 _ rfl) (so_e (se_add (so_e (se_mul (so_e (se_ix (so_v 0) (so_e (se_int)))) (so_e (se_int)))) (so_e (se_int)))))) (so_e (se_int))) (se_int))
    (ss_one (s_ret (se_mod (so_e (se_t1 (fun _ _ _ => b_int) boot_int (fun g h => h.bl 1 _ rfl) (so_e (se_fdiv (so_e (se_ix (so_v 0) (so_e (se_int)))) (so_e (se_int)))))) (so_v 1))))) ss_nil)
    (ss_cons (s_set 2 (se_ix (so_e (se_ix (so_v 0) (so_e (se_int)))) (so_e (se_sub (so_e (se_ix (so_v 0) (so_e (se_int)))) (so_e (se_int))))))
    (ss_cons (s_store 0 (se_mod (so_e (se_t1 (fun _ _ _ => b_int) boot_int (fun g h => h.bl 1 _ rfl) (so_e (se_add (so_e (se_add (so_e (se_mul (so_e (se_ix (so_v 0) (so_e (se_int)))) (so_e (se_int)))) (so_v 2))) (so_e (se_int)))))) (so_e (se_int))) (se_int))
    (ss_cons (s_if (st_cmp (so_v 2) (so_e (se_pow (so_e (se_int)) (so_e (se_int))))) (ss_one (s_store 0 (se_fdiv (so_v 2) (so_v 1)) (se_int))) ss_nil)
    (ss_one (s_ret (se_mod (so_e (se_t1 (fun _ _ _ => b_int) boot_int (fun g h => h.bl 1 _ rfl) (so_v 2))) (so_v 1))))))))))
theorem k__law_taken : Ent.Ok sig bs gis e__law_taken := ⟨rfl, rfl, rfl, ⟨rfl, rfl, rfl, by decide +kernel, rfl, by decide +kernel, by decide +kernel⟩, by decide, fun _ _ _ _ _ _ us hl => (match us, hl with | [_, _], _ => rfl), ss__law_taken⟩
def N__law_pick : List Str := ["_law_row", "_law_things"]
def ro__law_pick : Nat → Bool := fun i => ([true, true] : List Bool).getD i false
def e__law_pick : Ent := ⟨d__law_pick, N__law_pick, ["_law_row", "_law_things"], ro__law_pick, fun ρ =>  Pl.m__law_pick (ρ 29)⟩
theorem ss__law_pick (ρ : Nat → Fn) : SS { N := N__law_pick, sc := defScope (top 43) } (Phi sig bs gis ρ) ro__law_pick (defBody (top 43)) (Pl.m__law_pick (ρ 29)) :=
  (ss_one (s_ret (se_ix (so_v 1) (so_e (se_call (fun g h => h.fn 29 _ rfl) (sl_v 0 (sl_e (se_b1 (fun _ _ _ => b_len) boot_len (fun g h => h.bl 6 _ rfl) (so_v 1)) sl_nil)))))))
theorem k__law_pick : Ent.Ok sig bs gis e__law_pick := ⟨rfl, rfl, rfl, ⟨rfl, rfl, rfl, by decide +kernel, rfl, by decide +kernel, by decide +kernel⟩, by decide, fun _ _ _ _ _ _ us hl => (match us, hl with | [_, _], _ => rfl), ss__law_pick⟩
def N__law_mixed : List Str := ["_law_row", "_law_some", "_law_turn", "_law_left", "_law_found"]
def ro__law_mixed : Nat → Bool := fun i => ([true, true] : List Bool).getD i false
def e__law_mixed : Ent := ⟨d__law_mixed, N__law_mixed, ["_law_row", "_law_some"], ro__law_mixed, fun ρ =>  Pl.m__law_mixed (ρ 29)⟩
theorem ss__law_mixed (ρ : Nat → Fn) : SS { N := N__law_mixed, sc := defScope (top 44) } (Phi sig bs gis ρ) ro__law_mixed (defBody (top 44)) (Pl.m__law_mixed (ρ 29)) :=
  (ss_cons (s_set2 3 4 (sa_cons (se_t1 (fun _ _ _ => b_list) boot_list (fun g h => h.bl 14 _ rfl) (so_v 1)) (sa_cons (se_lst sa_nil) sa_nil)))
    (ss_cons (s_for (si_rg1 (se_b1 (fun _ _ _ => b_len) boot_len (fun g h => h.bl 6 _ rfl) (so_v 3)) (fun g h => h.bl 8 _ rfl)) (sg_n 2) (ss_one (s_expr (se_app 4 (se_popAt 3 (se_call (fun g h => h.fn 29 _ rfl) (sl_v 0 (sl_e (se_b1 (fun _ _ _ => b_len) boot_len (fun g h => h.bl 6 _ rfl) (so_v 3)) sl_nil))))))))
    (ss_one (s_retV 4))))
theorem k__law_mixed : Ent.Ok sig bs gis e__law_mixed := ⟨rfl, rfl, rfl, ⟨rfl, rfl, rfl, by decide +kernel, rfl, by decide +kernel, by decide +kernel⟩, by decide, fun _ _ _ _ _ _ us hl => (match us, hl with | [_, _], _ => rfl), ss__law_mixed⟩
def N__law_named : List Str := ["_law_bags", "_law_names", "_law_bag", "_law_bead"]
def ro__law_named : Nat → Bool := fun i => ([true, true] : List Bool).getD i false
def e__law_named : Ent := ⟨d__law_named, N__law_named, ["_law_bags", "_law_names"], ro__law_named, fun ρ =>  Pl.m__law_named⟩
theorem ss__law_named (ρ : Nat → Fn) : SS { N := N__law_named, sc := defScope (top 45) } (Phi sig bs gis ρ) ro__law_named (defBody (top 45)) (Pl.m__law_named) :=
  (ss_one (s_ret (se_t1 (fun _ _ _ => b_tuple) boot_tuple (fun g h => h.bl 5 _ rfl) (so_e (se_b1 (fun _ hu _ => b_sorted hu) boot_sorted (fun g h => h.bl 10 _ rfl) (so_e (se_lc (own := [("_law_bag", 2)]) (by decide +kernel) (si_e (se_var 0)) (sg_n 2) sts_nil (se_t1 (fun _ _ _ => b_tuple) boot_tuple (fun g h => h.bl 5 _ rfl) (so_e (se_b1 (fun _ hu _ => b_sorted hu) boot_sorted (fun g h => h.bl 10 _ rfl) (so_e (se_lc (own := [("_law_bead", 3)]) (by decide +kernel) (si_e (se_var 2)) (sg_n 3) sts_nil (se_ix (so_v 1) (so_v 3))))))))))))))
theorem k__law_named : Ent.Ok sig bs gis e__law_named := ⟨rfl, rfl, rfl, ⟨rfl, rfl, rfl, by decide +kernel, rfl, by decide +kernel, by decide +kernel⟩, by decide, fun _ _ _ _ _ _ us hl => (match us, hl with | [_, _], _ => rfl), ss__law_named⟩
def N__law_family : List Str := ["_law_row", "_law_most", "_law_bags", "_law_bead", "_law_size_here", "_law_often"]
def ro__law_family : Nat → Bool := fun i => ([true, true] : List Bool).getD i false
def e__law_family : Ent := ⟨d__law_family, N__law_family, ["_law_row", "_law_most"], ro__law_family, fun ρ =>  Pl.m__law_family (ρ 30) (ρ 29) (ρ 31) (ρ 32)⟩
theorem ss__law_family (ρ : Nat → Fn) : SS { N := N__law_family, sc := defScope (top 46) } (Phi sig bs gis ρ) ro__law_family (defBody (top 46)) (Pl.m__law_family (ρ 30) (ρ 29) (ρ 31) (ρ 32)) :=
  (ss_cons (s_set2 4 5 (sa_cons (se_add (so_e (se_int)) (so_e (se_call (fun g h => h.fn 29 _ rfl) (sl_v 0 (sl_e (se_sub (so_v 1) (so_e (se_int))) sl_nil))))) (sa_cons (se_call (fun g h => h.fn 30 _ rfl) (sl_v 0 (sl_e (se_lst (sa_cons (se_int) (sa_cons (se_int) (sa_cons (se_int) (sa_cons (se_int) (sa_cons (se_int) sa_nil)))))) sl_nil))) sa_nil)))
    (ss_cons (s_set 2 (se_lst (sa_cons (se_lst (sa_cons (se_int) (sa_cons (se_int) sa_nil))) sa_nil)))
    (ss_cons (s_for (si_rg2 (se_int) (se_var 4) (fun g h => h.bl 8 _ rfl)) (sg_n 3) (ss_one (s_if (st_cmp (so_e (se_call (fun g h => h.fn 29 _ rfl) (sl_v 0 (sl_v 5 sl_nil)))) (so_e (se_int))) (ss_one (s_expr (se_app2 2 (se_call (fun g h => h.fn 29 _ rfl) (sl_v 0 (sl_e (se_b1 (fun _ _ _ => b_len) boot_len (fun g h => h.bl 6 _ rfl) (so_v 2)) sl_nil))) (sat_v 3)))) (ss_one (s_expr (se_app 2 (se_lst (sa_cons (se_call (fun g h => h.fn 29 _ rfl) (sl_v 0 (sl_v 3 sl_nil))) (sa_cons (se_var 3) sa_nil)))))))))
    (ss_one (s_ret (se_call (fun g h => h.fn 32 _ rfl) (sl_v 2 (sl_e (se_call (fun g h => h.fn 31 _ rfl) (sl_v 0 (sl_e (se_lstRg (so_v 4) (fun g h => h.bl 14 _ rfl) (fun g h => h.bl 8 _ rfl)) sl_nil))) sl_nil))))))))
theorem k__law_family : Ent.Ok sig bs gis e__law_family := ⟨rfl, rfl, rfl, ⟨rfl, rfl, rfl, by decide +kernel, rfl, by decide +kernel, by decide +kernel⟩, by decide, fun _ _ _ _ _ _ us hl => (match us, hl with | [_, _], _ => rfl), ss__law_family⟩
def N__law_size : List Str := ["_law_family_here", "_law_bag"]
def ro__law_size : Nat → Bool := fun i => ([true] : List Bool).getD i false
def e__law_size : Ent := ⟨d__law_size, N__law_size, ["_law_family_here"], ro__law_size, fun ρ =>  Pl.m__law_size⟩
theorem ss__law_size (ρ : Nat → Fn) : SS { N := N__law_size, sc := defScope (top 47) } (Phi sig bs gis ρ) ro__law_size (defBody (top 47)) (Pl.m__law_size) :=
  (ss_one (s_ret (se_add (so_e (se_int)) (so_e (se_b1 (fun _ _ hc => b_max hc) boot_max (fun g h => h.bl 7 _ rfl) (so_e (se_lc (own := [("_law_bag", 1)]) (by decide +kernel) (si_e (se_var 0)) (sg_n 1) sts_nil (se_ix (so_v 1) (so_e (se_neg (so_e (se_int))))))))))))
theorem k__law_size : Ent.Ok sig bs gis e__law_size := ⟨rfl, rfl, rfl, ⟨rfl, rfl, rfl, by decide +kernel, rfl, by decide +kernel, by decide +kernel⟩, by decide, fun _ _ _ _ _ _ us hl => (match us, hl with | [_], _ => rfl), ss__law_size⟩
def N__law_wrong_bags : List Str := ["_law_row", "_law_family_here", "_law_last", "_law_some"]
def ro__law_wrong_bags : Nat → Bool := fun i => ([true, true] : List Bool).getD i false
def e__law_wrong_bags : Ent := ⟨d__law_wrong_bags, N__law_wrong_bags, ["_law_row", "_law_family_here"], ro__law_wrong_bags, fun ρ =>  Pl.m__law_wrong_bags (ρ 30)⟩
theorem ss__law_wrong_bags (ρ : Nat → Fn) : SS { N := N__law_wrong_bags, sc := defScope (top 48) } (Phi sig bs gis ρ) ro__law_wrong_bags (defBody (top 48)) (Pl.m__law_wrong_bags (ρ 30)) :=
  (ss_cons (s_set 2 (se_ix (so_v 1) (so_e (se_neg (so_e (se_int))))))
    (ss_cons (s_set 3 (se_lst (sa_cons (se_non) (sa_cons (se_tup sa_nil) (sa_cons (se_t1 (fun _ _ _ => b_list) boot_list (fun g h => h.bl 14 _ rfl) (so_v 1)) (sa_cons (se_add (so_e (se_revT (so_v 1))) (so_e (se_sl (so_v 1) sp_none (sp_some (se_int))))) (sa_cons (se_add (so_v 1) (so_e (se_sl (so_v 1) (sp_some (se_neg (so_e (se_int)))) sp_none))) (sa_cons (se_tup (sa_cons (se_tup (sa_cons (se_int) sa_nil)) sa_nil)) (sa_cons (se_tup (sa_cons (se_tup (sa_cons (se_int) (sa_cons (se_int) sa_nil))) sa_nil)) (sa_cons (se_tup (sa_cons (se_tup (sa_cons (se_int) (sa_cons (se_int) sa_nil))) sa_nil)) (sa_cons (se_tup (sa_cons (se_tup (sa_cons (se_int) (sa_cons (se_int) sa_nil))) sa_nil)) (sa_cons (se_tup (sa_cons (se_tup (sa_cons (se_int) (sa_cons (se_bl) sa_nil))) sa_nil)) sa_nil))))))))))))
    (ss_one (s_ret (se_call (fun g h => h.fn 30 _ rfl) (sl_v 0 (sl_e (se_fz (se_add (so_e (se_var 3)) (so_e (se_lst (sa_cons (se_tup (sa_cons (se_tup (sa_cons (se_int) (sa_cons (se_non) sa_nil))) sa_nil)) (sa_cons (se_str) (sa_cons (se_int) (sa_cons (se_add (so_e (se_sl (so_v 1) sp_none (sp_some (se_neg (so_e (se_int)))))) (so_e (se_tup (sa_cons (se_t1 (fun _ _ _ => b_list) boot_list (fun g h => h.bl 14 _ rfl) (so_v 2)) sa_nil)))) (sa_cons (se_add (so_e (se_sl (so_v 1) sp_none (sp_some (se_neg (so_e (se_int)))))) (so_e (se_tup (sa_cons (se_add (so_v 2) (so_e (se_sl (so_v 2) (sp_some (se_neg (so_e (se_int)))) sp_none))) sa_nil)))) (sa_cons (se_tup (sa_cons (se_tup (sa_cons (se_neg (so_e (se_int))) (sa_cons (se_int) sa_nil))) sa_nil)) sa_nil)))))))))) sl_nil)))))))
theorem k__law_wrong_bags : Ent.Ok sig bs gis e__law_wrong_bags := ⟨rfl, rfl, rfl, ⟨rfl, rfl, rfl, by decide +kernel, rfl, by decide +kernel, by decide +kernel⟩, by decide, fun _ _ _ _ _ _ us hl => (match us, hl with | [_, _], _ => rfl), ss__law_wrong_bags⟩
def N__law_no_family : List Str := ["_law_row", "_law_family_here", "_law_size_here", "_law_some"]
def ro__law_no_family : Nat → Bool := fun i => ([true, true] : List Bool).getD i false
def e__law_no_family : Ent := ⟨d__law_no_family, N__law_no_family, ["_law_row", "_law_family_here"], ro__law_no_family, fun ρ =>  Pl.m__law_no_family (ρ 34) (ρ 30)⟩
theorem ss__law_no_family (ρ : Nat → Fn) : SS { N := N__law_no_family, sc := defScope (top 49) } (Phi sig bs gis ρ) ro__law_no_family (defBody (top 49)) (Pl.m__law_no_family (ρ 34) (ρ 30)) :=
  (ss_cons (s_set 2 (se_call (fun g h => h.fn 34 _ rfl) (sl_v 1 sl_nil)))
    (ss_cons (s_set 3 (se_lst (sa_cons (se_tup (sa_cons (se_tup (sa_cons (se_int) (sa_cons (se_int) sa_nil))) (sa_cons (se_tup (sa_cons (se_int) (sa_cons (se_int) sa_nil))) sa_nil))) (sa_cons (se_tup (sa_cons (se_tup (sa_cons (se_int) (sa_cons (se_int) sa_nil))) (sa_cons (se_tup (sa_cons (se_int) (sa_cons (se_int) sa_nil))) (sa_cons (se_tup (sa_cons (se_int) (sa_cons (se_int) sa_nil))) sa_nil)))) (sa_cons (se_tup (sa_cons (se_tup (sa_cons (se_int) (sa_cons (se_int) (sa_cons (se_int) sa_nil)))) (sa_cons (se_tup (sa_cons (se_int) (sa_cons (se_int) (sa_cons (se_int) sa_nil)))) sa_nil))) (sa_cons (se_tup (sa_cons (se_tup (sa_cons (se_int) (sa_cons (se_int) sa_nil))) sa_nil)) (sa_cons (se_tup (sa_cons (se_tup (sa_cons (se_int) (sa_cons (se_int) sa_nil))) sa_nil)) (sa_cons (se_tup (sa_cons (se_tup (sa_cons (se_int) (sa_cons (se_int) sa_nil))) (sa_cons (se_tup (sa_cons (se_int) (sa_cons (se_int) sa_nil))) (sa_cons (se_tup (sa_cons (se_int) (sa_cons (se_int) sa_nil))) (sa_cons (se_tup (sa_cons (se_int) (sa_cons (se_int) sa_nil))) sa_nil))))) sa_nil))))))))
    (ss_one (s_ret (se_t1 (fun _ _ _ => b_tuple) boot_tuple (fun g h => h.bl 5 _ rfl) (so_e (se_b1 (fun _ hu _ => b_sortT hu) boot_sorted (fun g h => h.bl 10 _ rfl) (so_e (se_call (fun g h => h.fn 30 _ rfl) (sl_v 0 (sl_e (se_fz (se_add (so_v 3) (so_e (se_lst (sa_cons (se_add (so_v 1) (so_e (se_tup (sa_cons (se_tup (sa_cons (se_add (so_v 2) (so_e (se_int))) (sa_cons (se_add (so_v 2) (so_e (se_int))) sa_nil))) sa_nil)))) (sa_cons (se_tup (sa_cons (se_tup (sa_cons (se_int) (sa_cons (se_int) sa_nil))) (sa_cons (se_tup (sa_cons (se_int) (sa_cons (se_int) (sa_cons (se_int) sa_nil)))) sa_nil))) sa_nil)))))) sl_nil)))))))))))
theorem k__law_no_family : Ent.Ok sig bs gis e__law_no_family := ⟨rfl, rfl, rfl, ⟨rfl, rfl, rfl, by decide +kernel, rfl, by decide +kernel, by decide +kernel⟩, by decide, fun _ _ _ _ _ _ us hl => (match us, hl with | [_, _], _ => rfl), ss__law_no_family⟩
def N__law_error : List Str := ["_law_work", "e"]
def ro__law_error : Nat → Bool := fun i => ([true, false] : List Bool).getD i false
def e__law_error : Ent := ⟨d__law_error, N__law_error, ["_law_work"], ro__law_error, fun _ _ => none⟩
theorem k__law_error : Ent.Ok sig bs gis e__law_error := ⟨rfl, rfl, rfl, ⟨rfl, rfl, rfl, by decide +kernel, rfl, by decide +kernel, by decide +kernel⟩, by decide, fun _ _ _ _ _ _ us hl => (match us, hl with | [_], _ => rfl), fun _ => ss_no⟩
def N_law : List Str := ["_law_script", "_law_row", "_law_wide", "_law_turn", "_law_good", "_law_work", "_law_found", "_law_bad", "_law_wrong", "_law_bead", "_law_times"]
def ro_law : Nat → Bool := fun i => ([true] : List Bool).getD i false
def e_law : Ent := ⟨d_law, N_law, ["_law_script"], ro_law, fun _ _ => none⟩
theorem k_law : Ent.Ok sig bs gis e_law := ⟨rfl, rfl, rfl, ⟨rfl, rfl, rfl, by decide +kernel, rfl, by decide +kernel, by decide +kernel⟩, by decide, fun _ _ _ _ _ _ us hl => (match us, hl with | [_], _ => rfl), fun _ => ss_no⟩
def T : List Ent := [e_is_int, e_is_in, e_need_number, e_is_rising, e_is_bag, e_need_bags, e_size_of, e_shared_by, e_homes_of, e_reached_from, e_bar_of, e_ring_of, e_need_family, e_need_few, e_need_bead, e_poured_at, e_pairs_of, e_common, e_lowered, e_plus, e_after, e_need_blind, e_chances, e_are_together, e_together_chance, e_mean_wait, e_mean_greatest, e_likeliest, e_last_pair, e__law_taken, e__law_pick, e__law_mixed, e__law_named, e__law_family, e__law_size, e__law_wrong_bags, e__law_no_family, e__law_error, e_law]
theorem oks : Oks sig bs gis T := .cons k_is_int (.cons k_is_in (.cons k_need_number (.cons k_is_rising (.cons k_is_bag (.cons k_need_bags (.cons k_size_of (.cons k_shared_by (.cons k_homes_of (.cons k_reached_from (.cons k_bar_of (.cons k_ring_of (.cons k_need_family (.cons k_need_few (.cons k_need_bead (.cons k_poured_at (.cons k_pairs_of (.cons k_common (.cons k_lowered (.cons k_plus (.cons k_after (.cons k_need_blind (.cons k_chances (.cons k_are_together (.cons k_together_chance (.cons k_mean_wait (.cons k_mean_greatest (.cons k_likeliest (.cons k_last_pair (.cons k__law_taken (.cons k__law_pick (.cons k__law_mixed (.cons k__law_named (.cons k__law_family (.cons k__law_size (.cons k__law_wrong_bags (.cons k__law_no_family (.cons k__law_error (.cons k_law (.nil)))))))))))))))))))))))))))))))))))))))
theorem hsig : sig = T.map fun e => (e.d.name, e.ps.length) := rfl
def XT : List XEnt := [(fun _ _ => xNo), (fun _ _ => xNo), (fun ρ ρX => Pl.x_need_number (ρ 1)), (fun _ _ => xNo), (fun _ _ => xNo), (fun ρ ρX => Pl.x_need_bags (ρ 4) (ρ 3)), (fun _ _ => xNo), (fun _ _ => xNo), (fun _ _ => xNo), (fun _ _ => xNo), (fun _ _ => xNo), (fun _ _ => xNo), (fun ρ ρX => Pl.x_need_family (ρ 10) (ρ 5) (ρX 5)), (fun ρ ρX => x_need_few (ρ 12) (ρX 12)), (fun ρ ρX => Pl.x_need_bead (ρ 6) (ρ 1)), (fun _ _ => xNo), (fun _ _ => xNo), (fun _ _ => xNo), (fun _ _ => xNo), (fun _ _ => xNo), (fun _ _ => xNo), (fun ρ ρX => x_need_blind (ρ 13) (ρX 13) (ρX 2)), (fun ρ ρX => x_chances (ρX 21)), (fun _ _ => xNo), (fun ρ ρX => x_together_chance (ρ 14) (ρ 13) (ρX 13) (ρX 14) (ρX 2)), (fun ρ ρX => x_mean_wait (ρ 14) (ρ 13) (ρX 13) (ρX 14)), (fun ρ ρX => x_mean_greatest (ρX 21)), (fun ρ ρX => x_likeliest (ρX 21)), (fun ρ ρX => x_last_pair (ρX 13)), (fun _ _ => xNo), (fun _ _ => xNo), (fun _ _ => xNo), (fun _ _ => xNo), (fun _ _ => xNo), (fun _ _ => xNo), (fun _ _ => xNo), (fun _ _ => xNo), (fun _ _ => xNo), (fun _ _ => xNo)]
theorem oksX : OksX sig bs gis xs T XT := .cons (fun _ _ => sx_no) (.cons (fun _ _ => sx_no) (.cons sx_need_number (.cons (fun _ _ => sx_no) (.cons (fun _ _ => sx_no) (.cons sx_need_bags (.cons (fun _ _ => sx_no) (.cons (fun _ _ => sx_no) (.cons (fun _ _ => sx_no) (.cons (fun _ _ => sx_no) (.cons (fun _ _ => sx_no) (.cons (fun _ _ => sx_no) (.cons sx_need_family (.cons sx_need_few (.cons sx_need_bead (.cons (fun _ _ => sx_no) (.cons (fun _ _ => sx_no) (.cons (fun _ _ => sx_no) (.cons (fun _ _ => sx_no) (.cons (fun _ _ => sx_no) (.cons (fun _ _ => sx_no) (.cons sx_need_blind (.cons sx_chances (.cons (fun _ _ => sx_no) (.cons sx_together_chance (.cons sx_mean_wait (.cons sx_mean_greatest (.cons sx_likeliest (.cons sx_last_pair (.cons (fun _ _ => sx_no) (.cons (fun _ _ => sx_no) (.cons (fun _ _ => sx_no) (.cons (fun _ _ => sx_no) (.cons (fun _ _ => sx_no) (.cons (fun _ _ => sx_no) (.cons (fun _ _ => sx_no) (.cons (fun _ _ => sx_no) (.cons (fun _ _ => sx_no) (.cons (fun _ _ => sx_no) (.nil)))))))))))))))))))))))))))))))))))))))
theorem r_is_int (k : Nat) : rho T (k + 1) 0 = Pl.f_is_int := rfl
theorem r_is_in (k : Nat) : rho T (k + 1) 1 = Pl.f_is_in (rho T k 0) := rfl
theorem rx_need_number (k : Nat) : rhoX T XT (k + 1) 2 = Pl.g_need_number (rho T k 1) := rfl
theorem r_is_rising (k : Nat) : rho T (k + 1) 3 = Pl.f_is_rising := rfl
theorem r_is_bag (k : Nat) : rho T (k + 1) 4 = Pl.f_is_bag (rho T k 1) (rho T k 3) := rfl
theorem r_need_bags (k : Nat) : rho T (k + 1) 5 = Pl.f_need_bags (rho T k 4) (rho T k 3) := rfl
theorem rx_need_bags (k : Nat) : rhoX T XT (k + 1) 5 = Pl.g_need_bags (rho T k 4) (rho T k 3) := rfl
theorem r_size_of (k : Nat) : rho T (k + 1) 6 = Pl.f_size_of := rfl
theorem r_shared_by (k : Nat) : rho T (k + 1) 7 = Pl.f_shared_by := rfl
theorem r_homes_of (k : Nat) : rho T (k + 1) 8 = Pl.f_homes_of (rho T k 6) := rfl
theorem r_reached_from (k : Nat) : rho T (k + 1) 9 = Pl.f_reached_from := rfl
theorem r_bar_of (k : Nat) : rho T (k + 1) 10 = Pl.f_bar_of (rho T k 8) (rho T k 7) (rho T k 9) (rho T k 11) := rfl
theorem r_ring_of (k : Nat) : rho T (k + 1) 11 = Pl.f_ring_of := rfl
theorem r_need_family (k : Nat) : rho T (k + 1) 12 = Pl.f_need_family (rho T k 5) (rho T k 10) := rfl
theorem rx_need_family (k : Nat) : rhoX T XT (k + 1) 12 = Pl.g_need_family (rho T k 10) (rho T k 5) (rhoX T XT k 5) := rfl
theorem r_need_few (k : Nat) : rho T (k + 1) 13 = f_need_few (rho T k 12) := rfl
theorem rx_need_few (k : Nat) : rhoX T XT (k + 1) 13 = g_need_few (rho T k 12) (rhoX T XT k 12) := rfl
theorem r_need_bead (k : Nat) : rho T (k + 1) 14 = Pl.f_need_bead (rho T k 6) (rho T k 1) := rfl
theorem rx_need_bead (k : Nat) : rhoX T XT (k + 1) 14 = Pl.g_need_bead (rho T k 6) (rho T k 1) := rfl
theorem rx_need_blind (k : Nat) : rhoX T XT (k + 1) 21 = g_need_blind (rho T k 13) (rhoX T XT k 13) (rhoX T XT k 2) := rfl
theorem rx_chances (k : Nat) : rhoX T XT (k + 1) 22 = g_chances (rhoX T XT k 21) := rfl
theorem rx_together_chance (k : Nat) : rhoX T XT (k + 1) 24 = g_together_chance (rho T k 14) (rho T k 13) (rhoX T XT k 13) (rhoX T XT k 14) (rhoX T XT k 2) := rfl
theorem rx_mean_wait (k : Nat) : rhoX T XT (k + 1) 25 = g_mean_wait (rho T k 14) (rho T k 13) (rhoX T XT k 13) (rhoX T XT k 14) := rfl
theorem rx_mean_greatest (k : Nat) : rhoX T XT (k + 1) 26 = g_mean_greatest (rhoX T XT k 21) := rfl
theorem rx_likeliest (k : Nat) : rhoX T XT (k + 1) 27 = g_likeliest (rhoX T XT k 21) := rfl
theorem rx_last_pair (k : Nat) : rhoX T XT (k + 1) 28 = g_last_pair (rhoX T XT k 13) := rfl
theorem errDef : ErrDef bs clauses d__law_error N__law_error := ⟨rfl, rfl, ⟨rfl, rfl, rfl, by decide +kernel, rfl, by decide +kernel, by decide +kernel⟩, rfl, .inl rfl, fun _ _ _ _ _ _ us hl => (match us, hl with | [_], _ => rfl), fun X f cdv q hm hf hb => err_gives (l := clauses) rfl (by decide +kernel) (.plain (by decide +kernel) (.plain (by decide +kernel) (.plain (by decide +kernel) (.plain (by decide +kernel) (.fld (xfld_tag _ _) (.plain (by decide +kernel) .nil)))))) (fun s H => (.cons ⟨rfl, by decide, .inl (hm ("BadBags", "BadBags") (by decide +kernel))⟩ (fun _ _ _ _ _ _ _ => pss_one (ps_ret pe_str)) (.cons ⟨rfl, by decide, .inl (hm ("BadFamily", "BadFamily") (by decide +kernel))⟩ (fun _ _ _ _ _ _ _ => pss_one (ps_ret pe_str)) (.cons ⟨rfl, by decide, .inl (hm ("BadBead", "BadBead") (by decide +kernel))⟩ (fun _ _ _ _ _ _ _ => pss_one (ps_ret pe_str)) (.cons ⟨rfl, by decide, .inl (hm ("BadNumber", "BadNumber") (by decide +kernel))⟩ (fun _ _ _ _ _ _ _ => pss_one (ps_ret pe_str)) (.consA (n := "e") (i := 1) rfl rfl ⟨rfl, by decide, .inl (hm ("TooGreat", xtag "TooGreat" 0) (by decide +kernel))⟩ (fun _ _ _ _ _ hz hv => by exact pss_fld (X := (cxOf C8.CX0 X.prog X.w X.K X.mg X.base N__law_error "_law_error" d__law_error.scope f cdv X.A X.stack s H C8.E0).nox) (r := xtag "TooGreat" 0) (r0 := "TooGreat") (mn := "most") (by rw [xbase_tag]; have h := hf ("TooGreat", xtag "TooGreat" 0) (by decide +kernel) (by decide +kernel); rw [show xnam "TooGreat" = "most" by decide +kernel] at h; exact h) (xbase_tag _ _) (by rw [xbase_tag]; decide +kernel) (by rfl) (by exact .inl rfl) (by rfl) (hb "isinstance" (by decide +kernel)) (by rfl) (hb "ValueError" (by decide +kernel)) hz hv (by rfl) (by rfl) (by rfl)) (.cons ⟨rfl, by decide, .inl (hm ("BagError", "other") (by decide +kernel))⟩ (fun _ _ _ _ _ _ _ => pss_one (ps_ret pe_str)) .nil))))))) (fun _ => rfl)⟩
def m_law (c__law_family c__law_no_family c__law_wrong_bags c__law_pick c__law_size c_last_pair c_mean_wait c_chances c_together_chance : Fn) (x_chances x_likeliest x_mean_greatest x_together_chance x_last_pair x_mean_wait : FX) : M Fl := (mSeq (mSet 1 (mLst (mCons (mVar 0) (mCons (mC (.int 0)) (mCons (mC (.int 5253)) (mCons (mC (.int 0)) mNil)))))) (mSeq (mSet 2 (m1 (.e (mLc (mRg1 (mC (.int 9))) (.n 9) mYes (mTup (mCons (mVar 9) (mCons (m2 (.v 9) (.e (mC (.int 1))) addF) mNil))) [9])) tupcF)) (mSeq (mFor (mRg1 (mC (.int 3))) (.n 3) (mSeq (mSet 4 (mCall c__law_family (mCons (mTake 1) (mCons (mC (.int 7)) mNil)) [some 1, none])) (mSeq (mSetP [7, 8] (mCons (mCall c__law_wrong_bags (mCons (mTake 1) (mCons (mTake 4) mNil)) [some 1, some 4]) (mCons (mCall c__law_no_family (mCons (mTake 1) (mCons (mTake 4) mNil)) [some 1, some 4]) mNil))) (mSeq (mSetP [9, 10] (mCons (mCall c__law_pick (mCons (mTake 1) (mCons (mLst (mCons (m1 (.e (mC (.int 1))) negF) (mCons (mCall c__law_size (mCons (mTake 4) mNil) [some 4]) (mCons (mC .non) (mCons (mC (.str "0")) (mCons (mTup (mCons (mC (.int 0)) mNil)) mNil)))))) mNil)) [some 1, none]) (mCons (mCall c__law_pick (mCons (mTake 1) (mCons (mLst (mCons (m1 (.e (mC (.int 1))) negF) (mCons (m1 (.v 4) lenF) (mCons (mC .non) (mCons (mC (.str "0")) mNil))))) mNil)) [some 1, none]) mNil))) (mSeq (mForF 5 [(mSeq (mSet 6 (mLst (mCons (mErr xs clauses (xCallS x_chances (mCons (mTake 7) (mCons (mC .non) mNil)))) (mCons (mErr xs clauses (xCallS x_chances (mCons (mTake 8) (mCons (mC .non) mNil)))) (mCons (mErr xs clauses (xCallS x_chances (mCons (mTake 2) (mCons (mC .non) mNil)))) mNil))))) (mIf (mB (mBoth (mBoth (mVar 6) (mLst (mCons (mErr xs clauses (xCallS x_chances (mCons (mTake 4) (mCons (mTake 10) mNil)))) mNil)) addF) (mLst (mCons (mC (.str "BadBags")) (mCons (mC (.str "BadFamily")) (mCons (mTup (mCons (mC (.str "TooGreat")) (mCons (mC (.int 8)) mNil))) (mCons (mC (.str "BadNumber")) mNil))))) (cmpF .NotEq))) (mRet (mC (.bl false))) mNx)), (mSeq (mSet 6 (mLst (mCons (mErr xs clauses (xCallS x_likeliest (mCons (mTake 7) (mCons (mC .non) mNil)))) (mCons (mErr xs clauses (xCallS x_likeliest (mCons (mTake 8) (mCons (mC .non) mNil)))) (mCons (mErr xs clauses (xCallS x_likeliest (mCons (mTake 2) (mCons (mC .non) mNil)))) mNil))))) (mIf (mB (mBoth (mBoth (mVar 6) (mLst (mCons (mErr xs clauses (xCallS x_likeliest (mCons (mTake 4) (mCons (mTake 10) mNil)))) mNil)) addF) (mLst (mCons (mC (.str "BadBags")) (mCons (mC (.str "BadFamily")) (mCons (mTup (mCons (mC (.str "TooGreat")) (mCons (mC (.int 8)) mNil))) (mCons (mC (.str "BadNumber")) mNil))))) (cmpF .NotEq))) (mRet (mC (.bl false))) mNx)), (mSeq (mSet 6 (mLst (mCons (mErr xs clauses (xCallS x_mean_greatest (mCons (mTake 7) (mCons (mC .non) mNil)))) (mCons (mErr xs clauses (xCallS x_mean_greatest (mCons (mTake 8) (mCons (mC .non) mNil)))) (mCons (mErr xs clauses (xCallS x_mean_greatest (mCons (mTake 2) (mCons (mC .non) mNil)))) mNil))))) (mIf (mB (mBoth (mBoth (mVar 6) (mLst (mCons (mErr xs clauses (xCallS x_mean_greatest (mCons (mTake 4) (mCons (mTake 10) mNil)))) mNil)) addF) (mLst (mCons (mC (.str "BadBags")) (mCons (mC (.str "BadFamily")) (mCons (mTup (mCons (mC (.str "TooGreat")) (mCons (mC (.int 8)) mNil))) (mCons (mC (.str "BadNumber")) mNil))))) (cmpF .NotEq))) (mRet (mC (.bl false))) mNx))]) (mSeq (mSet 6 (mLst (mCons (mErr xs clauses (xCallS x_together_chance (mCons (mTake 2) (mCons (mC .non) (mCons (mC .non) (mCons (mC .non) mNil)))))) (mCons (mErr xs clauses (xCallS x_together_chance (mCons (mTake 4) (mCons (mTake 9) (mCons (mC .non) (mCons (mC .non) mNil)))))) mNil)))) (mSeq (mSet 6 (mBoth (mVar 6) (mLst (mCons (mErr xs clauses (xCallS x_together_chance (mCons (mTake 4) (mCons (mC (.int 0)) (mCons (mTake 9) (mCons (mTake 10) mNil)))))) (mCons (mErr xs clauses (xCallS x_together_chance (mCons (mTake 4) (mCons (mC (.int 0)) (mCons (mC (.int 1)) (mCons (mTake 10) mNil)))))) mNil))) addF)) (mSeq (mSet 6 (mBoth (mVar 6) (mLst (mCons (mErr xs clauses (xCallS x_mean_wait (mCons (mTake 4) (mCons (mTake 9) (mCons (mC .non) mNil))))) (mCons (mErr xs clauses (xCallS x_mean_wait (mCons (mTake 4) (mCons (mC (.int 0)) (mCons (mTake 9) mNil))))) (mCons (mErr xs clauses (xCallS x_last_pair (mCons (mTake 2) mNil))) mNil)))) addF)) (mIf (mB (m2 (.v 6) (.e (mLst (mCons (mTup (mCons (mC (.str "TooGreat")) (mCons (mC (.int 8)) mNil))) (mCons (mC (.str "BadBead")) (mCons (mC (.str "BadBead")) (mCons (mC (.str "BadNumber")) (mCons (mC (.str "BadBead")) (mCons (mC (.str "BadBead")) (mCons (mTup (mCons (mC (.str "TooGreat")) (mCons (mC (.int 8)) mNil))) mNil))))))))) (cmpF .NotEq))) (mRet (mC (.bl false))) mNx))))))))) (mSeq (mIf (mOr (mB (m2 (.e (mCall c_last_pair (mCons (mTup (mCons (mTup (mCons (mC (.int 0)) (mCons (mC (.int 1)) mNil))) mNil)) mNil) [none])) (.e (mTup mNil)) (cmpF .NotEq))) (mB (m2 (.e (mCall c_mean_wait (mCons (mTup (mCons (mTup (mCons (mC (.int 0)) (mCons (mC (.int 1)) mNil))) mNil)) (mCons (mC (.int 0)) (mCons (mC (.int 1)) mNil))) [none, none, none])) (.e (mTup (mCons (mC (.int 0)) (mCons (mC (.int 1)) mNil)))) (cmpF .NotEq)))) (mRet (mC (.bl false))) mNx) (mRet (mD (mAnd (mB (m2 (.e (mCall c_chances (mCons (mTup (mCons (mTup (mCons (mC (.int 0)) (mCons (mC (.int 1)) mNil))) mNil)) (mCons (mC (.int 0)) mNil)) [none, none])) (.e (mTup (mCons (mTup (mCons (mTup (mCons (mTup (mCons (mC (.int 0)) (mCons (mC (.int 1)) mNil))) mNil)) (mCons (mTup (mCons (mC (.int 1)) (mCons (mC (.int 1)) mNil))) mNil))) mNil))) (cmpF .Eq))) (mB (m2 (.e (mCall c_together_chance (mCons (mTup (mCons (mTup (mCons (mC (.int 0)) (mCons (mC (.int 1)) mNil))) mNil)) (mCons (mC (.int 0)) (mCons (mC (.int 0)) (mCons (mC (.int 0)) mNil)))) [none, none, none, none])) (.e (mTup (mCons (mC (.int 1)) (mCons (mC (.int 1)) mNil)))) (cmpF .Eq))))))))))
set_option maxHeartbeats 4000000 in
theorem ls_law (ρ ρ2 : Nat → Fn) (ρX : Nat → FX) : LS { N := N_law, sc := defScope (top 51) } (PhiL sig bs gis xs clauses ρ ρ2 ρX) [] ro_law (defBody (top 51)) (m_law (ρ 33) (ρ 36) (ρ 35) (ρ 30) (ρ 34) (ρ 28) (ρ 25) (ρ 22) (ρ 24) (ρX 22) (ρX 27) (ρX 26) (ρX 24) (ρX 28) (ρX 25)) :=
  (ls_cons (ls_st (s_set 1 (se_lst (sa_cons (se_var 0) (sa_cons (se_int) (sa_cons (se_int) (sa_cons (se_int) sa_nil)))))))
    (ls_cons (ls_st (s_set 2 (se_t1 (fun _ _ _ => b_tuple) boot_tuple (fun g h => h.bl 5 _ rfl) (so_e (se_lc (own := [("_law_bead", 9)]) (by decide +kernel) (si_rg1 (se_int) (fun g h => h.bl 8 _ rfl)) (sg_n 9) sts_nil (se_tup (sa_cons (se_var 9) (sa_cons (se_add (so_v 9) (so_e (se_int))) sa_nil))))))))
    (ls_cons (ls_range (se_int) (fun g h => h.bl 8 _ rfl) (sg_n 3) (ls_cons (ls_st (s_set 4 (se_call (fun g h => h.fn 33 _ rfl) (sl_v 1 (sl_e (se_int) sl_nil)))))
    (ls_cons (ls_st (s_setP (sa_cons (se_call (fun g h => h.fn 35 _ rfl) (sl_v 1 (sl_v 4 sl_nil))) (sa_cons (se_call (fun g h => h.fn 36 _ rfl) (sl_v 1 (sl_v 4 sl_nil))) sa_nil)) (sgs_cons 7 (sgs_cons 8 sgs_nil))))
    (ls_cons (ls_st (s_setP (sa_cons (se_call (fun g h => h.fn 30 _ rfl) (sl_v 1 (sl_e (se_lst (sa_cons (se_neg (so_e (se_int))) (sa_cons (se_call (fun g h => h.fn 34 _ rfl) (sl_v 4 sl_nil)) (sa_cons (se_non) (sa_cons (se_str) (sa_cons (se_tup (sa_cons (se_int) sa_nil)) sa_nil)))))) sl_nil))) (sa_cons (se_call (fun g h => h.fn 30 _ rfl) (sl_v 1 (sl_e (se_lst (sa_cons (se_neg (so_e (se_int))) (sa_cons (se_b1 (fun _ _ _ => b_len) boot_len (fun g h => h.bl 6 _ rfl) (so_v 4)) (sa_cons (se_non) (sa_cons (se_str) sa_nil))))) sl_nil))) sa_nil)) (sgs_cons 9 (sgs_cons 10 sgs_nil))))
    (ls_cons (ls_forF 5 (L := [("chances", _), ("likeliest", _), ("mean_greatest", _)]) (.cons (fun g h => h.gl 22 _ rfl) rfl (by decide) (.cons (fun g h => h.gl 27 _ rfl) rfl (by decide) (.cons (fun g h => h.gl 26 _ rfl) rfl (by decide) .nil))) (.cons (ls_cons (ls_set 6 (le_lst (la_cons (le_err (fun g h => h.err) (fun g h => h.exm) (o := none) ⟨rfl, rfl, fun _ _ _ _ _ _ => rfl⟩ (sxl_call 5 (fun g h => h.fnX 22 _ rfl) (fun g h => h.gl 22 _ rfl) (List.mem_cons_self ..) (sl_v 7 (sl_e (se_non) sl_nil)))) (la_cons (le_err (fun g h => h.err) (fun g h => h.exm) (o := some "_law_a") ⟨⟨_, _, _, rfl⟩, rfl, rfl, fun _ _ _ _ _ _ _ _ => ⟨_, rfl, rfl⟩⟩ (sxl_call 5 (fun g h => h.fnX 22 _ rfl) (fun g h => h.gl 22 _ rfl) (List.mem_cons_self ..) (sl_v 8 (sl_e (se_non) sl_nil)))) (la_cons (le_err (fun g h => h.err) (fun g h => h.exm) (o := some "_law_b") ⟨⟨_, _, _, rfl⟩, rfl, rfl, fun _ _ _ _ _ _ _ _ => ⟨_, rfl, rfl⟩⟩ (sxl_call 5 (fun g h => h.fnX 22 _ rfl) (fun g h => h.gl 22 _ rfl) (List.mem_cons_self ..) (sl_v 2 (sl_e (se_non) sl_nil)))) la_nil)))))
    (ls_one (ls_if (lt_cmp (le_add (le_se (se_var 6)) (le_lst (la_cons (le_err (fun g h => h.err) (fun g h => h.exm) (o := none) ⟨rfl, rfl, fun _ _ _ _ _ _ => rfl⟩ (sxl_call 5 (fun g h => h.fnX 22 _ rfl) (fun g h => h.gl 22 _ rfl) (List.mem_cons_self ..) (sl_v 4 (sl_v 10 sl_nil)))) la_nil))) (le_se (se_lst (sa_cons (se_str) (sa_cons (se_str) (sa_cons (se_tup (sa_cons (se_str) (sa_cons (se_int) sa_nil))) (sa_cons (se_str) sa_nil))))))) (ls_one (ls_st (s_ret (se_bl)))) ls_nil))) (.cons (ls_cons (ls_set 6 (le_lst (la_cons (le_err (fun g h => h.err) (fun g h => h.exm) (o := none) ⟨rfl, rfl, fun _ _ _ _ _ _ => rfl⟩ (sxl_call 5 (fun g h => h.fnX 27 _ rfl) (fun g h => h.gl 27 _ rfl) (List.mem_cons_self ..) (sl_v 7 (sl_e (se_non) sl_nil)))) (la_cons (le_err (fun g h => h.err) (fun g h => h.exm) (o := some "_law_a") ⟨⟨_, _, _, rfl⟩, rfl, rfl, fun _ _ _ _ _ _ _ _ => ⟨_, rfl, rfl⟩⟩ (sxl_call 5 (fun g h => h.fnX 27 _ rfl) (fun g h => h.gl 27 _ rfl) (List.mem_cons_self ..) (sl_v 8 (sl_e (se_non) sl_nil)))) (la_cons (le_err (fun g h => h.err) (fun g h => h.exm) (o := some "_law_b") ⟨⟨_, _, _, rfl⟩, rfl, rfl, fun _ _ _ _ _ _ _ _ => ⟨_, rfl, rfl⟩⟩ (sxl_call 5 (fun g h => h.fnX 27 _ rfl) (fun g h => h.gl 27 _ rfl) (List.mem_cons_self ..) (sl_v 2 (sl_e (se_non) sl_nil)))) la_nil)))))
    (ls_one (ls_if (lt_cmp (le_add (le_se (se_var 6)) (le_lst (la_cons (le_err (fun g h => h.err) (fun g h => h.exm) (o := none) ⟨rfl, rfl, fun _ _ _ _ _ _ => rfl⟩ (sxl_call 5 (fun g h => h.fnX 27 _ rfl) (fun g h => h.gl 27 _ rfl) (List.mem_cons_self ..) (sl_v 4 (sl_v 10 sl_nil)))) la_nil))) (le_se (se_lst (sa_cons (se_str) (sa_cons (se_str) (sa_cons (se_tup (sa_cons (se_str) (sa_cons (se_int) sa_nil))) (sa_cons (se_str) sa_nil))))))) (ls_one (ls_st (s_ret (se_bl)))) ls_nil))) (.cons (ls_cons (ls_set 6 (le_lst (la_cons (le_err (fun g h => h.err) (fun g h => h.exm) (o := none) ⟨rfl, rfl, fun _ _ _ _ _ _ => rfl⟩ (sxl_call 5 (fun g h => h.fnX 26 _ rfl) (fun g h => h.gl 26 _ rfl) (List.mem_cons_self ..) (sl_v 7 (sl_e (se_non) sl_nil)))) (la_cons (le_err (fun g h => h.err) (fun g h => h.exm) (o := some "_law_a") ⟨⟨_, _, _, rfl⟩, rfl, rfl, fun _ _ _ _ _ _ _ _ => ⟨_, rfl, rfl⟩⟩ (sxl_call 5 (fun g h => h.fnX 26 _ rfl) (fun g h => h.gl 26 _ rfl) (List.mem_cons_self ..) (sl_v 8 (sl_e (se_non) sl_nil)))) (la_cons (le_err (fun g h => h.err) (fun g h => h.exm) (o := some "_law_b") ⟨⟨_, _, _, rfl⟩, rfl, rfl, fun _ _ _ _ _ _ _ _ => ⟨_, rfl, rfl⟩⟩ (sxl_call 5 (fun g h => h.fnX 26 _ rfl) (fun g h => h.gl 26 _ rfl) (List.mem_cons_self ..) (sl_v 2 (sl_e (se_non) sl_nil)))) la_nil)))))
    (ls_one (ls_if (lt_cmp (le_add (le_se (se_var 6)) (le_lst (la_cons (le_err (fun g h => h.err) (fun g h => h.exm) (o := none) ⟨rfl, rfl, fun _ _ _ _ _ _ => rfl⟩ (sxl_call 5 (fun g h => h.fnX 26 _ rfl) (fun g h => h.gl 26 _ rfl) (List.mem_cons_self ..) (sl_v 4 (sl_v 10 sl_nil)))) la_nil))) (le_se (se_lst (sa_cons (se_str) (sa_cons (se_str) (sa_cons (se_tup (sa_cons (se_str) (sa_cons (se_int) sa_nil))) (sa_cons (se_str) sa_nil))))))) (ls_one (ls_st (s_ret (se_bl)))) ls_nil))) .nil))) (sg_n 5))
    (ls_cons (ls_set 6 (le_lst (la_cons (le_err (fun g h => h.err) (fun g h => h.exm) (o := none) ⟨rfl, rfl, fun _ _ _ _ _ _ => rfl⟩ (sxl_glob (fun g h => h.fnX 24 _ rfl) (sl_v 2 (sl_e (se_non) (sl_e (se_non) (sl_e (se_non) sl_nil)))))) (la_cons (le_err (fun g h => h.err) (fun g h => h.exm) (o := some "_law_a") ⟨⟨_, _, _, rfl⟩, rfl, rfl, fun _ _ _ _ _ _ _ _ => ⟨_, rfl, rfl⟩⟩ (sxl_glob (fun g h => h.fnX 24 _ rfl) (sl_v 4 (sl_v 9 (sl_e (se_non) (sl_e (se_non) sl_nil)))))) la_nil))))
    (ls_cons (ls_set 6 (le_add (le_se (se_var 6)) (le_lst (la_cons (le_err (fun g h => h.err) (fun g h => h.exm) (o := none) ⟨rfl, rfl, fun _ _ _ _ _ _ => rfl⟩ (sxl_glob (fun g h => h.fnX 24 _ rfl) (sl_v 4 (sl_e (se_int) (sl_v 9 (sl_v 10 sl_nil)))))) (la_cons (le_err (fun g h => h.err) (fun g h => h.exm) (o := some "_law_a") ⟨⟨_, _, _, rfl⟩, rfl, rfl, fun _ _ _ _ _ _ _ _ => ⟨_, rfl, rfl⟩⟩ (sxl_glob (fun g h => h.fnX 24 _ rfl) (sl_v 4 (sl_e (se_int) (sl_e (se_int) (sl_v 10 sl_nil)))))) la_nil)))))
    (ls_cons (ls_set 6 (le_add (le_se (se_var 6)) (le_lst (la_cons (le_err (fun g h => h.err) (fun g h => h.exm) (o := none) ⟨rfl, rfl, fun _ _ _ _ _ _ => rfl⟩ (sxl_glob (fun g h => h.fnX 25 _ rfl) (sl_v 4 (sl_v 9 (sl_e (se_non) sl_nil))))) (la_cons (le_err (fun g h => h.err) (fun g h => h.exm) (o := some "_law_a") ⟨⟨_, _, _, rfl⟩, rfl, rfl, fun _ _ _ _ _ _ _ _ => ⟨_, rfl, rfl⟩⟩ (sxl_glob (fun g h => h.fnX 25 _ rfl) (sl_v 4 (sl_e (se_int) (sl_v 9 sl_nil))))) (la_cons (le_err (fun g h => h.err) (fun g h => h.exm) (o := some "_law_b") ⟨⟨_, _, _, rfl⟩, rfl, rfl, fun _ _ _ _ _ _ _ _ => ⟨_, rfl, rfl⟩⟩ (sxl_glob (fun g h => h.fnX 28 _ rfl) (sl_v 2 sl_nil))) la_nil))))))
    (ls_one (ls_st (s_if (st_cmp (so_v 6) (so_e (se_lst (sa_cons (se_tup (sa_cons (se_str) (sa_cons (se_int) sa_nil))) (sa_cons (se_str) (sa_cons (se_str) (sa_cons (se_str) (sa_cons (se_str) (sa_cons (se_str) (sa_cons (se_tup (sa_cons (se_str) (sa_cons (se_int) sa_nil))) sa_nil)))))))))) (ss_one (s_ret (se_bl))) ss_nil)))))))))))
    (ls_cons (ls_st (s_if (SW.st (sw_or (st_cmp (so_e (se_call (fun g h => h.fn 28 _ rfl) (sl_e (se_tup (sa_cons (se_tup (sa_cons (se_int) (sa_cons (se_int) sa_nil))) sa_nil)) sl_nil))) (so_e (se_tup sa_nil))) (sw_or1 (st_cmp (so_e (se_call (fun g h => h.fn 25 _ rfl) (sl_e (se_tup (sa_cons (se_tup (sa_cons (se_int) (sa_cons (se_int) sa_nil))) sa_nil)) (sl_e (se_int) (sl_e (se_int) sl_nil))))) (so_e (se_tup (sa_cons (se_int) (sa_cons (se_int) sa_nil)))))))) (ss_one (s_ret (se_bl))) ss_nil))
    (ls_one (ls_st (s_ret ((sv_and (sv_e (se_cmp (so_e (se_call (fun g h => h.fn 22 _ rfl) (sl_e (se_tup (sa_cons (se_tup (sa_cons (se_int) (sa_cons (se_int) sa_nil))) sa_nil)) (sl_e (se_int) sl_nil)))) (so_e (se_tup (sa_cons (se_tup (sa_cons (se_tup (sa_cons (se_tup (sa_cons (se_int) (sa_cons (se_int) sa_nil))) sa_nil)) (sa_cons (se_tup (sa_cons (se_int) (sa_cons (se_int) sa_nil))) sa_nil))) sa_nil))))) (sv_and1 (sv_e (se_cmp (so_e (se_call (fun g h => h.fn 24 _ rfl) (sl_e (se_tup (sa_cons (se_tup (sa_cons (se_int) (sa_cons (se_int) sa_nil))) sa_nil)) (sl_e (se_int) (sl_e (se_int) (sl_e (se_int) sl_nil)))))) (so_e (se_tup (sa_cons (se_int) (sa_cons (se_int) sa_nil))))))))))))))))
def f_law (k : Nat) : Fn := runD N_law.length 1 ro_law (m_law (rho T (k + 2) 33) (rho T (k + 2) 36) (rho T (k + 2) 35) (rho T (k + 2) 30) (rho T (k + 2) 34) (rho T (k + 2) 28) (rho T (k + 2) 25) (rho T (k + 2) 22) (rho T (k + 2) 24) (rhoX T XT k 22) (rhoX T XT k 27) (rhoX T XT k 26) (rhoX T XT k 24) (rhoX T XT k 28) (rhoX T XT k 25))
end K53
namespace K53
open PySem PySem.Spec PyProof.Rows L2 Va Pl Nm
/-- a good family, as data -/
structure GdF (n : Int) (d : D) : Prop where
  imm : Va.imm d = true
  xk : X_need_family [d] = none
  fk : F_need_family [d] = some (.non, [some d])
  sz : F_size_of [d] = some (.int n, [some d])
theorem gd_of {n : Int} {F : List Bag} (H : Fam n F) : GdF n (famD F) := ⟨rfl, xf_good H, Pl.q_need_family H, Pl.q_size_of H⟩
def F_need_few : Fn := f_need_few F_need_family
def X_need_few : FX := g_need_few F_need_family X_need_family
/-- a good family of so many bags, as data -/
structure GdL (n l : Int) (d : D) : Prop where
  gd : GdF n d
  ln : lenF d = some (.int l)
theorem gl_of {n : Int} {F : List Bag} (H : Fam n F) : GdL n (F.length : Int) (famD F) := ⟨gd_of H, by simp⟩
theorem xw_ok {n l m : Int} {d : D} (g : GdL n l d) (h : l ≤ m) : X_need_few [d, .int m] = none := by
  have hq : cmpF .Gt (.int l) (.int m) = some (.bl false) := by
    show some (D.bl (decide (l > m))) = _
    rw [decide_eq_false (by omega)]
  unfold X_need_few g_need_few x_need_few
  simp [runX, g.gd.xk, g.gd.fk, g.ln, g.gd.imm, hq, -ev_gt]
theorem fw_ok {n l m : Int} {d : D} (g : GdL n l d) (h : l ≤ m) : F_need_few [d, .int m] = some (.non, [some d, some (.int m)]) := by
  have hq : cmpF .Gt (.int l) (.int m) = some (.bl false) := by
    show some (D.bl (decide (l > m))) = _
    rw [decide_eq_false (by omega)]
  unfold F_need_few f_need_few m_need_few
  simp [runD, g.gd.fk, g.ln, g.gd.imm, hq, -ev_gt]
theorem xw_big {n l m : Int} {d : D} (g : GdL n l d) (h : m < l) (h0 : 0 ≤ m) : X_need_few [d, .int m] = some (xtag "TooGreat" m.toNat : Str) := by
  have hq : cmpF .Gt (.int l) (.int m) = some (.bl true) := by
    show some (D.bl (decide (l > m))) = _
    rw [decide_eq_true (by omega)]
  have hx : xRaiseF "TooGreat" (mVar 1) [some d, some (.int m)] = some (xtag "TooGreat" m.toNat) := by
    show (match decide (0 ≤ m) with | true => some (xtag "TooGreat" m.toNat) | false => none) = _
    rw [decide_eq_true h0]
  unfold X_need_few g_need_few x_need_few
  simp [runX, g.gd.xk, g.gd.fk, g.ln, g.gd.imm, hq, hx, -ev_gt]
theorem xw_bad {d : D} {m : Int} (h : NoBags d) : X_need_few [d, .int m] = some ("BadBags" : Str) := by
  have e := x_family h
  unfold X_need_few g_need_few x_need_few
  simp [runX, e, h.1]
theorem xw_wrong {d : D} {m : Int} (h : NoFam d) : X_need_few [d, .int m] = some ("BadFamily" : Str) := by
  have e := h.fam
  unfold X_need_few g_need_few x_need_few
  simp [runX, e, h.imm]
def WD : D := famD [[0, 1], [1, 2], [2, 3], [3, 4], [4, 5], [5, 6], [6, 7], [7, 8], [8, 9]]
theorem imm_wd : Va.imm WD = true := rfl
theorem wd_gd : GdF 10 WD := ⟨rfl, by kernel_rfl, by kernel_rfl, by kernel_rfl⟩
theorem wd_gl : GdL 10 9 WD := ⟨wd_gd, rfl⟩
def X_need_blind : FX := g_need_blind F_need_few X_need_few X_need_number
theorem xb_bad {a b : D} {k : Str} (ia : Va.imm a = true) (ib : Va.imm b = true) (h : X_need_few [a, .int 8] = some k) : X_need_blind [a, b] = some k := by
  unfold X_need_blind g_need_blind x_need_blind
  simp [runX, h, ia, ib]
theorem xb_num {n l : Int} {a b : D} (g : GdL n l a) (hl : l ≤ 8) (h : NoIn b 0 (l - 1)) : X_need_blind [a, b] = some ("BadNumber" : Str) := by
  have e1 := xw_ok g hl
  have e2 := fw_ok g hl
  have e3 := g.ln
  have e5 := x_number h
  have ia := g.gd.imm
  have ib := h.1
  unfold X_need_blind g_need_blind x_need_blind
  simp [runX, e1, e2, e3, e5, ia, ib]
theorem z_is_int (k : Nat) : rho T (k + 1) 0 = F_is_int := (r_is_int k).trans rfl
theorem z_is_in (k : Nat) : rho T (k + 2) 1 = F_is_in := (r_is_in (k + 1)).trans (by rw [show rho T (k + 1) 0 = F_is_int from z_is_int k]; first | done | rfl)
theorem zx_need_number (k : Nat) : rhoX T XT (k + 3) 2 = X_need_number := (rx_need_number (k + 2)).trans (by rw [show rho T (k + 2) 1 = F_is_in from z_is_in k]; first | done | rfl)
theorem z_is_rising (k : Nat) : rho T (k + 1) 3 = F_is_rising := (r_is_rising k).trans rfl
theorem z_is_bag (k : Nat) : rho T (k + 3) 4 = F_is_bag := (r_is_bag (k + 2)).trans (by rw [show rho T (k + 2) 1 = F_is_in from z_is_in k, show rho T (k + 2) 3 = F_is_rising from z_is_rising (k + 1)]; first | done | rfl)
theorem z_need_bags (k : Nat) : rho T (k + 4) 5 = F_need_bags := (r_need_bags (k + 3)).trans (by rw [show rho T (k + 3) 4 = F_is_bag from z_is_bag k, show rho T (k + 3) 3 = F_is_rising from z_is_rising (k + 2)]; first | done | rfl)
theorem zx_need_bags (k : Nat) : rhoX T XT (k + 4) 5 = X_need_bags := (rx_need_bags (k + 3)).trans (by rw [show rho T (k + 3) 4 = F_is_bag from z_is_bag k, show rho T (k + 3) 3 = F_is_rising from z_is_rising (k + 2)]; first | done | rfl)
theorem z_size_of (k : Nat) : rho T (k + 1) 6 = F_size_of := (r_size_of k).trans rfl
theorem z_shared_by (k : Nat) : rho T (k + 1) 7 = F_shared_by := (r_shared_by k).trans rfl
theorem z_homes_of (k : Nat) : rho T (k + 2) 8 = F_homes_of := (r_homes_of (k + 1)).trans (by rw [show rho T (k + 1) 6 = F_size_of from z_size_of k]; first | done | rfl)
theorem z_reached_from (k : Nat) : rho T (k + 1) 9 = F_reached_from := (r_reached_from k).trans rfl
theorem z_ring_of (k : Nat) : rho T (k + 1) 11 = F_ring_of := (r_ring_of k).trans rfl
theorem z_bar_of (k : Nat) : rho T (k + 3) 10 = F_bar_of := (r_bar_of (k + 2)).trans (by rw [show rho T (k + 2) 8 = F_homes_of from z_homes_of k, show rho T (k + 2) 7 = F_shared_by from z_shared_by (k + 1), show rho T (k + 2) 9 = F_reached_from from z_reached_from (k + 1), show rho T (k + 2) 11 = F_ring_of from z_ring_of (k + 1)]; first | done | rfl)
theorem z_need_family (k : Nat) : rho T (k + 5) 12 = F_need_family := (r_need_family (k + 4)).trans (by rw [show rho T (k + 4) 5 = F_need_bags from z_need_bags k, show rho T (k + 4) 10 = F_bar_of from z_bar_of (k + 1)]; first | done | rfl)
theorem zx_need_family (k : Nat) : rhoX T XT (k + 5) 12 = X_need_family := (rx_need_family (k + 4)).trans (by rw [show rho T (k + 4) 10 = F_bar_of from z_bar_of (k + 1), show rho T (k + 4) 5 = F_need_bags from z_need_bags k, show rhoX T XT (k + 4) 5 = X_need_bags from zx_need_bags k]; first | done | rfl)
theorem z_need_few (k : Nat) : rho T (k + 6) 13 = F_need_few := (r_need_few (k + 5)).trans (by rw [show rho T (k + 5) 12 = F_need_family from z_need_family k]; first | done | rfl)
theorem zx_need_few (k : Nat) : rhoX T XT (k + 6) 13 = X_need_few := (rx_need_few (k + 5)).trans (by rw [show rho T (k + 5) 12 = F_need_family from z_need_family k, show rhoX T XT (k + 5) 12 = X_need_family from zx_need_family k]; first | done | rfl)
theorem z_need_bead (k : Nat) : rho T (k + 3) 14 = F_need_bead := (r_need_bead (k + 2)).trans (by rw [show rho T (k + 2) 6 = F_size_of from z_size_of (k + 1), show rho T (k + 2) 1 = F_is_in from z_is_in k]; first | done | rfl)
theorem zx_need_bead (k : Nat) : rhoX T XT (k + 3) 14 = X_need_bead := (rx_need_bead (k + 2)).trans (by rw [show rho T (k + 2) 6 = F_size_of from z_size_of (k + 1), show rho T (k + 2) 1 = F_is_in from z_is_in k]; first | done | rfl)
theorem zx_need_blind (k : Nat) : rhoX T XT (k + 7) 21 = X_need_blind := (rx_need_blind (k + 6)).trans (by rw [show rho T (k + 6) 13 = F_need_few from z_need_few k, show rhoX T XT (k + 6) 13 = X_need_few from zx_need_few k, show rhoX T XT (k + 6) 2 = X_need_number from zx_need_number (k + 3)]; first | done | rfl)
theorem q__law_taken (ns : List Int) (k : Nat) : SpTaken ns (rho T (k + 1) 29) := taken_sp ns
theorem q__law_pick (ns : List Int) (k : Nat) : SpPick ns (rho T (k + 2) 30) := pick_sp (q__law_taken ns k)
theorem q__law_mixed (ns : List Int) (k : Nat) : SpMixed ns (rho T (k + 2) 31) := mixed_sp (q__law_taken ns k)
theorem q__law_family (ns : List Int) (k : Nat) : SpFamily ns (rho T (k + 3) 33) := family_sp (q__law_taken ns (k + 1)) (q__law_pick ns k) (q__law_mixed ns k) fun {B names} h1 h2 h3 => named_ok h1 h2 h3
theorem q__law_size (k : Nat) : SpSize (rho T (k + 1) 34) := fun {n F} H => law_size_ok H
theorem q__law_wrong_bags (ns : List Int) (k : Nat) : SpWrong ns (rho T (k + 3) 35) := wrong_sp (q__law_pick ns k)
theorem q__law_no_family (ns : List Int) (k : Nat) : SpNo ns (rho T (k + 3) 36) := no_sp (q__law_size (k + 1)) (q__law_pick ns k)
theorem told_BadBags : told xs clauses ("BadBags" : Str) = some (.str "BadBags") := by kernel_rfl
theorem ne_BadBags : necF (.str "BadBags") (.str "BadBags") = some (.bl false) := by kernel_rfl
theorem told_BadBead : told xs clauses ("BadBead" : Str) = some (.str "BadBead") := by kernel_rfl
theorem ne_BadBead : necF (.str "BadBead") (.str "BadBead") = some (.bl false) := by kernel_rfl
theorem told_BadFamily : told xs clauses ("BadFamily" : Str) = some (.str "BadFamily") := by kernel_rfl
theorem ne_BadFamily : necF (.str "BadFamily") (.str "BadFamily") = some (.bl false) := by kernel_rfl
theorem told_BadNumber : told xs clauses ("BadNumber" : Str) = some (.str "BadNumber") := by kernel_rfl
theorem ne_BadNumber : necF (.str "BadNumber") (.str "BadNumber") = some (.bl false) := by kernel_rfl
theorem told_TooGreat_8 : told xs clauses (xtag "TooGreat" 8 : Str) = some (.tup [.str "TooGreat", .int 8]) := by kernel_rfl
theorem ne_TooGreat_8 : necF (.tup [.str "TooGreat", .int 8]) (.tup [.str "TooGreat", .int 8]) = some (.bl false) := by kernel_rfl
section
variable {n : Int} {F : List Bag} {bad wrong bead times : D} (H : Fam n F) (hn : n ≤ 7) (hb : NoBags bad) (hw : NoFam wrong) (h_bead : NoIn bead 0 (n - 1)) (h_times : NoIn times 0 ((F.length : Int) - 1))
include H hn hb hw h_bead h_times
theorem s_1 : rhoX T XT 20 22 [bad, .non] = some ("BadBags" : Str) := by
  have h2 := H.n2
  have hf := H.few
  have gl := gl_of H
  have g := gl.gd
  have gn := gl.ln
  have i1 := g.imm
  have a1 := xb_bad hb.1 (b := .non) rfl (xw_bad hb (m := 8))
  have a2 := xb_bad hw.imm (b := .non) rfl (xw_wrong hw (m := 8))
  have a3 := xb_bad imm_wd (b := .non) rfl (xw_big wd_gl (m := 8) (by omega) (by omega))
  have a4 := xb_num gl (by omega) h_times
  have b2 := xw_ok gl (m := 8) (by omega)
  have b3 := fw_ok gl (m := 8) (by omega)
  have b4 := xw_big wd_gl (m := 8) (by omega) (by omega)
  have d0 := xd_good H (x := 0) (by omega) (by omega)
  have d1 := q_need_bead H (x := 0) (by omega) (by omega)
  have d2 := xd_good H (x := 1) (by omega) (by omega)
  have d3 := q_need_bead H (x := 1) (by omega) (by omega)
  have d4 := x_bead H h_bead
  have n1 := x_number h_times
  have t8 : (8 : Int).toNat = 8 := rfl
  generalize famD F = F1 at *
  refine (congrFun (rx_chances 19) _).trans ?_
  rw [show rhoX T XT 19 21 = X_need_blind from zx_need_blind 12]
  unfold g_chances x_chances
  simp [runX, a1, a2, a3, a4, b2, b3, b4, d0, d1, d2, d3, d4, n1, gn, hb.1, hw.imm, h_bead.1, h_times.1, imm_wd, i1, t8]
theorem s_2 : rhoX T XT 20 22 [wrong, .non] = some ("BadFamily" : Str) := by
  have h2 := H.n2
  have hf := H.few
  have gl := gl_of H
  have g := gl.gd
  have gn := gl.ln
  have i1 := g.imm
  have a1 := xb_bad hb.1 (b := .non) rfl (xw_bad hb (m := 8))
  have a2 := xb_bad hw.imm (b := .non) rfl (xw_wrong hw (m := 8))
  have a3 := xb_bad imm_wd (b := .non) rfl (xw_big wd_gl (m := 8) (by omega) (by omega))
  have a4 := xb_num gl (by omega) h_times
  have b2 := xw_ok gl (m := 8) (by omega)
  have b3 := fw_ok gl (m := 8) (by omega)
  have b4 := xw_big wd_gl (m := 8) (by omega) (by omega)
  have d0 := xd_good H (x := 0) (by omega) (by omega)
  have d1 := q_need_bead H (x := 0) (by omega) (by omega)
  have d2 := xd_good H (x := 1) (by omega) (by omega)
  have d3 := q_need_bead H (x := 1) (by omega) (by omega)
  have d4 := x_bead H h_bead
  have n1 := x_number h_times
  have t8 : (8 : Int).toNat = 8 := rfl
  generalize famD F = F1 at *
  refine (congrFun (rx_chances 19) _).trans ?_
  rw [show rhoX T XT 19 21 = X_need_blind from zx_need_blind 12]
  unfold g_chances x_chances
  simp [runX, a1, a2, a3, a4, b2, b3, b4, d0, d1, d2, d3, d4, n1, gn, hb.1, hw.imm, h_bead.1, h_times.1, imm_wd, i1, t8]
theorem s_3 : rhoX T XT 20 22 [WD, .non] = some (xtag "TooGreat" 8 : Str) := by
  have h2 := H.n2
  have hf := H.few
  have gl := gl_of H
  have g := gl.gd
  have gn := gl.ln
  have i1 := g.imm
  have a1 := xb_bad hb.1 (b := .non) rfl (xw_bad hb (m := 8))
  have a2 := xb_bad hw.imm (b := .non) rfl (xw_wrong hw (m := 8))
  have a3 := xb_bad imm_wd (b := .non) rfl (xw_big wd_gl (m := 8) (by omega) (by omega))
  have a4 := xb_num gl (by omega) h_times
  have b2 := xw_ok gl (m := 8) (by omega)
  have b3 := fw_ok gl (m := 8) (by omega)
  have b4 := xw_big wd_gl (m := 8) (by omega) (by omega)
  have d0 := xd_good H (x := 0) (by omega) (by omega)
  have d1 := q_need_bead H (x := 0) (by omega) (by omega)
  have d2 := xd_good H (x := 1) (by omega) (by omega)
  have d3 := q_need_bead H (x := 1) (by omega) (by omega)
  have d4 := x_bead H h_bead
  have n1 := x_number h_times
  have t8 : (8 : Int).toNat = 8 := rfl
  generalize famD F = F1 at *
  refine (congrFun (rx_chances 19) _).trans ?_
  rw [show rhoX T XT 19 21 = X_need_blind from zx_need_blind 12]
  unfold g_chances x_chances
  simp [runX, a1, a2, a3, a4, b2, b3, b4, d0, d1, d2, d3, d4, n1, gn, hb.1, hw.imm, h_bead.1, h_times.1, imm_wd, i1, t8]
theorem s_4 : rhoX T XT 20 22 [famD F, times] = some ("BadNumber" : Str) := by
  have h2 := H.n2
  have hf := H.few
  have gl := gl_of H
  have g := gl.gd
  have gn := gl.ln
  have i1 := g.imm
  have a1 := xb_bad hb.1 (b := .non) rfl (xw_bad hb (m := 8))
  have a2 := xb_bad hw.imm (b := .non) rfl (xw_wrong hw (m := 8))
  have a3 := xb_bad imm_wd (b := .non) rfl (xw_big wd_gl (m := 8) (by omega) (by omega))
  have a4 := xb_num gl (by omega) h_times
  have b2 := xw_ok gl (m := 8) (by omega)
  have b3 := fw_ok gl (m := 8) (by omega)
  have b4 := xw_big wd_gl (m := 8) (by omega) (by omega)
  have d0 := xd_good H (x := 0) (by omega) (by omega)
  have d1 := q_need_bead H (x := 0) (by omega) (by omega)
  have d2 := xd_good H (x := 1) (by omega) (by omega)
  have d3 := q_need_bead H (x := 1) (by omega) (by omega)
  have d4 := x_bead H h_bead
  have n1 := x_number h_times
  have t8 : (8 : Int).toNat = 8 := rfl
  generalize famD F = F1 at *
  refine (congrFun (rx_chances 19) _).trans ?_
  rw [show rhoX T XT 19 21 = X_need_blind from zx_need_blind 12]
  unfold g_chances x_chances
  simp [runX, a1, a2, a3, a4, b2, b3, b4, d0, d1, d2, d3, d4, n1, gn, hb.1, hw.imm, h_bead.1, h_times.1, imm_wd, i1, t8]
theorem s_5 : rhoX T XT 20 27 [bad, .non] = some ("BadBags" : Str) := by
  have h2 := H.n2
  have hf := H.few
  have gl := gl_of H
  have g := gl.gd
  have gn := gl.ln
  have i1 := g.imm
  have a1 := xb_bad hb.1 (b := .non) rfl (xw_bad hb (m := 8))
  have a2 := xb_bad hw.imm (b := .non) rfl (xw_wrong hw (m := 8))
  have a3 := xb_bad imm_wd (b := .non) rfl (xw_big wd_gl (m := 8) (by omega) (by omega))
  have a4 := xb_num gl (by omega) h_times
  have b2 := xw_ok gl (m := 8) (by omega)
  have b3 := fw_ok gl (m := 8) (by omega)
  have b4 := xw_big wd_gl (m := 8) (by omega) (by omega)
  have d0 := xd_good H (x := 0) (by omega) (by omega)
  have d1 := q_need_bead H (x := 0) (by omega) (by omega)
  have d2 := xd_good H (x := 1) (by omega) (by omega)
  have d3 := q_need_bead H (x := 1) (by omega) (by omega)
  have d4 := x_bead H h_bead
  have n1 := x_number h_times
  have t8 : (8 : Int).toNat = 8 := rfl
  generalize famD F = F1 at *
  refine (congrFun (rx_likeliest 19) _).trans ?_
  rw [show rhoX T XT 19 21 = X_need_blind from zx_need_blind 12]
  unfold g_likeliest x_likeliest
  simp [runX, a1, a2, a3, a4, b2, b3, b4, d0, d1, d2, d3, d4, n1, gn, hb.1, hw.imm, h_bead.1, h_times.1, imm_wd, i1, t8]
theorem s_6 : rhoX T XT 20 27 [wrong, .non] = some ("BadFamily" : Str) := by
  have h2 := H.n2
  have hf := H.few
  have gl := gl_of H
  have g := gl.gd
  have gn := gl.ln
  have i1 := g.imm
  have a1 := xb_bad hb.1 (b := .non) rfl (xw_bad hb (m := 8))
  have a2 := xb_bad hw.imm (b := .non) rfl (xw_wrong hw (m := 8))
  have a3 := xb_bad imm_wd (b := .non) rfl (xw_big wd_gl (m := 8) (by omega) (by omega))
  have a4 := xb_num gl (by omega) h_times
  have b2 := xw_ok gl (m := 8) (by omega)
  have b3 := fw_ok gl (m := 8) (by omega)
  have b4 := xw_big wd_gl (m := 8) (by omega) (by omega)
  have d0 := xd_good H (x := 0) (by omega) (by omega)
  have d1 := q_need_bead H (x := 0) (by omega) (by omega)
  have d2 := xd_good H (x := 1) (by omega) (by omega)
  have d3 := q_need_bead H (x := 1) (by omega) (by omega)
  have d4 := x_bead H h_bead
  have n1 := x_number h_times
  have t8 : (8 : Int).toNat = 8 := rfl
  generalize famD F = F1 at *
  refine (congrFun (rx_likeliest 19) _).trans ?_
  rw [show rhoX T XT 19 21 = X_need_blind from zx_need_blind 12]
  unfold g_likeliest x_likeliest
  simp [runX, a1, a2, a3, a4, b2, b3, b4, d0, d1, d2, d3, d4, n1, gn, hb.1, hw.imm, h_bead.1, h_times.1, imm_wd, i1, t8]
theorem s_7 : rhoX T XT 20 27 [WD, .non] = some (xtag "TooGreat" 8 : Str) := by
  have h2 := H.n2
  have hf := H.few
  have gl := gl_of H
  have g := gl.gd
  have gn := gl.ln
  have i1 := g.imm
  have a1 := xb_bad hb.1 (b := .non) rfl (xw_bad hb (m := 8))
  have a2 := xb_bad hw.imm (b := .non) rfl (xw_wrong hw (m := 8))
  have a3 := xb_bad imm_wd (b := .non) rfl (xw_big wd_gl (m := 8) (by omega) (by omega))
  have a4 := xb_num gl (by omega) h_times
  have b2 := xw_ok gl (m := 8) (by omega)
  have b3 := fw_ok gl (m := 8) (by omega)
  have b4 := xw_big wd_gl (m := 8) (by omega) (by omega)
  have d0 := xd_good H (x := 0) (by omega) (by omega)
  have d1 := q_need_bead H (x := 0) (by omega) (by omega)
  have d2 := xd_good H (x := 1) (by omega) (by omega)
  have d3 := q_need_bead H (x := 1) (by omega) (by omega)
  have d4 := x_bead H h_bead
  have n1 := x_number h_times
  have t8 : (8 : Int).toNat = 8 := rfl
  generalize famD F = F1 at *
  refine (congrFun (rx_likeliest 19) _).trans ?_
  rw [show rhoX T XT 19 21 = X_need_blind from zx_need_blind 12]
  unfold g_likeliest x_likeliest
  simp [runX, a1, a2, a3, a4, b2, b3, b4, d0, d1, d2, d3, d4, n1, gn, hb.1, hw.imm, h_bead.1, h_times.1, imm_wd, i1, t8]
theorem s_8 : rhoX T XT 20 27 [famD F, times] = some ("BadNumber" : Str) := by
  have h2 := H.n2
  have hf := H.few
  have gl := gl_of H
  have g := gl.gd
  have gn := gl.ln
  have i1 := g.imm
  have a1 := xb_bad hb.1 (b := .non) rfl (xw_bad hb (m := 8))
  have a2 := xb_bad hw.imm (b := .non) rfl (xw_wrong hw (m := 8))
  have a3 := xb_bad imm_wd (b := .non) rfl (xw_big wd_gl (m := 8) (by omega) (by omega))
  have a4 := xb_num gl (by omega) h_times
  have b2 := xw_ok gl (m := 8) (by omega)
  have b3 := fw_ok gl (m := 8) (by omega)
  have b4 := xw_big wd_gl (m := 8) (by omega) (by omega)
  have d0 := xd_good H (x := 0) (by omega) (by omega)
  have d1 := q_need_bead H (x := 0) (by omega) (by omega)
  have d2 := xd_good H (x := 1) (by omega) (by omega)
  have d3 := q_need_bead H (x := 1) (by omega) (by omega)
  have d4 := x_bead H h_bead
  have n1 := x_number h_times
  have t8 : (8 : Int).toNat = 8 := rfl
  generalize famD F = F1 at *
  refine (congrFun (rx_likeliest 19) _).trans ?_
  rw [show rhoX T XT 19 21 = X_need_blind from zx_need_blind 12]
  unfold g_likeliest x_likeliest
  simp [runX, a1, a2, a3, a4, b2, b3, b4, d0, d1, d2, d3, d4, n1, gn, hb.1, hw.imm, h_bead.1, h_times.1, imm_wd, i1, t8]
theorem s_9 : rhoX T XT 20 26 [bad, .non] = some ("BadBags" : Str) := by
  have h2 := H.n2
  have hf := H.few
  have gl := gl_of H
  have g := gl.gd
  have gn := gl.ln
  have i1 := g.imm
  have a1 := xb_bad hb.1 (b := .non) rfl (xw_bad hb (m := 8))
  have a2 := xb_bad hw.imm (b := .non) rfl (xw_wrong hw (m := 8))
  have a3 := xb_bad imm_wd (b := .non) rfl (xw_big wd_gl (m := 8) (by omega) (by omega))
  have a4 := xb_num gl (by omega) h_times
  have b2 := xw_ok gl (m := 8) (by omega)
  have b3 := fw_ok gl (m := 8) (by omega)
  have b4 := xw_big wd_gl (m := 8) (by omega) (by omega)
  have d0 := xd_good H (x := 0) (by omega) (by omega)
  have d1 := q_need_bead H (x := 0) (by omega) (by omega)
  have d2 := xd_good H (x := 1) (by omega) (by omega)
  have d3 := q_need_bead H (x := 1) (by omega) (by omega)
  have d4 := x_bead H h_bead
  have n1 := x_number h_times
  have t8 : (8 : Int).toNat = 8 := rfl
  generalize famD F = F1 at *
  refine (congrFun (rx_mean_greatest 19) _).trans ?_
  rw [show rhoX T XT 19 21 = X_need_blind from zx_need_blind 12]
  unfold g_mean_greatest x_mean_greatest
  simp [runX, a1, a2, a3, a4, b2, b3, b4, d0, d1, d2, d3, d4, n1, gn, hb.1, hw.imm, h_bead.1, h_times.1, imm_wd, i1, t8]
theorem s_10 : rhoX T XT 20 26 [wrong, .non] = some ("BadFamily" : Str) := by
  have h2 := H.n2
  have hf := H.few
  have gl := gl_of H
  have g := gl.gd
  have gn := gl.ln
  have i1 := g.imm
  have a1 := xb_bad hb.1 (b := .non) rfl (xw_bad hb (m := 8))
  have a2 := xb_bad hw.imm (b := .non) rfl (xw_wrong hw (m := 8))
  have a3 := xb_bad imm_wd (b := .non) rfl (xw_big wd_gl (m := 8) (by omega) (by omega))
  have a4 := xb_num gl (by omega) h_times
  have b2 := xw_ok gl (m := 8) (by omega)
  have b3 := fw_ok gl (m := 8) (by omega)
  have b4 := xw_big wd_gl (m := 8) (by omega) (by omega)
  have d0 := xd_good H (x := 0) (by omega) (by omega)
  have d1 := q_need_bead H (x := 0) (by omega) (by omega)
  have d2 := xd_good H (x := 1) (by omega) (by omega)
  have d3 := q_need_bead H (x := 1) (by omega) (by omega)
  have d4 := x_bead H h_bead
  have n1 := x_number h_times
  have t8 : (8 : Int).toNat = 8 := rfl
  generalize famD F = F1 at *
  refine (congrFun (rx_mean_greatest 19) _).trans ?_
  rw [show rhoX T XT 19 21 = X_need_blind from zx_need_blind 12]
  unfold g_mean_greatest x_mean_greatest
  simp [runX, a1, a2, a3, a4, b2, b3, b4, d0, d1, d2, d3, d4, n1, gn, hb.1, hw.imm, h_bead.1, h_times.1, imm_wd, i1, t8]
theorem s_11 : rhoX T XT 20 26 [WD, .non] = some (xtag "TooGreat" 8 : Str) := by
  have h2 := H.n2
  have hf := H.few
  have gl := gl_of H
  have g := gl.gd
  have gn := gl.ln
  have i1 := g.imm
  have a1 := xb_bad hb.1 (b := .non) rfl (xw_bad hb (m := 8))
  have a2 := xb_bad hw.imm (b := .non) rfl (xw_wrong hw (m := 8))
  have a3 := xb_bad imm_wd (b := .non) rfl (xw_big wd_gl (m := 8) (by omega) (by omega))
  have a4 := xb_num gl (by omega) h_times
  have b2 := xw_ok gl (m := 8) (by omega)
  have b3 := fw_ok gl (m := 8) (by omega)
  have b4 := xw_big wd_gl (m := 8) (by omega) (by omega)
  have d0 := xd_good H (x := 0) (by omega) (by omega)
  have d1 := q_need_bead H (x := 0) (by omega) (by omega)
  have d2 := xd_good H (x := 1) (by omega) (by omega)
  have d3 := q_need_bead H (x := 1) (by omega) (by omega)
  have d4 := x_bead H h_bead
  have n1 := x_number h_times
  have t8 : (8 : Int).toNat = 8 := rfl
  generalize famD F = F1 at *
  refine (congrFun (rx_mean_greatest 19) _).trans ?_
  rw [show rhoX T XT 19 21 = X_need_blind from zx_need_blind 12]
  unfold g_mean_greatest x_mean_greatest
  simp [runX, a1, a2, a3, a4, b2, b3, b4, d0, d1, d2, d3, d4, n1, gn, hb.1, hw.imm, h_bead.1, h_times.1, imm_wd, i1, t8]
theorem s_12 : rhoX T XT 20 26 [famD F, times] = some ("BadNumber" : Str) := by
  have h2 := H.n2
  have hf := H.few
  have gl := gl_of H
  have g := gl.gd
  have gn := gl.ln
  have i1 := g.imm
  have a1 := xb_bad hb.1 (b := .non) rfl (xw_bad hb (m := 8))
  have a2 := xb_bad hw.imm (b := .non) rfl (xw_wrong hw (m := 8))
  have a3 := xb_bad imm_wd (b := .non) rfl (xw_big wd_gl (m := 8) (by omega) (by omega))
  have a4 := xb_num gl (by omega) h_times
  have b2 := xw_ok gl (m := 8) (by omega)
  have b3 := fw_ok gl (m := 8) (by omega)
  have b4 := xw_big wd_gl (m := 8) (by omega) (by omega)
  have d0 := xd_good H (x := 0) (by omega) (by omega)
  have d1 := q_need_bead H (x := 0) (by omega) (by omega)
  have d2 := xd_good H (x := 1) (by omega) (by omega)
  have d3 := q_need_bead H (x := 1) (by omega) (by omega)
  have d4 := x_bead H h_bead
  have n1 := x_number h_times
  have t8 : (8 : Int).toNat = 8 := rfl
  generalize famD F = F1 at *
  refine (congrFun (rx_mean_greatest 19) _).trans ?_
  rw [show rhoX T XT 19 21 = X_need_blind from zx_need_blind 12]
  unfold g_mean_greatest x_mean_greatest
  simp [runX, a1, a2, a3, a4, b2, b3, b4, d0, d1, d2, d3, d4, n1, gn, hb.1, hw.imm, h_bead.1, h_times.1, imm_wd, i1, t8]
theorem s_13 : rhoX T XT 20 24 [WD, .non, .non, .non] = some (xtag "TooGreat" 8 : Str) := by
  have h2 := H.n2
  have hf := H.few
  have gl := gl_of H
  have g := gl.gd
  have gn := gl.ln
  have i1 := g.imm
  have a1 := xb_bad hb.1 (b := .non) rfl (xw_bad hb (m := 8))
  have a2 := xb_bad hw.imm (b := .non) rfl (xw_wrong hw (m := 8))
  have a3 := xb_bad imm_wd (b := .non) rfl (xw_big wd_gl (m := 8) (by omega) (by omega))
  have a4 := xb_num gl (by omega) h_times
  have b2 := xw_ok gl (m := 8) (by omega)
  have b3 := fw_ok gl (m := 8) (by omega)
  have b4 := xw_big wd_gl (m := 8) (by omega) (by omega)
  have d0 := xd_good H (x := 0) (by omega) (by omega)
  have d1 := q_need_bead H (x := 0) (by omega) (by omega)
  have d2 := xd_good H (x := 1) (by omega) (by omega)
  have d3 := q_need_bead H (x := 1) (by omega) (by omega)
  have d4 := x_bead H h_bead
  have n1 := x_number h_times
  have t8 : (8 : Int).toNat = 8 := rfl
  generalize famD F = F1 at *
  refine (congrFun (rx_together_chance 19) _).trans ?_
  rw [show rho T 19 14 = F_need_bead from z_need_bead 16, show rho T 19 13 = F_need_few from z_need_few 13, show rhoX T XT 19 13 = X_need_few from zx_need_few 13, show rhoX T XT 19 14 = X_need_bead from zx_need_bead 16, show rhoX T XT 19 2 = X_need_number from zx_need_number 16]
  unfold g_together_chance x_together_chance
  simp [runX, a1, a2, a3, a4, b2, b3, b4, d0, d1, d2, d3, d4, n1, gn, hb.1, hw.imm, h_bead.1, h_times.1, imm_wd, i1, t8]
theorem s_14 : rhoX T XT 20 24 [famD F, bead, .non, .non] = some ("BadBead" : Str) := by
  have h2 := H.n2
  have hf := H.few
  have gl := gl_of H
  have g := gl.gd
  have gn := gl.ln
  have i1 := g.imm
  have a1 := xb_bad hb.1 (b := .non) rfl (xw_bad hb (m := 8))
  have a2 := xb_bad hw.imm (b := .non) rfl (xw_wrong hw (m := 8))
  have a3 := xb_bad imm_wd (b := .non) rfl (xw_big wd_gl (m := 8) (by omega) (by omega))
  have a4 := xb_num gl (by omega) h_times
  have b2 := xw_ok gl (m := 8) (by omega)
  have b3 := fw_ok gl (m := 8) (by omega)
  have b4 := xw_big wd_gl (m := 8) (by omega) (by omega)
  have d0 := xd_good H (x := 0) (by omega) (by omega)
  have d1 := q_need_bead H (x := 0) (by omega) (by omega)
  have d2 := xd_good H (x := 1) (by omega) (by omega)
  have d3 := q_need_bead H (x := 1) (by omega) (by omega)
  have d4 := x_bead H h_bead
  have n1 := x_number h_times
  have t8 : (8 : Int).toNat = 8 := rfl
  generalize famD F = F1 at *
  refine (congrFun (rx_together_chance 19) _).trans ?_
  rw [show rho T 19 14 = F_need_bead from z_need_bead 16, show rho T 19 13 = F_need_few from z_need_few 13, show rhoX T XT 19 13 = X_need_few from zx_need_few 13, show rhoX T XT 19 14 = X_need_bead from zx_need_bead 16, show rhoX T XT 19 2 = X_need_number from zx_need_number 16]
  unfold g_together_chance x_together_chance
  simp [runX, a1, a2, a3, a4, b2, b3, b4, d0, d1, d2, d3, d4, n1, gn, hb.1, hw.imm, h_bead.1, h_times.1, imm_wd, i1, t8]
theorem s_15 : rhoX T XT 20 24 [famD F, .int 0, bead, times] = some ("BadBead" : Str) := by
  have h2 := H.n2
  have hf := H.few
  have gl := gl_of H
  have g := gl.gd
  have gn := gl.ln
  have i1 := g.imm
  have a1 := xb_bad hb.1 (b := .non) rfl (xw_bad hb (m := 8))
  have a2 := xb_bad hw.imm (b := .non) rfl (xw_wrong hw (m := 8))
  have a3 := xb_bad imm_wd (b := .non) rfl (xw_big wd_gl (m := 8) (by omega) (by omega))
  have a4 := xb_num gl (by omega) h_times
  have b2 := xw_ok gl (m := 8) (by omega)
  have b3 := fw_ok gl (m := 8) (by omega)
  have b4 := xw_big wd_gl (m := 8) (by omega) (by omega)
  have d0 := xd_good H (x := 0) (by omega) (by omega)
  have d1 := q_need_bead H (x := 0) (by omega) (by omega)
  have d2 := xd_good H (x := 1) (by omega) (by omega)
  have d3 := q_need_bead H (x := 1) (by omega) (by omega)
  have d4 := x_bead H h_bead
  have n1 := x_number h_times
  have t8 : (8 : Int).toNat = 8 := rfl
  generalize famD F = F1 at *
  refine (congrFun (rx_together_chance 19) _).trans ?_
  rw [show rho T 19 14 = F_need_bead from z_need_bead 16, show rho T 19 13 = F_need_few from z_need_few 13, show rhoX T XT 19 13 = X_need_few from zx_need_few 13, show rhoX T XT 19 14 = X_need_bead from zx_need_bead 16, show rhoX T XT 19 2 = X_need_number from zx_need_number 16]
  unfold g_together_chance x_together_chance
  simp [runX, a1, a2, a3, a4, b2, b3, b4, d0, d1, d2, d3, d4, n1, gn, hb.1, hw.imm, h_bead.1, h_times.1, imm_wd, i1, t8]
theorem s_16 : rhoX T XT 20 24 [famD F, .int 0, .int 1, times] = some ("BadNumber" : Str) := by
  have h2 := H.n2
  have hf := H.few
  have gl := gl_of H
  have g := gl.gd
  have gn := gl.ln
  have i1 := g.imm
  have a1 := xb_bad hb.1 (b := .non) rfl (xw_bad hb (m := 8))
  have a2 := xb_bad hw.imm (b := .non) rfl (xw_wrong hw (m := 8))
  have a3 := xb_bad imm_wd (b := .non) rfl (xw_big wd_gl (m := 8) (by omega) (by omega))
  have a4 := xb_num gl (by omega) h_times
  have b2 := xw_ok gl (m := 8) (by omega)
  have b3 := fw_ok gl (m := 8) (by omega)
  have b4 := xw_big wd_gl (m := 8) (by omega) (by omega)
  have d0 := xd_good H (x := 0) (by omega) (by omega)
  have d1 := q_need_bead H (x := 0) (by omega) (by omega)
  have d2 := xd_good H (x := 1) (by omega) (by omega)
  have d3 := q_need_bead H (x := 1) (by omega) (by omega)
  have d4 := x_bead H h_bead
  have n1 := x_number h_times
  have t8 : (8 : Int).toNat = 8 := rfl
  generalize famD F = F1 at *
  refine (congrFun (rx_together_chance 19) _).trans ?_
  rw [show rho T 19 14 = F_need_bead from z_need_bead 16, show rho T 19 13 = F_need_few from z_need_few 13, show rhoX T XT 19 13 = X_need_few from zx_need_few 13, show rhoX T XT 19 14 = X_need_bead from zx_need_bead 16, show rhoX T XT 19 2 = X_need_number from zx_need_number 16]
  unfold g_together_chance x_together_chance
  simp [runX, a1, a2, a3, a4, b2, b3, b4, d0, d1, d2, d3, d4, n1, gn, hb.1, hw.imm, h_bead.1, h_times.1, imm_wd, i1, t8]
theorem s_17 : rhoX T XT 20 25 [famD F, bead, .non] = some ("BadBead" : Str) := by
  have h2 := H.n2
  have hf := H.few
  have gl := gl_of H
  have g := gl.gd
  have gn := gl.ln
  have i1 := g.imm
  have a1 := xb_bad hb.1 (b := .non) rfl (xw_bad hb (m := 8))
  have a2 := xb_bad hw.imm (b := .non) rfl (xw_wrong hw (m := 8))
  have a3 := xb_bad imm_wd (b := .non) rfl (xw_big wd_gl (m := 8) (by omega) (by omega))
  have a4 := xb_num gl (by omega) h_times
  have b2 := xw_ok gl (m := 8) (by omega)
  have b3 := fw_ok gl (m := 8) (by omega)
  have b4 := xw_big wd_gl (m := 8) (by omega) (by omega)
  have d0 := xd_good H (x := 0) (by omega) (by omega)
  have d1 := q_need_bead H (x := 0) (by omega) (by omega)
  have d2 := xd_good H (x := 1) (by omega) (by omega)
  have d3 := q_need_bead H (x := 1) (by omega) (by omega)
  have d4 := x_bead H h_bead
  have n1 := x_number h_times
  have t8 : (8 : Int).toNat = 8 := rfl
  generalize famD F = F1 at *
  refine (congrFun (rx_mean_wait 19) _).trans ?_
  rw [show rho T 19 14 = F_need_bead from z_need_bead 16, show rho T 19 13 = F_need_few from z_need_few 13, show rhoX T XT 19 13 = X_need_few from zx_need_few 13, show rhoX T XT 19 14 = X_need_bead from zx_need_bead 16]
  unfold g_mean_wait x_mean_wait
  simp [runX, a1, a2, a3, a4, b2, b3, b4, d0, d1, d2, d3, d4, n1, gn, hb.1, hw.imm, h_bead.1, h_times.1, imm_wd, i1, t8]
theorem s_18 : rhoX T XT 20 25 [famD F, .int 0, bead] = some ("BadBead" : Str) := by
  have h2 := H.n2
  have hf := H.few
  have gl := gl_of H
  have g := gl.gd
  have gn := gl.ln
  have i1 := g.imm
  have a1 := xb_bad hb.1 (b := .non) rfl (xw_bad hb (m := 8))
  have a2 := xb_bad hw.imm (b := .non) rfl (xw_wrong hw (m := 8))
  have a3 := xb_bad imm_wd (b := .non) rfl (xw_big wd_gl (m := 8) (by omega) (by omega))
  have a4 := xb_num gl (by omega) h_times
  have b2 := xw_ok gl (m := 8) (by omega)
  have b3 := fw_ok gl (m := 8) (by omega)
  have b4 := xw_big wd_gl (m := 8) (by omega) (by omega)
  have d0 := xd_good H (x := 0) (by omega) (by omega)
  have d1 := q_need_bead H (x := 0) (by omega) (by omega)
  have d2 := xd_good H (x := 1) (by omega) (by omega)
  have d3 := q_need_bead H (x := 1) (by omega) (by omega)
  have d4 := x_bead H h_bead
  have n1 := x_number h_times
  have t8 : (8 : Int).toNat = 8 := rfl
  generalize famD F = F1 at *
  refine (congrFun (rx_mean_wait 19) _).trans ?_
  rw [show rho T 19 14 = F_need_bead from z_need_bead 16, show rho T 19 13 = F_need_few from z_need_few 13, show rhoX T XT 19 13 = X_need_few from zx_need_few 13, show rhoX T XT 19 14 = X_need_bead from zx_need_bead 16]
  unfold g_mean_wait x_mean_wait
  simp [runX, a1, a2, a3, a4, b2, b3, b4, d0, d1, d2, d3, d4, n1, gn, hb.1, hw.imm, h_bead.1, h_times.1, imm_wd, i1, t8]
theorem s_19 : rhoX T XT 20 28 [WD] = some (xtag "TooGreat" 8 : Str) := by
  have h2 := H.n2
  have hf := H.few
  have gl := gl_of H
  have g := gl.gd
  have gn := gl.ln
  have i1 := g.imm
  have a1 := xb_bad hb.1 (b := .non) rfl (xw_bad hb (m := 8))
  have a2 := xb_bad hw.imm (b := .non) rfl (xw_wrong hw (m := 8))
  have a3 := xb_bad imm_wd (b := .non) rfl (xw_big wd_gl (m := 8) (by omega) (by omega))
  have a4 := xb_num gl (by omega) h_times
  have b2 := xw_ok gl (m := 8) (by omega)
  have b3 := fw_ok gl (m := 8) (by omega)
  have b4 := xw_big wd_gl (m := 8) (by omega) (by omega)
  have d0 := xd_good H (x := 0) (by omega) (by omega)
  have d1 := q_need_bead H (x := 0) (by omega) (by omega)
  have d2 := xd_good H (x := 1) (by omega) (by omega)
  have d3 := q_need_bead H (x := 1) (by omega) (by omega)
  have d4 := x_bead H h_bead
  have n1 := x_number h_times
  have t8 : (8 : Int).toNat = 8 := rfl
  generalize famD F = F1 at *
  refine (congrFun (rx_last_pair 19) _).trans ?_
  rw [show rhoX T XT 19 13 = X_need_few from zx_need_few 13]
  unfold g_last_pair x_last_pair
  simp [runX, a1, a2, a3, a4, b2, b3, b4, d0, d1, d2, d3, d4, n1, gn, hb.1, hw.imm, h_bead.1, h_times.1, imm_wd, i1, t8]
end
def B1 : M Fl := (mSet 4 (mCall (rho T 22 33) (mCons (mTake 1) (mCons (mC (.int 7)) mNil)) [some 1, none]))
def B2 : M Fl := (mSetP [7, 8] (mCons (mCall (rho T 22 35) (mCons (mTake 1) (mCons (mTake 4) mNil)) [some 1, some 4]) (mCons (mCall (rho T 22 36) (mCons (mTake 1) (mCons (mTake 4) mNil)) [some 1, some 4]) mNil)))
def B3 : M Fl := (mSetP [9, 10] (mCons (mCall (rho T 22 30) (mCons (mTake 1) (mCons (mLst (mCons (m1 (.e (mC (.int 1))) negF) (mCons (mCall (rho T 22 34) (mCons (mTake 4) mNil) [some 4]) (mCons (mC .non) (mCons (mC (.str "0")) (mCons (mTup (mCons (mC (.int 0)) mNil)) mNil)))))) mNil)) [some 1, none]) (mCons (mCall (rho T 22 30) (mCons (mTake 1) (mCons (mLst (mCons (m1 (.e (mC (.int 1))) negF) (mCons (m1 (.v 4) lenF) (mCons (mC .non) (mCons (mC (.str "0")) mNil))))) mNil)) [some 1, none]) mNil)))
def B4 : M Fl := (mForF 5 [mSeq (mSet 6 (mLst (mCons (mErr xs clauses (xCallS (rhoX T XT 20 22) (mCons (mTake 7) (mCons (mC .non) mNil)))) (mCons (mErr xs clauses (xCallS (rhoX T XT 20 22) (mCons (mTake 8) (mCons (mC .non) mNil)))) (mCons (mErr xs clauses (xCallS (rhoX T XT 20 22) (mCons (mTake 2) (mCons (mC .non) mNil)))) mNil))))) (mIf (mB (mBoth (mBoth (mVar 6) (mLst (mCons (mErr xs clauses (xCallS (rhoX T XT 20 22) (mCons (mTake 4) (mCons (mTake 10) mNil)))) mNil)) addF) (mLst (mCons (mC (.str "BadBags")) (mCons (mC (.str "BadFamily")) (mCons (mTup (mCons (mC (.str "TooGreat")) (mCons (mC (.int 8)) mNil))) (mCons (mC (.str "BadNumber")) mNil))))) (cmpF .NotEq))) (mRet (mC (.bl false))) mNx), mSeq (mSet 6 (mLst (mCons (mErr xs clauses (xCallS (rhoX T XT 20 27) (mCons (mTake 7) (mCons (mC .non) mNil)))) (mCons (mErr xs clauses (xCallS (rhoX T XT 20 27) (mCons (mTake 8) (mCons (mC .non) mNil)))) (mCons (mErr xs clauses (xCallS (rhoX T XT 20 27) (mCons (mTake 2) (mCons (mC .non) mNil)))) mNil))))) (mIf (mB (mBoth (mBoth (mVar 6) (mLst (mCons (mErr xs clauses (xCallS (rhoX T XT 20 27) (mCons (mTake 4) (mCons (mTake 10) mNil)))) mNil)) addF) (mLst (mCons (mC (.str "BadBags")) (mCons (mC (.str "BadFamily")) (mCons (mTup (mCons (mC (.str "TooGreat")) (mCons (mC (.int 8)) mNil))) (mCons (mC (.str "BadNumber")) mNil))))) (cmpF .NotEq))) (mRet (mC (.bl false))) mNx), mSeq (mSet 6 (mLst (mCons (mErr xs clauses (xCallS (rhoX T XT 20 26) (mCons (mTake 7) (mCons (mC .non) mNil)))) (mCons (mErr xs clauses (xCallS (rhoX T XT 20 26) (mCons (mTake 8) (mCons (mC .non) mNil)))) (mCons (mErr xs clauses (xCallS (rhoX T XT 20 26) (mCons (mTake 2) (mCons (mC .non) mNil)))) mNil))))) (mIf (mB (mBoth (mBoth (mVar 6) (mLst (mCons (mErr xs clauses (xCallS (rhoX T XT 20 26) (mCons (mTake 4) (mCons (mTake 10) mNil)))) mNil)) addF) (mLst (mCons (mC (.str "BadBags")) (mCons (mC (.str "BadFamily")) (mCons (mTup (mCons (mC (.str "TooGreat")) (mCons (mC (.int 8)) mNil))) (mCons (mC (.str "BadNumber")) mNil))))) (cmpF .NotEq))) (mRet (mC (.bl false))) mNx)])
def B5 : M Fl := (mSet 6 (mLst (mCons (mErr xs clauses (xCallS (rhoX T XT 20 24) (mCons (mTake 2) (mCons (mC .non) (mCons (mC .non) (mCons (mC .non) mNil)))))) (mCons (mErr xs clauses (xCallS (rhoX T XT 20 24) (mCons (mTake 4) (mCons (mTake 9) (mCons (mC .non) (mCons (mC .non) mNil)))))) mNil))))
def B6 : M Fl := (mSet 6 (mBoth (mVar 6) (mLst (mCons (mErr xs clauses (xCallS (rhoX T XT 20 24) (mCons (mTake 4) (mCons (mC (.int 0)) (mCons (mTake 9) (mCons (mTake 10) mNil)))))) (mCons (mErr xs clauses (xCallS (rhoX T XT 20 24) (mCons (mTake 4) (mCons (mC (.int 0)) (mCons (mC (.int 1)) (mCons (mTake 10) mNil)))))) mNil))) addF))
def B7 : M Fl := (mSet 6 (mBoth (mVar 6) (mLst (mCons (mErr xs clauses (xCallS (rhoX T XT 20 25) (mCons (mTake 4) (mCons (mTake 9) (mCons (mC .non) mNil))))) (mCons (mErr xs clauses (xCallS (rhoX T XT 20 25) (mCons (mTake 4) (mCons (mC (.int 0)) (mCons (mTake 9) mNil))))) (mCons (mErr xs clauses (xCallS (rhoX T XT 20 28) (mCons (mTake 2) mNil))) mNil)))) addF))
def B8 : M Fl := (mIf (mB (m2 (.v 6) (.e (mLst (mCons (mTup (mCons (mC (.str "TooGreat")) (mCons (mC (.int 8)) mNil))) (mCons (mC (.str "BadBead")) (mCons (mC (.str "BadBead")) (mCons (mC (.str "BadNumber")) (mCons (mC (.str "BadBead")) (mCons (mC (.str "BadBead")) (mCons (mTup (mCons (mC (.str "TooGreat")) (mCons (mC (.int 8)) mNil))) mNil))))))))) (cmpF .NotEq))) (mRet (mC (.bl false))) mNx)
def B : M Fl := (mSeq B1 (mSeq B2 (mSeq B3 (mSeq B4 (mSeq B5 (mSeq B6 (mSeq B7 B8)))))))
theorem nl_1 : necF (.lst true [.str "BadBags", .str "BadFamily", .tup [.str "TooGreat", .int 8], .str "BadNumber"]) (.lst true [.str "BadBags", .str "BadFamily", .tup [.str "TooGreat", .int 8], .str "BadNumber"]) = some (.bl false) := by kernel_rfl
theorem nl_2 : necF (.lst true [.tup [.str "TooGreat", .int 8], .str "BadBead", .str "BadBead", .str "BadNumber", .str "BadBead", .str "BadBead", .tup [.str "TooGreat", .int 8]]) (.lst true [.tup [.str "TooGreat", .int 8], .str "BadBead", .str "BadBead", .str "BadNumber", .str "BadBead", .str "BadBead", .tup [.str "TooGreat", .int 8]]) = some (.bl false) := by kernel_rfl
set_option maxHeartbeats 4000000 in
theorem turn (ns : List Int) {R r0 : D} (hR : Va.imm R = true) (hr0 : RowOk ns r0) (x3 x4 x5 x6 x7 x8 x9 x10 : Option D) : ∃ r y3 y4 y5 y6 y7 y8 y9 y10, RowOk ns r ∧ B [some R, some r0, some WD, x3, x4, x5, x6, x7, x8, x9, x10] = some (.nx, [some R, some r, some WD, y3, y4, y5, y6, y7, y8, y9, y10]) := by
  have j0 := hr0.imm
  obtain ⟨F, n, r1, H, hn, e1, hr1⟩ := q__law_family ns 19 r0 7 hr0 (by omega) (by omega)
  have j1 := hr1.imm
  have h2 := H.n2
  have e_size := q__law_size 21 H
  obtain ⟨bad, r2, e2, hr2, hb⟩ := q__law_wrong_bags ns 19 hr1 H
  have j2 := hr2.imm
  have i_bad := hb.1
  obtain ⟨wrong, r3, e3, hr3, hw⟩ := q__law_no_family ns 19 hr2 H (by omega)
  have j3 := hr3.imm
  have i_wrong := hw.imm
  obtain ⟨bead, r4, o4, h_bead, hr4, e4⟩ := pick_P (q__law_pick ns 20) hr3 true [.int (-1), .int n, .non, .str "0", .tup [.int 0]] (fun d => NoIn d 0 (n - 1)) (by simp) (by simp) (allm_cons (noIn_int (by omega)) (allm_cons (noIn_int (by omega)) (allm_cons noIn_non (allm_cons noIn_str (allm_cons noIn_tup (allm_nil)))))) (fun x h => h.1)
  have j4 := hr4.imm
  have i_bead := h_bead.1
  obtain ⟨times, r5, o5, h_times, hr5, e5⟩ := pick_P (q__law_pick ns 20) hr4 true [.int (-1), .int (F.length : Int), .non, .str "0"] (fun d => NoIn d 0 ((F.length : Int) - 1)) (by simp) (by simp) (allm_cons (noIn_int (by omega)) (allm_cons (noIn_int (by omega)) (allm_cons noIn_non (allm_cons noIn_str (allm_nil))))) (fun x h => h.1)
  have j5 := hr5.imm
  have i_times := h_times.1
  have s1 := s_1 H (by omega) hb hw h_bead h_times
  have s2 := s_2 H (by omega) hb hw h_bead h_times
  have s3 := s_3 H (by omega) hb hw h_bead h_times
  have s4 := s_4 H (by omega) hb hw h_bead h_times
  have s5 := s_5 H (by omega) hb hw h_bead h_times
  have s6 := s_6 H (by omega) hb hw h_bead h_times
  have s7 := s_7 H (by omega) hb hw h_bead h_times
  have s8 := s_8 H (by omega) hb hw h_bead h_times
  have s9 := s_9 H (by omega) hb hw h_bead h_times
  have s10 := s_10 H (by omega) hb hw h_bead h_times
  have s11 := s_11 H (by omega) hb hw h_bead h_times
  have s12 := s_12 H (by omega) hb hw h_bead h_times
  have s13 := s_13 H (by omega) hb hw h_bead h_times
  have s14 := s_14 H (by omega) hb hw h_bead h_times
  have s15 := s_15 H (by omega) hb hw h_bead h_times
  have s16 := s_16 H (by omega) hb hw h_bead h_times
  have s17 := s_17 H (by omega) hb hw h_bead h_times
  have s18 := s_18 H (by omega) hb hw h_bead h_times
  have s19 := s_19 H (by omega) hb hw h_bead h_times
  refine ⟨r5, x3, some (famD F), none, some (.lst true [.tup [.str "TooGreat", .int 8], .str "BadBead", .str "BadBead", .str "BadNumber", .str "BadBead", .str "BadBead", .tup [.str "TooGreat", .int 8]]), some bad, some wrong, some bead, some times, hr5, ?_⟩
  unfold B
  refine (seqR (s := [some R, some r1, some WD, x3, some (famD F), x5, x6, x7, x8, x9, x10]) ?_).trans ((seqR (s := [some R, some r3, some WD, x3, some (famD F), x5, x6, some bad, some wrong, x9, x10]) ?_).trans ((seqR (s := [some R, some r5, some WD, x3, some (famD F), x5, x6, some bad, some wrong, some bead, some times]) ?_).trans ((seqR (s := [some R, some r5, some WD, x3, some (famD F), none, some (.lst false [.str "BadBags", .str "BadFamily", .tup [.str "TooGreat", .int 8]]), some bad, some wrong, some bead, some times]) ?_).trans ((seqR (s := [some R, some r5, some WD, x3, some (famD F), none, some (.lst true [.tup [.str "TooGreat", .int 8], .str "BadBead"]), some bad, some wrong, some bead, some times]) ?_).trans ((seqR (s := [some R, some r5, some WD, x3, some (famD F), none, some (.lst true [.tup [.str "TooGreat", .int 8], .str "BadBead", .str "BadBead", .str "BadNumber"]), some bad, some wrong, some bead, some times]) ?_).trans ((seqR (s := [some R, some r5, some WD, x3, some (famD F), none, some (.lst true [.tup [.str "TooGreat", .int 8], .str "BadBead", .str "BadBead", .str "BadNumber", .str "BadBead", .str "BadBead", .tup [.str "TooGreat", .int 8]]), some bad, some wrong, some bead, some times]) ?_).trans (?_)))))))
  · unfold B1; simp [hR, j0, j1, j2, j3, j4, j5, e1, imm_wd, e_size, frz_lst, frz, frzL, frzA, bleLN, bltLN, mSetP, add_lst, sl_pre, isLst]
  · unfold B2; simp [hR, j0, j1, j2, j3, j4, j5, e2, i_bad, e3, i_wrong, imm_wd, e_size, frz_lst, frz, frzL, frzA, bleLN, bltLN, mSetP, add_lst, sl_pre, isLst]
  · unfold B3; simp [hR, j0, j1, j2, j3, j4, j5, e4, i_bead, e5, i_times, imm_wd, e_size, frz_lst, frz, frzL, frzA, bleLN, bltLN, mSetP, add_lst, sl_pre, isLst]
  · unfold B4
    refine (forF_cons (s := [some R, some r5, some WD, x3, some (famD F), none, some (.lst false [.str "BadBags", .str "BadFamily", .tup [.str "TooGreat", .int 8]]), some bad, some wrong, some bead, some times]) ?_).trans ((forF_cons (s := [some R, some r5, some WD, x3, some (famD F), none, some (.lst false [.str "BadBags", .str "BadFamily", .tup [.str "TooGreat", .int 8]]), some bad, some wrong, some bead, some times]) ?_).trans ((forF_cons (s := [some R, some r5, some WD, x3, some (famD F), none, some (.lst false [.str "BadBags", .str "BadFamily", .tup [.str "TooGreat", .int 8]]), some bad, some wrong, some bead, some times]) ?_).trans (rfl)))
    · refine (seqR (s := [some R, some r5, some WD, x3, some (famD F), none, some (.lst true [.str "BadBags", .str "BadFamily", .tup [.str "TooGreat", .int 8]]), some bad, some wrong, some bead, some times]) ?_).trans (?_)
      · simp [hR, j0, j1, j2, j3, j4, j5, imm_wd, i_bad, i_bead, i_times, i_wrong, s1, s2, s3, s4, told_BadBags, ne_BadBags, told_BadBead, ne_BadBead, told_BadFamily, ne_BadFamily, told_BadNumber, ne_BadNumber, told_TooGreat_8, ne_TooGreat_8, nl_1, nl_2, e_size, frz_lst, frz, frzL, frzA, bleLN, bltLN, mSetP, add_lst, sl_pre, isLst]
      · simp [hR, j0, j1, j2, j3, j4, j5, imm_wd, i_bad, i_bead, i_times, i_wrong, s1, s2, s3, s4, told_BadBags, ne_BadBags, told_BadBead, ne_BadBead, told_BadFamily, ne_BadFamily, told_BadNumber, ne_BadNumber, told_TooGreat_8, ne_TooGreat_8, nl_1, nl_2, e_size, frz_lst, frz, frzL, frzA, bleLN, bltLN, mSetP, add_lst, sl_pre, isLst]
    · refine (seqR (s := [some R, some r5, some WD, x3, some (famD F), none, some (.lst true [.str "BadBags", .str "BadFamily", .tup [.str "TooGreat", .int 8]]), some bad, some wrong, some bead, some times]) ?_).trans (?_)
      · simp [hR, j0, j1, j2, j3, j4, j5, imm_wd, i_bad, i_bead, i_times, i_wrong, s5, s6, s7, s8, told_BadBags, ne_BadBags, told_BadBead, ne_BadBead, told_BadFamily, ne_BadFamily, told_BadNumber, ne_BadNumber, told_TooGreat_8, ne_TooGreat_8, nl_1, nl_2, e_size, frz_lst, frz, frzL, frzA, bleLN, bltLN, mSetP, add_lst, sl_pre, isLst]
      · simp [hR, j0, j1, j2, j3, j4, j5, imm_wd, i_bad, i_bead, i_times, i_wrong, s5, s6, s7, s8, told_BadBags, ne_BadBags, told_BadBead, ne_BadBead, told_BadFamily, ne_BadFamily, told_BadNumber, ne_BadNumber, told_TooGreat_8, ne_TooGreat_8, nl_1, nl_2, e_size, frz_lst, frz, frzL, frzA, bleLN, bltLN, mSetP, add_lst, sl_pre, isLst]
    · refine (seqR (s := [some R, some r5, some WD, x3, some (famD F), none, some (.lst true [.str "BadBags", .str "BadFamily", .tup [.str "TooGreat", .int 8]]), some bad, some wrong, some bead, some times]) ?_).trans (?_)
      · simp [hR, j0, j1, j2, j3, j4, j5, imm_wd, i_bad, i_bead, i_times, i_wrong, s9, s10, s11, s12, told_BadBags, ne_BadBags, told_BadBead, ne_BadBead, told_BadFamily, ne_BadFamily, told_BadNumber, ne_BadNumber, told_TooGreat_8, ne_TooGreat_8, nl_1, nl_2, e_size, frz_lst, frz, frzL, frzA, bleLN, bltLN, mSetP, add_lst, sl_pre, isLst]
      · simp [hR, j0, j1, j2, j3, j4, j5, imm_wd, i_bad, i_bead, i_times, i_wrong, s9, s10, s11, s12, told_BadBags, ne_BadBags, told_BadBead, ne_BadBead, told_BadFamily, ne_BadFamily, told_BadNumber, ne_BadNumber, told_TooGreat_8, ne_TooGreat_8, nl_1, nl_2, e_size, frz_lst, frz, frzL, frzA, bleLN, bltLN, mSetP, add_lst, sl_pre, isLst]
  · unfold B5; simp [hR, j0, j1, j2, j3, j4, j5, imm_wd, i_bad, i_bead, i_times, i_wrong, s13, s14, s15, s16, told_BadBags, ne_BadBags, told_BadBead, ne_BadBead, told_BadFamily, ne_BadFamily, told_BadNumber, ne_BadNumber, told_TooGreat_8, ne_TooGreat_8, nl_1, nl_2, e_size, frz_lst, frz, frzL, frzA, bleLN, bltLN, mSetP, add_lst, sl_pre, isLst]
  · unfold B6; simp [hR, j0, j1, j2, j3, j4, j5, imm_wd, i_bad, i_bead, i_times, i_wrong, s13, s14, s15, s16, told_BadBags, ne_BadBags, told_BadBead, ne_BadBead, told_BadFamily, ne_BadFamily, told_BadNumber, ne_BadNumber, told_TooGreat_8, ne_TooGreat_8, nl_1, nl_2, e_size, frz_lst, frz, frzL, frzA, bleLN, bltLN, mSetP, add_lst, sl_pre, isLst]
  · unfold B7; simp [hR, j0, j1, j2, j3, j4, j5, imm_wd, i_bad, i_bead, i_times, i_wrong, s17, s18, s19, told_BadBags, ne_BadBags, told_BadBead, ne_BadBead, told_BadFamily, ne_BadFamily, told_BadNumber, ne_BadNumber, told_TooGreat_8, ne_TooGreat_8, nl_1, nl_2, e_size, frz_lst, frz, frzL, frzA, bleLN, bltLN, mSetP, add_lst, sl_pre, isLst]
  · unfold B8; simp [hR, j0, j1, j2, j3, j4, j5, imm_wd, i_bad, i_bead, i_times, i_wrong, told_BadBags, ne_BadBags, told_BadBead, ne_BadBead, told_BadFamily, ne_BadFamily, told_BadNumber, ne_BadNumber, told_TooGreat_8, ne_TooGreat_8, nl_1, nl_2, e_size, frz_lst, frz, frzL, frzA, bleLN, bltLN, mSetP, add_lst, sl_pre, isLst]
def A1 : M Fl := (mSet 1 (mLst (mCons (mVar 0) (mCons (mC (.int 0)) (mCons (mC (.int 5253)) (mCons (mC (.int 0)) mNil))))))
def A2 : M Fl := (mSet 2 (m1 (.e (mLc (mRg1 (mC (.int 9))) (.n 9) mYes (mTup (mCons (mVar 9) (mCons (m2 (.v 9) (.e (mC (.int 1))) addF) mNil))) [9])) tupcF))
def E1 : M Fl := (mIf (mOr (mB (m2 (.e (mCall (rho T 22 28) (mCons (mTup (mCons (mTup (mCons (mC (.int 0)) (mCons (mC (.int 1)) mNil))) mNil)) mNil) [none])) (.e (mTup mNil)) (cmpF .NotEq))) (mB (m2 (.e (mCall (rho T 22 25) (mCons (mTup (mCons (mTup (mCons (mC (.int 0)) (mCons (mC (.int 1)) mNil))) mNil)) (mCons (mC (.int 0)) (mCons (mC (.int 1)) mNil))) [none, none, none])) (.e (mTup (mCons (mC (.int 0)) (mCons (mC (.int 1)) mNil)))) (cmpF .NotEq)))) (mRet (mC (.bl false))) mNx)
def E2 : M Fl := (mRet (mD (mAnd (mB (m2 (.e (mCall (rho T 22 22) (mCons (mTup (mCons (mTup (mCons (mC (.int 0)) (mCons (mC (.int 1)) mNil))) mNil)) (mCons (mC (.int 0)) mNil)) [none, none])) (.e (mTup (mCons (mTup (mCons (mTup (mCons (mTup (mCons (mC (.int 0)) (mCons (mC (.int 1)) mNil))) mNil)) (mCons (mTup (mCons (mC (.int 1)) (mCons (mC (.int 1)) mNil))) mNil))) mNil))) (cmpF .Eq))) (mB (m2 (.e (mCall (rho T 22 24) (mCons (mTup (mCons (mTup (mCons (mC (.int 0)) (mCons (mC (.int 1)) mNil))) mNil)) (mCons (mC (.int 0)) (mCons (mC (.int 0)) (mCons (mC (.int 0)) mNil)))) [none, none, none, none])) (.e (mTup (mCons (mC (.int 1)) (mCons (mC (.int 1)) mNil)))) (cmpF .Eq))))))
theorem law_split : f_law 20 = runD N_law.length 1 ro_law (mSeq A1 (mSeq A2 (mSeq (mFor (mRg1 (mC (.int 3))) (.n 3) B) (mSeq E1 E2)))) := rfl
theorem pure_law (ns : List Int) (hns : ns.length ≤ 63) : ∃ outs, f_law 20 [.rol (ns.map .int)] = some (.bl true, outs) := by
  obtain ⟨R, hR⟩ : ∃ R, D.rol (ns.map .int) = R := ⟨_, rfl⟩
  have hRi : Va.imm R = true := by rw [← hR]; rfl
  have hrow : D.lst true [R, .int 0, .int 5253, .int 0] = row ns 0 5253 0 := by rw [← hR]; rfl
  have hr0 : RowOk ns (row ns 0 5253 0) := ⟨0, 5253, 0, rfl, by omega, by omega, by omega⟩
  obtain ⟨r0, hr0e⟩ : ∃ r0, row ns 0 5253 0 = r0 := ⟨_, rfl⟩
  rw [hr0e] at hrow hr0
  rw [law_split, hR]
  obtain ⟨st, e, r, y3, y4, y5, y6, y7, y8, y9, y10, hr, es⟩ := forL_inv (t := (.n 3)) (b := B) (fun _ st => ∃ r y3 y4 y5 y6 y7 y8 y9 y10, RowOk ns r ∧ st = [some R, some r, some WD, y3, y4, y5, y6, y7, y8, y9, y10]) (ds := rgD 0 3) (k := 0) (st := [some R, some r0, some WD, none, none, none, none, none, none, none, none]) ⟨r0, none, none, none, none, none, none, none, none, hr0, rfl⟩ fun i d st hd ⟨r, y3, y4, y5, y6, y7, y8, y9, y10, hr, es⟩ => by
    subst es
    obtain ⟨r2, z3, z4, z5, z6, z7, z8, z9, z10, hr2, e2⟩ := turn ns hRi hr (some d) y4 y5 y6 y7 y8 y9 y10
    exact ⟨_, _, rfl, .inl e2, r2, z3, z4, z5, z6, z7, z8, z9, z10, hr2, rfl⟩
  subst es
  have hs : smallI 3 = true := small_of (by omega) (by omega)
  refine ⟨_, runD_retR (s := [some R, some r, some WD, y3, y4, y5, y6, y7, y8, y9, y10]) (d := .bl true) rfl ((seqR (s := [some R, some r0, none, none, none, none, none, none, none, none, none]) ?_).trans ((seqR (s := [some R, some r0, some WD, none, none, none, none, none, none, none, none]) ?_).trans ((seqR (s := [some R, some r, some WD, y3, y4, y5, y6, y7, y8, y9, y10]) ?_).trans ((seqR (s := [some R, some r, some WD, y3, y4, y5, y6, y7, y8, y9, y10]) ?_).trans (?_))))) rfl⟩
  · show A1 [some R, none, none, none, none, none, none, none, none, none, none] = _
    unfold A1; simp [hRi, hrow]
  · unfold A2; kernel_rfl
  · rw [mFor_run (ds := rgD 0 3) (s := [some R, some r0, some WD, none, none, none, none, none, none, none, none]) (by simp [hs])]
    exact e
  · unfold E1; kernel_rfl
  · unfold E2; kernel_rfl
end K53
namespace K53
open PySem PySem.Spec PyProof.Rows L2 Va
theorem fal_eq : faOf bs gis T ++ exOf xs clauses = fal := rfl
theorem fnl_eq : T.map (·.d) = fnl := rfl
end K53
open PySem PySem.W PySem.Calls PyProof.Rows
set_option maxHeartbeats 0 in
theorem PySem.Challenge.cw_sharebags_k53_blind_refused_holds : PySem.Challenge.rw_sharebags_k53_blind_refused.Holds := by
  w_on; o_law
  refine HandSHeadRun.head_any (r := OpenLaw.row PySem.Challenge.rw_sharebags_k53_blind_refused) (q := view (OpenLaw.row PySem.Challenge.rw_sharebags_k53_blind_refused).prog [51]) (H := K53.hk) (ob := K53.ob) (M := 4000) (loose := K53.loose) (d := HandSHeadRun.topDef (OpenLaw.row PySem.Challenge.rw_sharebags_k53_blind_refused).prog 51) (kwd := []) K53.ob_eq
    (by kernel_rfl) (fun s => by kernel_rfl) K53.run (by kernel_rfl) (by kernel_rfl) (by kernel_rfl) (by rfl) (by first | assumption | decide +kernel) (by decide +kernel) ⟨rfl, rfl, rfl, rfl, rfl, by decide +kernel⟩ ?hw ?hc
  case hw => w_witness2
  case hc =>
    refine LamX.walk_ofTsE (l := PySem.Challenge.rw_sharebags_k53_blind_refused) (n := 63) (k := 20 + 4) (x := "_law_script") (CX := fun _ => L2.CX0) rfl (by decide) (by kernel_rfl) ⟨rfl, by decide, by decide⟩ ?F (fun _ _ _ _ _ z => z)
    intro w mg fa h Y G hmg0
    obtain ⟨K, KX, c⟩ := Y
    have hmg : mg ("law" : PySem.Str) = some (.ref fa) := by
      have e : (HandSHeadRun.topDef (OpenLaw.row PySem.Challenge.rw_sharebags_k53_blind_refused).prog 51).name = ("law" : PySem.Str) := by kernel_rfl
      rw [← e]
      exact hmg0
    have D : Va.Hd (PySem.Challenge.rw_sharebags_k53_blind_refused).prog K53.sig K53.bs K53.gis K53.xs K53.clauses K53.T K h mg := ⟨KX, G, (by rw [K53.fal_eq, K53.fnl_eq]; exact c.t.d), K53.oks, K53.hsig, Va.exY_ok c.more⟩
    exact ⟨K, KX, Va.Hd.lawAt D K53.oksX (by decide +kernel) (i := 37) (j := 38) (e := K53.e__law_error) (el := K53.e_law) rfl K53.errDef rfl rfl 20 (K53.ls_law _ _ _) c hmg fun ns hl => K53.pure_law ns hl⟩
#print axioms PySem.Challenge.cw_sharebags_k53_blind_refused_holds
