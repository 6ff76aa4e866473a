import PyProof.Rows.All
import Wide.All
import OpenK.AllK
import Wide.FinOn
import HandS.ForMost
import HandS.Wide
import HandS.TupAny
import HandS.TupMul
import HandS.Flow
import HandS.Style
import HandS.Deep
import KE.SortData
import HandS.SortInts
import HandS.IsInst
import HandS.Conv
import HandS.Star
import HandS.Iter
import HandS.Zip
import HandS.Zip0
import KE.GoesEnum
import HandS.DictComp
import HandS.WordsExc
import HandS.Small
import HandS.Defaults
import HandS.Ends
import HandS.Head0
import HandS.Head1
import HandS.Head2
import HandS.HeadEnd
import HandS.HeadHook1
import HandS.HeadHook2
import KE.KTupSum
import HandS.SetKeys
import PyProof.WalkInts
import HandS.SetFor
import PySem.Challenge.RW_sharebags_k49_whole_mean_steps
set_option Elab.async false
set_option linter.all false
set_option maxRecDepth 100000
/-! Va1: data trees with ownership, the state, the frame rule -/
namespace Va
open PySem PySem.Spec PyProof.Rows L2

/-- data trees: lists and dicts carry whether they are owned (changed in place by us alone) -/
inductive D where
  | non | bl (b : Bool) | int (i : Int) | str (x : Str)
  | tup (xs : List D) | rol (xs : List D) | lst (o : Bool) (xs : List D) | dic (o : Bool) (kvs : List (D × D))
instance : Inhabited D := ⟨.non⟩

/-- an int or text as a key -/
def keyD : D → Option Key
  | .int i => some (.inl i)
  | .str x => some (.inr x)
  | _ => none

/-- a list that is only read -/
def SqZ (K : PySem.W.Frag) (Fz : Addr → Prop) (H : Hp) (a : Addr) (xs : List V) : Prop :=
  (Rd H a (.lst xs) ∧ Fz a) ∨ ∃ (o : Obj) (its : Array Value) (n : Nat), K.lookup a = some o ∧ o.cls = .type "list" ∧ o.dict = none ∧ o.data = .seq its n ∧ its.size ≤ sizeLine ∧ Vals xs its.toList
theorem SqZ.sq {K : PySem.W.Frag} {Fz : Addr → Prop} {H : Hp} {a : Addr} {xs : List V} (h : SqZ K Fz H a xs) : SqL K H a xs := by
  rcases h with h | h
  · exact .inl h.1
  · exact .inr h
mutual
inductive Rep (K : PySem.W.Frag) (Fz : Addr → Prop) (H : Hp) : D → V → List Addr → Prop
  | non : Rep K Fz H .non .non []
  | bl (b : Bool) : Rep K Fz H (.bl b) (.bl b) []
  | int (i : Int) : Rep K Fz H (.int i) (.int i) []
  | str (x : Str) : Rep K Fz H (.str x) (.str x) []
  | tup {a : Addr} {xs : List D} {vs : List V} : H a = some (.tup vs) → Fz a → RepL K Fz H xs vs [] → Rep K Fz H (.tup xs) (.ref a) []
  | rol {a : Addr} {xs : List D} {vs : List V} : SqZ K Fz H a vs → RepL K Fz H xs vs [] → Rep K Fz H (.rol xs) (.ref a) []
  | lstF {a : Addr} {xs : List D} {vs : List V} : H a = some (.lst vs) → Fz a → RepL K Fz H xs vs [] → Rep K Fz H (.lst false xs) (.ref a) []
  | lstO {a : Addr} {xs : List D} {vs : List V} {fp : List Addr} : H a = some (.lst vs) → RepL K Fz H xs vs fp → Rep K Fz H (.lst true xs) (.ref a) (a :: fp)
  | dicF {a : Addr} {xs : List (D × D)} {vs : List (Key × V)} : H a = some (.dK vs) → Fz a → RepK K Fz H xs vs [] → Rep K Fz H (.dic false xs) (.ref a) []
  | dicO {a : Addr} {xs : List (D × D)} {vs : List (Key × V)} {fp : List Addr} : H a = some (.dK vs) → RepK K Fz H xs vs fp → Rep K Fz H (.dic true xs) (.ref a) (a :: fp)
inductive RepL (K : PySem.W.Frag) (Fz : Addr → Prop) (H : Hp) : List D → List V → List Addr → Prop
  | nil : RepL K Fz H [] [] []
  | cons {x : D} {v : V} {f : List Addr} {xs : List D} {vs : List V} {g : List Addr} : Rep K Fz H x v f → RepL K Fz H xs vs g → RepL K Fz H (x :: xs) (v :: vs) (f ++ g)
inductive RepK (K : PySem.W.Frag) (Fz : Addr → Prop) (H : Hp) : List (D × D) → List (Key × V) → List Addr → Prop
  | nil : RepK K Fz H [] [] []
  | cons {k x : D} {kk : Key} {v : V} {f : List Addr} {xs : List (D × D)} {vs : List (Key × V)} {g : List Addr} : keyD k = some kk → Rep K Fz H x v f → RepK K Fz H xs vs g → RepK K Fz H ((k, x) :: xs) ((kk, v) :: vs) (f ++ g)
end

/-- how the heap may go on while fp is ours -/
structure Go (Fz : Addr → Prop) (H : Hp) (fp : List Addr) (Fz' : Addr → Prop) (H' : Hp) (fp' : List Addr) : Prop where
  keep : ∀ a o, H a = some o → a ∉ fp → H' a = some o
  dom : ∀ a, H' a = none → H a = none
  fzm : ∀ a, Fz a → Fz' a
  fzn : ∀ a, Fz' a → Fz a ∨ a ∈ fp ∨ H a = none
  fpn : ∀ a, a ∈ fp' → a ∈ fp ∨ H a = none

theorem Go.refl {Fz : Addr → Prop} {H : Hp} {fp : List Addr} : Go Fz H fp Fz H fp :=
  ⟨fun _ _ h _ => h, fun _ h => h, fun _ h => h, fun _ h => .inl h, fun _ h => .inl h⟩
theorem Go.trans {Fz F1 F2 : Addr → Prop} {H H1 H2 : Hp} {f f1 f2 : List Addr} (g : Go Fz H f F1 H1 f1) (g' : Go F1 H1 f1 F2 H2 f2) : Go Fz H f F2 H2 f2 where
  keep a o h n := g'.keep a o (g.keep a o h n) fun q => by
    rcases g.fpn a q with z | z
    · exact n z
    · rw [h] at z; cases z
  dom a h := g.dom a (g'.dom a h)
  fzm a h := g'.fzm a (g.fzm a h)
  fzn a h := by
    rcases g'.fzn a h with z | z | z
    · exact g.fzn a z
    · exact .inr (g.fpn a z)
    · exact .inr (.inr (g.dom a z))
  fpn a h := by
    rcases g'.fpn a h with z | z
    · exact g.fpn a z
    · exact .inr (g.dom a z)
theorem Go.sub {Fz F1 : Addr → Prop} {H H1 : Hp} {f f1 f2 : List Addr} (g : Go Fz H f F1 H1 f1) (h : ∀ a ∈ f2, a ∈ f1) : Go Fz H f F1 H1 f2 :=
  ⟨g.keep, g.dom, g.fzm, g.fzn, fun a q => g.fpn a (h a q)⟩
/-- more may be held -/
theorem Go.frame {Fz F1 : Addr → Prop} {H H1 : Hp} {f f1 k k1 : List Addr} (g : Go Fz H f F1 H1 f1) (h : ∀ a ∈ f, a ∈ k) (h1 : ∀ a ∈ k1, a ∈ f1 ∨ a ∈ k) : Go Fz H k F1 H1 k1 :=
  ⟨fun a o e n => g.keep a o e fun q => n (h a q), g.dom, g.fzm, fun a q => by
    rcases g.fzn a q with z | z | z
    · exact .inl z
    · exact .inr (.inl (h a z))
    · exact .inr (.inr z), fun a q => by
    rcases h1 a q with z | z
    · rcases g.fpn a z with y | y
      · exact .inl (h a y)
      · exact .inr y
    · exact .inl z⟩

section
variable {K : PySem.W.Frag} {Fz Fz' : Addr → Prop} {H H' : Hp}

theorem rd_keep {a : Addr} {u : HO} (k : ∀ o, H a = some o → H' a = some o) (h : Rd H a u) : Rd H' a u := by
  rcases h with h | ⟨o, h⟩
  · exact .inl (k _ h)
  · exact .inr ⟨o, k _ h⟩
theorem sqZ_keep {a : Addr} {xs : List V} (m : ∀ a, Fz a → Fz' a) (kz : ∀ a o, Fz a → H a = some o → H' a = some o) (h : SqZ K Fz H a xs) : SqZ K Fz' H' a xs := by
  rcases h with ⟨h, z⟩ | h
  · exact .inl ⟨rd_keep (fun o e => kz _ o z e) h, m _ z⟩
  · exact .inr h

mutual
/-- what is told stays told where its addresses stay -/
theorem Rep.keep (m : ∀ a, Fz a → Fz' a) (kz : ∀ a o, Fz a → H a = some o → H' a = some o) : ∀ {d v f}, (h : Rep K Fz H d v f) → (∀ a o, a ∈ f → H a = some o → H' a = some o) → Rep K Fz' H' d v f
  | _, _, _, .non, _ => .non
  | _, _, _, .bl b, _ => .bl b
  | _, _, _, .int i, _ => .int i
  | _, _, _, .str x, _ => .str x
  | _, _, _, .tup q z r, k => .tup (kz _ _ z q) (m _ z) (RepL.keep m kz r (fun _ _ h => nomatch h))
  | _, _, _, .rol q r, k => .rol (sqZ_keep m kz q) (RepL.keep m kz r (fun _ _ h => nomatch h))
  | _, _, _, .lstF q z r, k => .lstF (kz _ _ z q) (m _ z) (RepL.keep m kz r (fun _ _ h => nomatch h))
  | _, _, _, .lstO q r, k => .lstO (k _ _ (List.mem_cons_self ..) q) (RepL.keep m kz r fun a o h => k a o (List.mem_cons_of_mem _ h))
  | _, _, _, .dicF q z r, k => .dicF (kz _ _ z q) (m _ z) (RepK.keep m kz r (fun _ _ h => nomatch h))
  | _, _, _, .dicO q r, k => .dicO (k _ _ (List.mem_cons_self ..) q) (RepK.keep m kz r fun a o h => k a o (List.mem_cons_of_mem _ h))
theorem RepL.keep (m : ∀ a, Fz a → Fz' a) (kz : ∀ a o, Fz a → H a = some o → H' a = some o) : ∀ {d v f}, (h : RepL K Fz H d v f) → (∀ a o, a ∈ f → H a = some o → H' a = some o) → RepL K Fz' H' d v f
  | _, _, _, .nil, _ => .nil
  | _, _, _, .cons r s, k => .cons (Rep.keep m kz r fun a o h => k a o (List.mem_append_left _ h)) (RepL.keep m kz s fun a o h => k a o (List.mem_append_right _ h))
theorem RepK.keep (m : ∀ a, Fz a → Fz' a) (kz : ∀ a o, Fz a → H a = some o → H' a = some o) : ∀ {d v f}, (h : RepK K Fz H d v f) → (∀ a o, a ∈ f → H a = some o → H' a = some o) → RepK K Fz' H' d v f
  | _, _, _, .nil, _ => .nil
  | _, _, _, .cons e r s, k => .cons e (Rep.keep m kz r fun a o h => k a o (List.mem_append_left _ h)) (RepK.keep m kz s fun a o h => k a o (List.mem_append_right _ h))
end

mutual
/-- what is owned stands -/
theorem Rep.there : ∀ {d v f}, (h : Rep K Fz H d v f) → ∀ a, a ∈ f → H a ≠ none
  | _, _, _, .non, _, h => nomatch h
  | _, _, _, .bl _, _, h => nomatch h
  | _, _, _, .int _, _, h => nomatch h
  | _, _, _, .str _, _, h => nomatch h
  | _, _, _, .tup _ _ _, _, h => nomatch h
  | _, _, _, .lstF _ _ _, _, h => nomatch h
  | _, _, _, .rol _ _, _, h => nomatch h
  | _, _, _, .dicF _ _ _, _, h => nomatch h
  | _, _, _, .lstO q r, a, h => (List.mem_cons.mp h).elim (fun e => by rw [e, q]; exact Option.some_ne_none _) fun e => RepL.there r a e
  | _, _, _, .dicO q r, a, h => (List.mem_cons.mp h).elim (fun e => by rw [e, q]; exact Option.some_ne_none _) fun e => RepK.there r a e
theorem RepL.there : ∀ {d v f}, (h : RepL K Fz H d v f) → ∀ a, a ∈ f → H a ≠ none
  | _, _, _, .nil, _, h => nomatch h
  | _, _, _, .cons r s, a, h => (List.mem_append.mp h).elim (fun e => Rep.there r a e) fun e => RepL.there s a e
theorem RepK.there : ∀ {d v f}, (h : RepK K Fz H d v f) → ∀ a, a ∈ f → H a ≠ none
  | _, _, _, .nil, _, h => nomatch h
  | _, _, _, .cons _ r s, a, h => (List.mem_append.mp h).elim (fun e => Rep.there r a e) fun e => RepK.there s a e
end
end

/-- slots: none is told of some, or a datum -/
inductive RepO (K : PySem.W.Frag) (Fz : Addr → Prop) (H : Hp) : Option D → Option V → List Addr → Prop
  | skip {y : Option V} : RepO K Fz H none y []
  | som {d : D} {v : V} {f : List Addr} : Rep K Fz H d v f → RepO K Fz H (some d) (some v) f
inductive RepS (K : PySem.W.Frag) (Fz : Addr → Prop) (H : Hp) : List (Option D) → List (Option V) → List Addr → Prop
  | nil : RepS K Fz H [] [] []
  | cons {x : Option D} {y : Option V} {f g : List Addr} {st : List (Option D)} {σ : List (Option V)} : RepO K Fz H x y f → RepS K Fz H st σ g → RepS K Fz H (x :: st) (y :: σ) (f ++ g)

section
variable {K : PySem.W.Frag} {Fz Fz' : Addr → Prop} {H H' : Hp} {st : List (Option D)} {σ : List (Option V)} {fp : List Addr}
theorem RepO.keep (m : ∀ a, Fz a → Fz' a) (kz : ∀ a o, Fz a → H a = some o → H' a = some o) {x y f} (h : RepO K Fz H x y f) (k : ∀ a o, a ∈ f → H a = some o → H' a = some o) : RepO K Fz' H' x y f := by
  cases h with
  | skip => exact .skip
  | som r => exact .som (r.keep m kz k)
theorem RepS.keep (m : ∀ a, Fz a → Fz' a) (kz : ∀ a o, Fz a → H a = some o → H' a = some o) {x y f} (h : RepS K Fz H x y f) (k : ∀ a o, a ∈ f → H a = some o → H' a = some o) : RepS K Fz' H' x y f := by
  induction h with
  | nil => exact .nil
  | cons r s ih => exact .cons (r.keep m kz fun a o h => k a o (List.mem_append_left _ h)) (ih fun a o h => k a o (List.mem_append_right _ h))
theorem RepO.there {x y f} (h : RepO K Fz H x y f) : ∀ a ∈ f, H a ≠ none := by
  cases h with
  | skip => intro a h; exact nomatch h
  | som r => exact r.there
theorem RepS.there {x y f} (h : RepS K Fz H x y f) : ∀ a ∈ f, H a ≠ none := by
  induction h with
  | nil => intro a h; exact nomatch h
  | cons r s ih => intro a h; rcases List.mem_append.mp h with e | e; exact r.there a e; exact ih a e
theorem RepS.length (h : RepS K Fz H st σ fp) : st.length = σ.length := by
  induction h with
  | nil => rfl
  | cons _ _ ih => simp [ih]
theorem RepS.app {s2 y2 g} (h : RepS K Fz H st σ fp) (h2 : RepS K Fz H s2 y2 g) : RepS K Fz H (st ++ s2) (σ ++ y2) (fp ++ g) := by
  induction h with
  | nil => exact h2
  | cons r s ih => rw [List.append_assoc]; exact .cons r ih
theorem RepS.split : ∀ {P : List (Option D)} {PV : List (Option V)} {s2 y2 fp}, P.length = PV.length → RepS K Fz H (P ++ s2) (PV ++ y2) fp → ∃ f g, fp = f ++ g ∧ RepS K Fz H P PV f ∧ RepS K Fz H s2 y2 g
  | [], [], _, _, _, _, h => ⟨[], _, rfl, .nil, h⟩
  | x :: P, y :: PV, s2, y2, _, hl, .cons r s => by
    obtain ⟨f, g, e, a, b⟩ := RepS.split (P := P) (PV := PV) (by simpa using hl) s
    exact ⟨_, g, by rw [e, ← List.append_assoc], .cons r a, b⟩
/-- one slot told apart from the others -/
theorem RepS.at {i : Nat} {x : Option D} (R : RepS K Fz H st σ fp) (h : st[i]? = some x) : ∃ y f g, σ[i]? = some y ∧ RepO K Fz H x y f ∧ fp.Perm (f ++ g) ∧
    ∀ {Fz' : Addr → Prop} {H' : Hp}, (∀ {e w k}, (∀ a ∈ k, a ∈ g) → RepO K Fz H e w k → RepO K Fz' H' e w k) → ∀ {x' y' f'}, RepO K Fz' H' x' y' f' → ∃ fp', RepS K Fz' H' (st.set i x') (σ.set i y') fp' ∧ fp'.Perm (f' ++ g) := by
  induction R generalizing i with
  | nil => simp at h
  | @cons x0 y0 f0 g0 st0 σ0 r s ih =>
    cases i with
    | zero =>
      simp only [List.getElem?_cons_zero, Option.some.injEq] at h
      subst h
      refine ⟨y0, f0, g0, by simp, r, .refl _, fun {Fz' H'} k {x' y' f'} r' => ⟨f' ++ g0, .cons r' ?_, .refl _⟩⟩
      clear ih r'
      induction s with
      | nil => exact .nil
      | cons r s ih => exact .cons (k (fun a h => List.mem_append_left _ h) r) (ih fun h r => k (fun a q => List.mem_append_right _ (h a q)) r)
    | succ i =>
      obtain ⟨y, f, g, e, ro, p, k⟩ := ih (i := i) (by simpa using h)
      refine ⟨y, f, f0 ++ g, by simpa using e, ro, ?_, fun {Fz' H'} kp {x' y' f'} r' => ?_⟩
      · refine (p.append_left f0).trans ?_
        rw [← List.append_assoc, ← List.append_assoc]
        exact (List.perm_append_comm).append_right g
      · obtain ⟨fp', s', p'⟩ := k (fun h r => kp (fun a q => List.mem_append_right _ (h a q)) r) r'
        refine ⟨f0 ++ fp', .cons (kp (fun a q => List.mem_append_left _ q) r) s', ?_⟩
        refine (p'.append_left f0).trans ?_
        rw [← List.append_assoc, ← List.append_assoc]
        exact (List.perm_append_comm).append_right g
end

/-- the state of a frame: its slots' data over the heap; what is owned is owned once and not frozen -/
structure Cfg (K : PySem.W.Frag) (Fz : Addr → Prop) (H : Hp) (st : List (Option D)) (σ : List (Option V)) (fp : List Addr) : Prop where
  rep : RepS K Fz H st σ fp
  nd : fp.Nodup
  fz : ∀ a ∈ fp, ¬ Fz a
  ft : ∀ a, Fz a → H a ≠ none

section
variable {K : PySem.W.Frag} {Fz Fz' : Addr → Prop} {H H' : Hp} {st st' P : List (Option D)} {σ σ' PV : List (Option V)} {fp fp' : List Addr}
theorem Cfg.there (C : Cfg K Fz H st σ fp) : ∀ a ∈ fp, H a ≠ none := C.rep.there
/-- THE FRAME RULE -/
theorem Cfg.frame (C : Cfg K Fz H (P ++ st) (PV ++ σ) fp) (hl : P.length = PV.length) : ∃ fP f, Cfg K Fz H st σ f ∧ ∀ {Fz' H' st' σ' f'}, Cfg K Fz' H' st' σ' f' → Go Fz H f Fz' H' f' → ∃ fp', Cfg K Fz' H' (P ++ st') (PV ++ σ') fp' ∧ Go Fz H fp Fz' H' fp' ∧ fp' = fP ++ f' := by
  obtain ⟨fP, f, rfl, a, b⟩ := C.rep.split hl
  have nd := List.nodup_append.mp C.nd
  refine ⟨fP, f, ⟨b, nd.2.1, fun a h => C.fz a (List.mem_append_right _ h), C.ft⟩, fun {Fz' H' st' σ' f'} C' g => ⟨fP ++ f', ⟨?_, ?_, ?_, C'.ft⟩, ?_, rfl⟩⟩
  · refine (a.keep g.fzm (fun x o z e => g.keep x o e fun q => C.fz x (List.mem_append_right _ q) z) fun x o h e => g.keep x o e fun q => nd.2.2 x h x q rfl).app C'.rep
  · refine List.nodup_append.mpr ⟨nd.1, C'.nd, fun x h y h' e => ?_⟩
    subst e
    rcases g.fpn x h' with z | z
    · exact nd.2.2 x h x z rfl
    · exact a.there x h z
  · intro x h z
    rcases List.mem_append.mp h with h | h
    · rcases g.fzn x z with q | q | q
      · exact C.fz x (List.mem_append_left _ h) q
      · exact nd.2.2 x h x q rfl
      · exact a.there x h q
    · exact C'.fz x h z
  · exact g.frame (fun x h => List.mem_append_right _ h) fun x h => by
      rcases List.mem_append.mp h with h | h
      · exact .inr (List.mem_append_left _ h)
      · exact .inl h
theorem Cfg.drop {x : Option D} {y : Option V} (C : Cfg K Fz H (x :: st) (y :: σ) fp) : ∃ fp', Cfg K Fz H st σ fp' ∧ ∀ a ∈ fp', a ∈ fp := by
  obtain ⟨R, nd, fz, ft⟩ := C
  cases R with
  | cons r s => exact ⟨_, ⟨s, (List.nodup_append.mp nd).2.1, fun a h => fz a (List.mem_append_right _ h), ft⟩, fun a h => List.mem_append_right _ h⟩
theorem Cfg.drops (hl : P.length = PV.length) (C : Cfg K Fz H (P ++ st) (PV ++ σ) fp) : ∃ fp', Cfg K Fz H st σ fp' ∧ ∀ a ∈ fp', a ∈ fp := by
  obtain ⟨fP, f, rfl, a, b⟩ := C.rep.split hl
  exact ⟨f, ⟨b, (List.nodup_append.mp C.nd).2.1, fun a h => C.fz a (List.mem_append_right _ h), C.ft⟩, fun a h => List.mem_append_right _ h⟩
theorem Cfg.perm (C : Cfg K Fz H st σ fp) {st' σ' fp'} (R : RepS K Fz H st' σ' fp') (p : fp'.Perm fp) : Cfg K Fz H st' σ' fp' :=
  ⟨R, p.nodup_iff.mpr C.nd, fun a h => C.fz a (p.mem_iff.mp h), C.ft⟩
/-- the head goes behind -/
theorem Cfg.sink {x : Option D} {y : Option V} (hl : P.length = PV.length) (C : Cfg K Fz H (x :: (P ++ st)) (y :: (PV ++ σ)) fp) : ∃ fp', Cfg K Fz H (P ++ x :: st) (PV ++ y :: σ) fp' ∧ fp'.Perm fp := by
  obtain ⟨R, nd, fz, ft⟩ := C
  cases R with
  | @cons _ _ f g _ _ r s =>
    obtain ⟨f1, f2, e, a, b⟩ := s.split hl
    subst e
    have p : (f1 ++ (f ++ f2)).Perm (f ++ (f1 ++ f2)) := by
      rw [← List.append_assoc, ← List.append_assoc]; exact (List.perm_append_comm).append_right _
    exact ⟨f1 ++ (f ++ f2), Cfg.perm ⟨.cons r s, nd, fz, ft⟩ (a.app (.cons r b)) p, p⟩
theorem Cfg.float {x : Option D} {y : Option V} (hl : P.length = PV.length) (C : Cfg K Fz H (P ++ x :: st) (PV ++ y :: σ) fp) : ∃ fp', Cfg K Fz H (x :: (P ++ st)) (y :: (PV ++ σ)) fp' ∧ fp'.Perm fp := by
  obtain ⟨f1, g, e, a, b⟩ := C.rep.split hl
  subst e
  cases b with
  | @cons _ _ f f2 _ _ r s =>
    have p : (f ++ (f1 ++ f2)).Perm (f1 ++ (f ++ f2)) := by
      rw [← List.append_assoc, ← List.append_assoc]; exact (List.perm_append_comm).append_right _
    exact ⟨_, Cfg.perm C (.cons r (a.app s)) p, p⟩
theorem Cfg.atom {d : D} {v : V} (C : Cfg K Fz H st σ fp) (r : Rep K Fz H d v []) : Cfg K Fz H (some d :: st) (some v :: σ) fp := ⟨.cons (.som r) C.rep, C.nd, C.fz, C.ft⟩
theorem Cfg.head {d : D} {y : Option V} (C : Cfg K Fz H (some d :: st) (y :: σ) fp) : ∃ v f, y = some v ∧ Rep K Fz H d v f ∧ ∀ a ∈ f, a ∈ fp := by
  obtain ⟨R, nd, fz, ft⟩ := C
  cases R with
  | cons r s => cases r with | som r => exact ⟨_, _, rfl, r, fun a h => List.mem_append_left _ h⟩
theorem Cfg.get {i : Nat} {d : D} (C : Cfg K Fz H st σ fp) (h : st[i]? = some (some d)) : ∃ v f, σ[i]? = some (some v) ∧ Rep K Fz H d v f ∧ ∀ a ∈ f, a ∈ fp := by
  obtain ⟨y, f, g, e, r, p, _⟩ := C.rep.at h
  cases r with
  | som r => exact ⟨_, f, e, r, fun a q => p.mem_iff.mpr (List.mem_append_left _ q)⟩
end
end Va
/-! Va2: judgements; operators -/
namespace Va
open PySem PySem.Spec PyProof.Rows L2

abbrev S := List (Option D)
abbrev M (α : Type) := S → Option (α × S)
/-- what the calls of a body may lean on -/
structure GCx where
  prog : Program
  w : World
  K : PySem.W.Frag
  mg : Str → Option Value
  base : Heap
  A : Around
abbrev gOf (X : Cx) : GCx := ⟨X.prog, X.w, X.K, X.mg, X.base, X.A⟩
structure Gam where
  N : List Str
  sc : Scope
  fnm : Str → Bool := fun _ => true
structure On (Γ : Gam) (Φ : GCx → Prop) (X : Cx) : Prop where
  N : X.N = Γ.N
  sc : X.env.scope = Γ.sc
  nd : X.N.Nodup
  calm : X.calm = true
  kind : X.env.scope.kind = .function
  fn : ∀ x, Γ.fnm x = true → X.fn x = true
  hu : X.A.units + 100 < cLine
  phi : Φ (gOf X)

/-- an expression's meaning as a reading -/
def rd (K : PySem.W.Frag) (m : M D) : TE := fun σ H Q => ∃ Fz fp st, Cfg K Fz H st σ fp ∧ ∃ d st', m st = some (d, st') ∧
  ∀ v H' Fz' fp', Cfg K Fz' H' (some d :: st') (some v :: σ) fp' → Go Fz H fp Fz' H' fp' → Q v H'
def rdT (K : PySem.W.Frag) (m : M Bool) : TT := fun σ H Q => ∃ Fz fp st, Cfg K Fz H st σ fp ∧ ∃ b st', m st = some (b, st') ∧
  ∀ H' Fz' fp', Cfg K Fz' H' st' σ fp' → Go Fz H fp Fz' H' fp' → Q b H'
def rdA (K : PySem.W.Frag) (m : M (List D)) : TA := fun σ H Q => ∃ Fz fp st, Cfg K Fz H st σ fp ∧ ∃ ds st', m st = some (ds, st') ∧
  ∀ vs H' Fz' fp', vs.length = ds.length → Cfg K Fz' H' (ds.map some ++ st') (vs.map some ++ σ) fp' → Go Fz H fp Fz' H' fp' → Q vs H'

def SE (Γ : Gam) (Φ : GCx → Prop) (e : Expr) (m : M D) : Prop := ∀ X, On Γ Φ X → PE X e (rd X.K m)
def ST (Γ : Gam) (Φ : GCx → Prop) (e : Expr) (m : M Bool) : Prop := ∀ X, On Γ Φ X → PT X e (rdT X.K m)
def SW (Γ : Gam) (Φ : GCx → Prop) (e : Expr) (m : M Bool) : Prop := ∀ X, On Γ Φ X → PW X e (rdT X.K m)
def SA (Γ : Gam) (Φ : GCx → Prop) (es : List Expr) (m : M (List D)) : Prop := ∀ X, On Γ Φ X → PA X es (rdA X.K m)

theorem pe_imp {X : Cx} {e : Expr} {t t' : TE} (h : PE X e t) (i : ∀ σ H Q, t' σ H Q → t σ H Q) : PE X e t' := ⟨fun pins s σ H Q I q => h.run pins s σ H Q I (i σ H Q q)⟩
theorem pt_imp {X : Cx} {e : Expr} {t t' : TT} (h : PT X e t) (i : ∀ σ H Q, t' σ H Q → t σ H Q) : PT X e t' := ⟨fun pins s σ H Q I q => h.run pins s σ H Q I (i σ H Q q)⟩
theorem pw_imp {X : Cx} {e : Expr} {t t' : TT} (h : PW X e t) (i : ∀ σ H Q, t' σ H Q → t σ H Q) : PW X e t' := ⟨fun wh pins s σ H Q I q => h.run wh pins s σ H Q I (i σ H Q q)⟩
theorem pa_imp {X : Cx} {e : List Expr} {t t' : TA} (h : PA X e t) (i : ∀ σ H Q, t' σ H Q → t σ H Q) : PA X e t' := ⟨fun pos pins s σ H Q I q => h.run pos pins s σ H Q I (i σ H Q q)⟩
theorem pi_imp {X : Cx} {tg e : Expr} {t t' : TI} (h : PI X tg e t) (i : ∀ σ H Q, t' σ H Q → t σ H Q) : PI X tg e t' := ⟨fun pins s σ H Q I q => h.run pins s σ H Q I (i σ H Q q)⟩
theorem ps_imp {X : Cx} {e : Stmt} {t t' : TS} (h : PS X e t) (i : ∀ D σ H, t' D σ H → t D σ H) : PS X e t' := ⟨fun pins s σ H D I q => h.run pins s σ H D I (i D σ H q)⟩
theorem pss_imp {X : Cx} {e : List Stmt} {t t' : TS} (h : PSs X e t) (i : ∀ D σ H, t' D σ H → t D σ H) : PSs X e t' := ⟨fun pins s σ H D I q => h.run pins s σ H D I (i D σ H q)⟩

section
variable {K : PySem.W.Frag} {Fz : Addr → Prop} {H : Hp} {st st' P : S} {σ PV : List (Option V)} {fp : List Addr}
theorem rd.run {m : M D} {d : D} {Q : VK} (C : Cfg K Fz H (P ++ st) (PV ++ σ) fp) (hl : P.length = PV.length) (hm : m st = some (d, st'))
    (k : ∀ v H' Fz' fp', Cfg K Fz' H' (some d :: (P ++ st')) (some v :: (PV ++ σ)) fp' → Go Fz H fp Fz' H' fp' → Q v H') : rd K m σ H Q := by
  obtain ⟨fP, f, C0, fr⟩ := C.frame hl
  refine ⟨Fz, f, st, C0, d, st', hm, fun v H' Fz' fp' C' g => ?_⟩
  obtain ⟨fp2, C2, g2, e⟩ := fr C' g
  obtain ⟨fp3, C3, p⟩ := C2.float (P := P) (PV := PV) hl
  exact k v H' Fz' fp3 C3 (g2.sub fun a h => p.mem_iff.mp h)
theorem rdT.run {m : M Bool} {d : Bool} {Q : Bool → Hp → Prop} (C : Cfg K Fz H (P ++ st) (PV ++ σ) fp) (hl : P.length = PV.length) (hm : m st = some (d, st'))
    (k : ∀ H' Fz' fp', Cfg K Fz' H' (P ++ st') (PV ++ σ) fp' → Go Fz H fp Fz' H' fp' → Q d H') : rdT K m σ H Q := by
  obtain ⟨fP, f, C0, fr⟩ := C.frame hl
  refine ⟨Fz, f, st, C0, d, st', hm, fun H' Fz' fp' C' g => ?_⟩
  obtain ⟨fp2, C2, g2, e⟩ := fr C' g
  exact k H' Fz' fp2 C2 g2
theorem Cfg.rot : ∀ {P : S} {PV : List (Option V)} {R : S} {RV : List (Option V)} {fp}, P.length = PV.length → R.length = RV.length → Cfg K Fz H (P ++ (R ++ st)) (PV ++ (RV ++ σ)) fp → ∃ fp', Cfg K Fz H (R ++ (P ++ st)) (RV ++ (PV ++ σ)) fp' ∧ fp'.Perm fp
  | P, PV, [], [], fp, _, _, C => ⟨fp, C, .refl _⟩
  | P, PV, x :: R, y :: RV, fp, hl, h, C => by
    obtain ⟨f1, C1, p1⟩ := Cfg.float (P := P) (PV := PV) (st := R ++ st) (σ := RV ++ σ) hl C
    obtain ⟨f2, C2, p2⟩ : ∃ fp', Cfg K Fz H (R ++ ((x :: P) ++ st)) (RV ++ ((y :: PV) ++ σ)) fp' ∧ fp'.Perm f1 := Cfg.rot (by simp [hl]) (by simpa using h) C1
    obtain ⟨f3, C3, p3⟩ := Cfg.float (x := x) (y := y) (P := R) (PV := RV) (by simpa using h) C2
    exact ⟨f3, C3, p3.trans (p2.trans p1)⟩
theorem rdA.run {m : M (List D)} {ds : List D} {Q : List V → Hp → Prop} (C : Cfg K Fz H (P ++ st) (PV ++ σ) fp) (hl : P.length = PV.length) (hm : m st = some (ds, st'))
    (k : ∀ vs H' Fz' fp', vs.length = ds.length → Cfg K Fz' H' (ds.map some ++ (P ++ st')) (vs.map some ++ (PV ++ σ)) fp' → Go Fz H fp Fz' H' fp' → Q vs H') : rdA K m σ H Q := by
  obtain ⟨fP, f, C0, fr⟩ := C.frame hl
  refine ⟨Fz, f, st, C0, ds, st', hm, fun vs H' Fz' fp' hv C' g => ?_⟩
  obtain ⟨fp2, C2, g2, e⟩ := fr C' g
  obtain ⟨fp3, C3, p⟩ := Cfg.rot hl (by simp [hv]) C2
  exact k vs H' Fz' fp3 hv C3 (g2.sub fun a h => p.mem_iff.mp h)

/-! ### ends of a value -/
abbrev Fin1 (K : PySem.W.Frag) (Fz : Addr → Prop) (H : Hp) (fp : List Addr) (σ : List (Option V)) (z : D) (s : S) (Q : VK) : Prop :=
  ∀ v H' Fz' fp', Cfg K Fz' H' (some z :: s) (some v :: σ) fp' → Go Fz H fp Fz' H' fp' → Q v H'
theorem fin_atom {Fz2 H2 fp2 T TV z v s Q} (k : Fin1 K Fz H fp σ z s Q) (hl : T.length = TV.length) (C : Cfg K Fz2 H2 (T ++ s) (TV ++ σ) fp2) (g : Go Fz H fp Fz2 H2 fp2) (r : Rep K Fz2 H2 z v []) : Q v H2 := by
  obtain ⟨f, C1, h⟩ := C.drops hl
  exact k v H2 Fz2 f (C1.atom r) (g.sub h)
/-- a new object -/
theorem fin_new {Fz2 H2 fp2 T TV z s Q o p} {Fz3 : Addr → Prop} {f3 : List Addr} (k : Fin1 K Fz H fp σ z s Q) (hl : T.length = TV.length) (C : Cfg K Fz2 H2 (T ++ s) (TV ++ σ) fp2) (g : Go Fz H fp Fz2 H2 fp2) (hp : H2 p = none)
    (ho : (f3 = [p] ∧ Fz3 = Fz2) ∨ (f3 = [] ∧ Fz3 = fun a => Fz2 a ∨ a = p)) (r : Rep K Fz3 (upd H2 p o) z (.ref p) f3) : Q (.ref p) (upd H2 p o) := by
  obtain ⟨f, C1, h⟩ := C.drops hl
  have hm : ∀ a, Fz2 a → Fz3 a := by
    rcases ho with ⟨_, e⟩ | ⟨_, e⟩
    · rw [e]; exact fun _ h => h
    · rw [e]; exact fun _ h => .inl h
  have hk : ∀ a u, H2 a = some u → upd H2 p o a = some u := fun a u e => by rw [upd_ne (ne_of_none e hp)]; exact e
  have nf : p ∉ f := fun q => C1.there p q hp
  have C2 : Cfg K Fz3 (upd H2 p o) (some z :: s) (some (.ref p) :: σ) (f3 ++ f) := by
    refine ⟨.cons (.som r) (C1.rep.keep hm (fun a u _ e => hk a u e) fun a u _ e => hk a u e), ?_, fun a h z => ?_, fun a z => ?_⟩
    · rcases ho with ⟨e, _⟩ | ⟨e, _⟩
      · rw [e]; exact List.nodup_cons.mpr ⟨nf, C1.nd⟩
      · rw [e]; exact C1.nd
    · rcases ho with ⟨e, e2⟩ | ⟨e, e2⟩
      · rw [e] at h
        rw [e2] at z
        rcases List.mem_cons.mp h with q | q
        · rw [q] at z; exact C1.ft p z hp
        · exact C1.fz a q z
      · rw [e] at h
        rw [e2] at z
        rcases z with z | z
        · exact C1.fz a h z
        · rw [z] at h; exact nf h
    · have z' : Fz2 a ∨ a = p := by
        rcases ho with ⟨_, e⟩ | ⟨_, e⟩
        · rw [e] at z; exact .inl z
        · rw [e] at z; exact z
      by_cases ea : a = p
      · rw [ea, upd_same]; exact Option.some_ne_none _
      · rw [upd_ne ea]
        exact C1.ft a (z'.resolve_right ea)
  refine k _ _ Fz3 (f3 ++ f) C2 (g.trans ⟨fun a u e _ => hk a u e, fun a e => ?_, hm, fun a z => ?_, fun a h' => ?_⟩)
  · by_cases e' : a = p
    · rw [e']; exact hp
    · rw [upd_ne e'] at e; exact e
  · rcases ho with ⟨_, e⟩ | ⟨_, e⟩
    · rw [e] at z; exact .inl z
    · rw [e] at z
      rcases z with z | z
      · exact .inl z
      · rw [z]; exact .inr (.inr hp)
  · rcases List.mem_append.mp h' with q | q
    · rcases ho with ⟨e, _⟩ | ⟨e, _⟩
      · rw [e] at q
        have : a = p := by simpa using q
        rw [this]; exact .inr hp
      · rw [e] at q; exact nomatch q
    · exact .inl (h a q)
end
end Va
/-! Va3: data compared -/
namespace Va
open PySem PySem.Spec PyProof.Rows L2

def shp : Nat → D → Bool
  | 0, _ => false
  | _ + 1, .non => true
  | _ + 1, .bl _ => true
  | _ + 1, .int _ => true
  | _ + 1, .str x => PyData.strOk x
  | n + 1, .tup xs => xs.all (shp n)
  | n + 1, .rol xs => xs.all (shp n)
  | n + 1, .lst _ xs => xs.all (shp n)
  | _ + 1, .dic _ _ => false
def toP : Nat → D → PyData
  | 0, _ => .none
  | _ + 1, .non => .none
  | _ + 1, .bl b => .bool b
  | _ + 1, .int i => .int i
  | _ + 1, .str x => .str x
  | n + 1, .tup xs => .tuple (xs.map (toP n))
  | n + 1, .rol xs => .list (xs.map (toP n))
  | n + 1, .lst _ xs => .list (xs.map (toP n))
  | _ + 1, .dic _ _ => .none
def eqL (f : D → D → Bool) : List D → List D → Bool
  | [], [] => true
  | x :: xs, y :: ys => f x y && eqL f xs ys
  | _, _ => false
def b2i (b : Bool) : Int := if b then 1 else 0
def seqOf : D → Option (Bool × List D)
  | .tup xs => some (true, xs)
  | .rol xs => some (false, xs)
  | .lst _ xs => some (false, xs)
  | _ => none
def eqF : Nat → D → D → Bool
  | 0, _, _ => false
  | n + 1, d, e =>
    match d, e with
    | .int i, .int j => i == j
    | .non, .non => true
    | .bl a, .bl b => a == b
    | .bl a, .int j => b2i a == j
    | .int i, .bl b => i == b2i b
    | .str x, .str y => x == y
    | d, e => match seqOf d, seqOf e with
      | some (a, xs), some (b, ys) => (a == b) && eqL (eqF n) xs ys
      | _, _ => false
def eqD (d e : D) : Option Bool := if shp 60 d && shp 60 e then some (eqF 60 d e) else none

theorem eqvAll_map {n : Nat} (ih : ∀ d e, shp n d = true → shp n e = true → eqF n d e = PyData.eqv (toP n d) (toP n e)) : ∀ xs ys : List D, xs.all (shp n) = true → ys.all (shp n) = true →
    eqL (eqF n) xs ys = PyData.eqvAll (xs.map (toP n)) (ys.map (toP n))
  | [], [], _, _ => by simp [eqL, PyData.eqvAll]
  | [], _ :: _, _, _ => by simp [eqL, PyData.eqvAll]
  | _ :: _, [], _, _ => by simp [eqL, PyData.eqvAll]
  | x :: xs, y :: ys, h, h' => by
    simp only [List.all_cons, Bool.and_eq_true] at h h'
    simp only [eqL, List.map_cons, PyData.eqvAll]
    rw [ih x y h.1 h'.1, eqvAll_map ih xs ys h.2 h'.2]
theorem eqF_eqv : ∀ (n : Nat) (d e : D), shp n d = true → shp n e = true → eqF n d e = PyData.eqv (toP n d) (toP n e)
  | 0, _, _, h, _ => by simp [shp] at h
  | n + 1, d, e, h, h' => by
    have L := eqvAll_map (eqF_eqv n)
    cases d <;> cases e <;> simp_all [eqF, toP, PyData.eqv, seqOf, shp, b2i]
theorem toP_lay : ∀ (n : Nat) (d : D), shp n d = true → (toP n d).canLay0 = true
  | 0, _, h => by simp [shp] at h
  | n + 1, d, h => by
    have L : ∀ xs : List D, xs.all (shp n) = true → PyData.canLayAll0 (xs.map (toP n)) = true := fun xs => by
      induction xs with
      | nil => intro _; simp [PyData.canLayAll0]
      | cons x xs ih =>
        intro h
        simp only [List.all_cons, Bool.and_eq_true] at h
        simp only [List.map_cons, PyData.canLayAll0, toP_lay n x h.1, ih h.2, Bool.and_self]
    cases d <;> simp_all [toP, PyData.canLay0, shp]
theorem toP_depth : ∀ (n : Nat) (d : D), (toP n d).depth ≤ n
  | 0, _ => by simp [toP, PyData.depth]
  | n + 1, d => by
    have L : ∀ xs : List D, PyData.depthAll (xs.map (toP n)) ≤ n := fun xs => by
      induction xs with
      | nil => simp [PyData.depthAll]
      | cons x xs ih =>
        have := toP_depth n x
        simp only [List.map_cons, PyData.depthAll]
        omega
    cases d with
    | tup xs => have := L xs; simp only [toP, PyData.depth]; omega
    | rol xs => have := L xs; simp only [toP, PyData.depth]; omega
    | lst o xs => have := L xs; simp only [toP, PyData.depth]; omega
    | _ => simp [toP, PyData.depth]
theorem toP_shaped {d : D} (h : shp 60 d = true) : SeqAt.shaped (toP 60 d) = true := by
  have := toP_depth 60 d
  simp only [SeqAt.shaped, toP_lay 60 d h, Bool.true_and, decide_eq_true_eq]
  omega
section
variable {K : PySem.W.Frag} {Fz : Addr → Prop} {H : Hp}
theorem RepL.dp {n : Nat} (ih : ∀ {d v f}, Rep K Fz H d v f → shp n d = true → Dp K H v (toP n d)) : ∀ {xs vs f}, RepL K Fz H xs vs f → xs.all (shp n) = true → DpAll K H vs (xs.map (toP n))
  | _, _, _, .nil, _ => .nil
  | _, _, _, .cons r s, h => by
    simp only [List.all_cons, Bool.and_eq_true] at h
    exact .cons (ih r h.1) (RepL.dp ih s h.2)
theorem Rep.dp : ∀ (n : Nat) {d v f}, Rep K Fz H d v f → shp n d = true → Dp K H v (toP n d)
  | 0, _, _, _, _, h => by simp [shp] at h
  | n + 1, d, v, f, r, h => by
    cases r with
    | non => exact .non
    | bl b => exact .bl b
    | int i => exact .int i
    | str x => exact .str x
    | tup q z r => exact .tup (.inl (.inl q)) (RepL.dp (Rep.dp n) r (by simpa [shp] using h))
    | rol q r => exact .lst q.sq (RepL.dp (Rep.dp n) r (by simpa [shp] using h))
    | lstF q z r => exact .lst (.inl (.inl q)) (RepL.dp (Rep.dp n) r (by simpa [shp] using h))
    | lstO q r => exact .lst (.inl (.inl q)) (RepL.dp (Rep.dp n) r (by simpa [shp] using h))
    | dicF q z r => simp [shp] at h
    | dicO q r => simp [shp] at h
end
end Va
/-! Va4: names, constants, operators, comparisons, tests -/
namespace Va
open PySem PySem.Spec PyProof.Rows L2

def imm : D → Bool
  | .lst o _ => !o
  | .dic o _ => !o
  | _ => true
mutual
def frz : D → D
  | .lst true xs => .lst false (frzL xs)
  | .dic true kvs => .dic false (frzK kvs)
  | d => d
def frzL : List D → List D
  | [] => []
  | x :: xs => frz x :: frzL xs
def frzK : List (D × D) → List (D × D)
  | [] => []
  | (k, x) :: xs => (k, frz x) :: frzK xs
end

section
variable {K : PySem.W.Frag} {Fz Fz' : Addr → Prop} {H : Hp}
theorem Rep.imm {d v f} (r : Rep K Fz H d v f) (h : Va.imm d = true) : f = [] := by
  cases r <;> simp_all [Va.imm]
theorem RepL.imm : ∀ {d v f}, RepL K Fz H d v f → d.all Va.imm = true → f = []
  | _, _, _, .nil, _ => rfl
  | _, _, _, .cons r s, h => by
    simp only [List.all_cons, Bool.and_eq_true] at h
    rw [r.imm h.1, RepL.imm s h.2]; rfl
theorem RepL.length : ∀ {d v f}, RepL K Fz H d v f → d.length = v.length
  | _, _, _, .nil => rfl
  | _, _, _, .cons r s => by simp [RepL.length s]
theorem RepL.app : ∀ {d v f d2 v2 g}, RepL K Fz H d v f → RepL K Fz H d2 v2 g → RepL K Fz H (d ++ d2) (v ++ v2) (f ++ g)
  | _, _, _, _, _, _, .nil, s => s
  | _, _, _, _, _, _, .cons r t, s => by rw [List.append_assoc]; exact .cons r (RepL.app t s)
theorem RepL.get0 : ∀ {d v} {i : Nat} {x : D}, RepL K Fz H d v [] → d[i]? = some x → ∃ y, v[i]? = some y ∧ Rep K Fz H x y []
  | _, _, i, x, h, e => by
    generalize hf : ([] : List Addr) = f at h
    cases h with
    | nil => simp at e
    | @cons d v f1 ds vs f2 r s =>
      obtain ⟨h1, h2⟩ := List.append_eq_nil_iff.mp hf.symm
      subst h1 h2
      cases i with
      | zero => simp at e; subst e; exact ⟨_, rfl, r⟩
      | succ i => obtain ⟨y, e1, r1⟩ := RepL.get0 (i := i) s (by simpa using e); exact ⟨y, by simpa using e1, r1⟩
theorem RepL.take0 : ∀ (n : Nat) {d v}, RepL K Fz H d v [] → RepL K Fz H (d.take n) (v.take n) []
  | 0, _, _, _ => .nil
  | n + 1, _, _, h => by
    generalize hf : ([] : List Addr) = f at h
    cases h with
    | nil => exact .nil
    | @cons d v f1 ds vs f2 r s =>
      obtain ⟨h1, h2⟩ := List.append_eq_nil_iff.mp hf.symm
      subst h1 h2
      exact .cons r (RepL.take0 n s)
theorem RepL.drop0 : ∀ (n : Nat) {d v}, RepL K Fz H d v [] → RepL K Fz H (d.drop n) (v.drop n) []
  | 0, _, _, h => h
  | n + 1, _, _, h => by
    generalize hf : ([] : List Addr) = f at h
    cases h with
    | nil => exact .nil
    | @cons d v f1 ds vs f2 r s =>
      obtain ⟨h1, h2⟩ := List.append_eq_nil_iff.mp hf.symm
      subst h1 h2
      exact RepL.drop0 n s
mutual
theorem Rep.frz (m : ∀ a, Fz a → Fz' a) : ∀ {d v f}, Rep K Fz H d v f → (∀ a ∈ f, Fz' a) → Rep K Fz' H (Va.frz d) v []
  | _, _, _, .non, _ => .non
  | _, _, _, .bl b, _ => .bl b
  | _, _, _, .int i, _ => .int i
  | _, _, _, .str x, _ => .str x
  | _, _, _, .tup q z r, _ => .tup q (m _ z) (r.keep m (fun _ _ _ h => h) fun _ _ _ h => h)
  | _, _, _, .rol q r, _ => .rol (sqZ_keep m (fun _ _ _ h => h) q) (r.keep m (fun _ _ _ h => h) fun _ _ _ h => h)
  | _, _, _, .lstF q z r, _ => .lstF q (m _ z) (r.keep m (fun _ _ _ h => h) fun _ _ _ h => h)
  | _, _, _, .lstO q r, k => .lstF q (k _ (List.mem_cons_self ..)) (RepL.frz m r fun a h => k a (List.mem_cons_of_mem _ h))
  | _, _, _, .dicF q z r, _ => .dicF q (m _ z) (r.keep m (fun _ _ _ h => h) fun _ _ _ h => h)
  | _, _, _, .dicO q r, k => .dicF q (k _ (List.mem_cons_self ..)) (RepK.frz m r fun a h => k a (List.mem_cons_of_mem _ h))
theorem RepL.frz (m : ∀ a, Fz a → Fz' a) : ∀ {d v f}, RepL K Fz H d v f → (∀ a ∈ f, Fz' a) → RepL K Fz' H (frzL d) v []
  | _, _, _, .nil, _ => .nil
  | _, _, _, .cons r s, k => .cons (f := []) (g := []) (Rep.frz m r fun a h => k a (List.mem_append_left _ h)) (RepL.frz m s fun a h => k a (List.mem_append_right _ h))
theorem RepK.frz (m : ∀ a, Fz a → Fz' a) : ∀ {d v f}, RepK K Fz H d v f → (∀ a ∈ f, Fz' a) → RepK K Fz' H (frzK d) v []
  | _, _, _, .nil, _ => .nil
  | _, _, _, .cons e r s, k => .cons (f := []) (g := []) e (Rep.frz m r fun a h => k a (List.mem_append_left _ h)) (RepK.frz m s fun a h => k a (List.mem_append_right _ h))
end
end

/-! ### names and constants -/
def mC (d : D) : M D := fun st => some (d, st)
/-- a name as a value: what is owned is frozen -/
def mVar (i : Nat) : M D := fun st => match st[i]? with
  | some (some d) => match imm d with
    | true => some (d, st)
    | false => some (frz d, st.set i (some (frz d)))
  | _ => none
def gVis (sc : Scope) (x : Str) : Bool := match sc.names.lookup x with
  | some .local => true | some .cell => true | some .free => true | _ => false
theorem gVis_vis {sc : Scope} {x : Str} (h : gVis sc x = true) : Vis sc x := by
  unfold gVis at h; unfold Vis
  split at h <;> simp_all
def gGl (sc : Scope) (x : Str) : Bool := sc.names.lookup x == some .globalImplicit
theorem gGl_gl {X : Cx} {sc : Scope} {x : Str} (e : X.env.scope = sc) (h : gGl sc x = true) : Gl X x := by
  subst e
  exact eq_of_beq h
section
variable {Γ : Gam} {Φ : GCx → Prop}
theorem On.vis {X : Cx} (o : On Γ Φ X) {x : Str} (h : gVis Γ.sc x = true) : Vis X.env.scope x := by rw [o.sc]; exact gVis_vis h
theorem On.gl {X : Cx} (o : On Γ Φ X) {x : Str} (h : gGl Γ.sc x = true) : Gl X x := gGl_gl o.sc h
theorem On.slot {X : Cx} (o : On Γ Φ X) {i : Nat} {x : Str} (h : Γ.N[i]? = some x) : X.N[i]? = some x := by rw [o.N]; exact h
theorem se_c {e : Expr} {d : D} {v : V} (h : ∀ X, On Γ Φ X → PE X e (tC v)) (r : ∀ K Fz H, Rep K Fz H d v []) : SE Γ Φ e (mC d) := fun X o => pe_imp (h X o) fun σ H Q q => by
  obtain ⟨Fz, fp, st, C, d', st', e, k⟩ := q
  cases e
  exact k v H Fz fp (C.atom (r _ _ _)) .refl
theorem se_int {i j pos} : SE Γ Φ (.Constant (.int i) j pos) (mC (.int i)) := se_c (fun _ _ => pe_int) fun _ _ _ => .int i
theorem se_bl {i j pos} : SE Γ Φ (.Constant (.bool i) j pos) (mC (.bl i)) := se_c (fun _ _ => pe_bl) fun _ _ _ => .bl i
theorem se_non {j pos} : SE Γ Φ (.Constant .none j pos) (mC .non) := se_c (fun _ _ => pe_non) fun _ _ _ => .non
theorem se_str {x j pos} : SE Γ Φ (.Constant (.str x) j pos) (mC (.str x)) := se_c (fun _ _ => pe_str) fun _ _ _ => .str x
/-- an int constant of the module -/
theorem se_gint {x : Str} {i : Int} {pos} (hm : ∀ X, On Γ Φ X → ∃ t, X.mg x = some (.int i t)) (hg : gGl Γ.sc x = true) (hd : (x == ("__debug__" : Str)) = false := by decide) : SE Γ Φ (.Name x pos) (mC (.int i)) :=
  se_c (fun X o => by obtain ⟨t, e⟩ := hm X o; exact pe_glob (o.gl hg) e ⟨t, rfl⟩ hd) fun _ _ _ => .int i
theorem se_var (i : Nat) {x : Str} {pos : Pos} (hN : Γ.N[i]? = some x := by rfl) (hv : gVis Γ.sc x = true := by rfl) (hd : (x == ("__debug__" : Str)) = false := by decide) (hcd : (x == ("__classdict__" : Str)) = false := by decide) :
    SE Γ Φ (.Name x pos) (mVar i) := fun X o => pe_imp (pe_var (o.slot hN) (o.vis hv) hd hcd) fun σ H Q q => by
  obtain ⟨Fz, fp, st, C, d', st', e, k⟩ := q
  unfold mVar at e
  split at e
  · rename_i d hd
    obtain ⟨y, f, g, ey, ro, p, put⟩ := C.rep.at hd
    cases ro with
    | @som _ v _ r =>
      split at e
      · rename_i hi
        cases e
        have := r.imm hi
        subst this
        exact ⟨v, ey, k v H Fz fp (C.atom r) .refl⟩
      · rename_i hi
        cases e
        refine ⟨v, ey, ?_⟩
        have nd : (f ++ g).Nodup := p.nodup_iff.mp C.nd
        have nd' := List.nodup_append.mp nd
        have m : ∀ a, Fz a → Fz a ∨ a ∈ f := fun _ h => .inl h
        have rF : Rep X.K _ H (frz d) v [] := r.frz (Fz' := fun a => Fz a ∨ a ∈ f) m fun a h => .inr h
        obtain ⟨fp', R, p'⟩ := put (Fz' := fun a => Fz a ∨ a ∈ f) (H' := H) (fun {e w kk} _ ro => ro.keep m (fun _ _ _ h => h) fun _ _ _ h => h) (.som rF)
        have hset : σ.set i (some v) = σ := by
          apply List.ext_getElem?
          intro j
          rw [List.getElem?_set]
          split
          · rename_i h; subst h
            split
            · exact ey.symm
            · rename_i h2; rw [List.getElem?_eq_none (by omega)] at ey; cases ey
          · rfl
        rw [hset] at R
        have C' : Cfg X.K (fun a => Fz a ∨ a ∈ f) H (st.set i (some (frz d))) σ fp' := by
          refine ⟨R, p'.nodup_iff.mpr nd'.2.1, fun a h z => ?_, fun a z => ?_⟩
          · have ha : a ∈ g := p'.mem_iff.mp h
            rcases z with z | z
            · exact C.fz a (p.mem_iff.mpr (List.mem_append_right _ ha)) z
            · exact nd'.2.2 a z a ha rfl
          · rcases z with z | z
            · exact C.ft a z
            · exact C.there a (p.mem_iff.mpr (List.mem_append_left _ z))
        refine k v H _ fp' (C'.atom rF) ⟨fun _ _ h _ => h, fun _ h => h, m, fun a z => ?_, fun a h => .inl (p.mem_iff.mpr (List.mem_append_right _ (p'.mem_iff.mp h)))⟩
        rcases z with z | z
        · exact .inl z
        · exact .inr (.inl (p.mem_iff.mpr (List.mem_append_left _ z)))
  · cases e
end

/-! ### operands: a name is looked at, not frozen -/
inductive Opd where
  | v (i : Nat) | e (m : M D)
def Opd.run : Opd → M D
  | .v i => fun st => match st[i]? with
    | some (some _) => some (.non, st)
    | _ => none
  | .e m => m
def Opd.val : Opd → D → S → Option D
  | .v i, _, st => match st[i]? with
    | some (some d) => some d
    | _ => none
  | .e _, d, _ => some d
def rdO (K : PySem.W.Frag) : Opd → TE
  | .v i => tVar i
  | .e m => rd K m
def SO (Γ : Gam) (Φ : GCx → Prop) (e : Expr) (o : Opd) : Prop := ∀ X, On Γ Φ X → PE X e (rdO X.K o)
def m1 (o1 : Opd) (f : D → Option D) : M D := fun st => match o1.run st with
  | some (r1, s1) => match o1.val r1 s1 with
    | some a => match f a with
      | some z => some (z, s1)
      | none => none
    | none => none
  | none => none
def m2 (o1 o2 : Opd) (f : D → D → Option D) : M D := fun st => match o1.run st with
  | some (r1, s1) => match o2.run s1 with
    | some (r2, s2) => match o1.val r1 s2 with
      | some a => match o2.val r2 s2 with
        | some b => match f a b with
          | some z => some (z, s2)
          | none => none
        | none => none
      | none => none
    | none => none
  | none => none
section
variable {Γ : Gam} {Φ : GCx → Prop}
theorem so_v (i : Nat) {x : Str} {pos : Pos} (hN : Γ.N[i]? = some x := by rfl) (hv : gVis Γ.sc x = true := by rfl) (hd : (x == ("__debug__" : Str)) = false := by decide) (hcd : (x == ("__classdict__" : Str)) = false := by decide) :
    SO Γ Φ (.Name x pos) (.v i) := fun X o => pe_var (o.slot hN) (o.vis hv) hd hcd
theorem so_e {e : Expr} {m : M D} (h : SE Γ Φ e m) : SO Γ Φ e (.e m) := h
end
section
variable {K : PySem.W.Frag} {Fz : Addr → Prop} {H : Hp} {st st' P : S} {σ PV : List (Option V)} {fp : List Addr}
/-- an operand is met: what is known when the value is used, at any later state -/
theorem rdO.run {o : Opd} {r : D} {Q : VK} (C : Cfg K Fz H (P ++ st) (PV ++ σ) fp) (hl : P.length = PV.length) (hm : o.run st = some (r, st'))
    (k : ∀ v H' Fz' fp' (T : S) (TV : List (Option V)), T.length = TV.length → Cfg K Fz' H' (T ++ (P ++ st')) (TV ++ (PV ++ σ)) fp' → Go Fz H fp Fz' H' fp' →
      (∀ Fz2 H2 f2 P2 P2V s2 d, P2.length = P2V.length → Cfg K Fz2 H2 (P2 ++ (T ++ (P ++ s2))) (P2V ++ (TV ++ (PV ++ σ))) f2 → o.val r s2 = some d → ∃ f, Rep K Fz2 H2 d v f ∧ ∀ a ∈ f, a ∈ f2) → Q v H') : rdO K o σ H Q := by
  cases o with
  | v i =>
    simp only [Opd.run] at hm
    split at hm
    · rename_i d' hd
      cases hm
      obtain ⟨v, hs⟩ : ∃ v : V, σ[i]? = some (some v) := by
        obtain ⟨f, g, e, R1, R2⟩ := C.rep.split hl
        obtain ⟨y, f3, g3, ey, ro, p, _⟩ := R2.at hd
        cases ro with
        | som r => exact ⟨_, ey⟩
      refine ⟨v, hs, k v H Fz fp [] [] rfl C .refl fun Fz2 H2 f2 P2 P2V s3 d3 h2 C2 e3 => ?_⟩
      unfold Opd.val at e3
      simp only at e3
      split at e3
      · rename_i d4 hd4
        cases e3
        obtain ⟨f, g, e, R1, R2⟩ := C2.rep.split h2
        obtain ⟨f', g', e', R3, R4⟩ := RepS.split (P := P) (PV := PV) hl R2
        obtain ⟨y, f3, g3, ey, ro, p, _⟩ := R4.at hd4
        cases ro with
        | som r =>
          rw [hs] at ey
          cases ey
          exact ⟨_, r, fun a h => by rw [e, e']; exact List.mem_append_right _ (List.mem_append_right _ (p.mem_iff.mpr (List.mem_append_left _ h)))⟩
      · cases e3
    · cases hm
  | e m =>
    refine rd.run C hl hm fun v H' Fz' fp' C' g => k v H' Fz' fp' [some r] [some v] rfl C' g fun Fz2 H2 f2 P2 P2V s2 d h2 C2 e => ?_
    cases e
    obtain ⟨f, g, e, R1, R2⟩ := C2.rep.split h2
    cases R2 with
    | @cons _ _ f3 g3 _ _ ro rs =>
      cases ro with
      | som r => exact ⟨_, r, fun a h => by rw [e]; exact List.mem_append_right _ (List.mem_append_left _ h)⟩
end

/-- an operation on a value, as the rules r tell it -/
def R1Snd (K : PySem.W.Frag) (r : V → Hp → VK → Prop) (f : D → Option D) : Prop := ∀ {Fz H fp} {σ : List (Option V)} {s : S} {T TV Fz2 H2 fp2 a x fa z} {Q : VK}, f a = some z → T.length = TV.length → Cfg K Fz2 H2 (T ++ s) (TV ++ σ) fp2 →
  Go Fz H fp Fz2 H2 fp2 → Rep K Fz2 H2 a x fa → Fin1 K Fz H fp σ z s Q → r x H2 Q
def R2Snd (K : PySem.W.Frag) (r : R2) (f : D → D → Option D) : Prop := ∀ {Fz H fp} {σ : List (Option V)} {s : S} {T TV Fz2 H2 fp2 a b x y fa fb z} {Q : VK}, f a b = some z → T.length = TV.length → Cfg K Fz2 H2 (T ++ s) (TV ++ σ) fp2 →
  Go Fz H fp Fz2 H2 fp2 → Rep K Fz2 H2 a x fa → Rep K Fz2 H2 b y fb → Fin1 K Fz H fp σ z s Q → r x y H2 Q
theorem R2Snd.or {K r r' f f'} (h : R2Snd K r f) (h' : R2Snd K r' f') : R2Snd K (fun x y H Q => r x y H Q ∨ r' x y H Q) (fun a b => match f a b with | some z => some z | none => f' a b) := by
  intro Fz H fp σ s T TV Fz2 H2 fp2 a b x y fa fb z Q e hl C g ra rb k
  simp only at e
  split at e
  · rename_i hz; cases e; exact .inl (h hz hl C g ra rb k)
  · exact .inr (h' e hl C g ra rb k)
section
variable {K : PySem.W.Frag}
theorem two {o1 o2 : Opd} {f : D → D → Option D} {r : R2} (hs : R2Snd K r f) {σ H Q} (q : rd K (m2 o1 o2 f) σ H Q) : tOp r (rdO K o1) (rdO K o2) σ H Q := by
  obtain ⟨Fz, fp, st, C, d', st', e, k⟩ := q
  unfold m2 at e
  split at e
  · rename_i r1 s1 h1
    split at e
    · rename_i r2 s2 h2
      split at e
      · rename_i a ha
        split at e
        · rename_i b hb
          split at e
          · rename_i z hz
            cases e
            refine rdO.run (P := []) (PV := []) C rfl h1 fun v H1 Fz1 fp1 T TV hT C1 g1 k1 => ?_
            refine rdO.run (P := T) (PV := TV) C1 hT h2 fun u H2 Fz2 fp2 T2 TV2 hT2 C2 g2 k2 => ?_
            obtain ⟨fa, ra, _⟩ := k1 _ _ _ T2 TV2 _ _ hT2 C2 ha
            obtain ⟨fb, rb, _⟩ := k2 _ _ _ [] [] _ _ rfl C2 hb
            refine hs (T := T2 ++ T) (TV := TV2 ++ TV) hz (by simp [hT, hT2]) ?_ (g1.trans g2) ra rb k
            rw [List.append_assoc, List.append_assoc]
            exact C2
          · cases e
        · cases e
      · cases e
    · cases e
  · cases e
end
end Va
/-! Va5: the operators one by one -/
namespace Va
open PySem PySem.Spec PyProof.Rows L2

def LN : Nat := 16777216
theorem LN_eq : LN = sizeLine := by rw [sizeLine_eq]; rfl

section
variable {K : PySem.W.Frag} {Fz : Addr → Prop} {H : Hp} {s : S} {σ : List (Option V)} {fp : List Addr}
theorem fin_tup {Fz2 H2 fp2 T TV zs vs Q} (k : Fin1 K Fz H fp σ (.tup zs) s Q) (hl : T.length = TV.length) (C : Cfg K Fz2 H2 (T ++ s) (TV ++ σ) fp2) (g : Go Fz H fp Fz2 H2 fp2) (r : RepL K Fz2 H2 zs vs []) :
    ∀ p, H2 p = none → Q (.ref p) (upd H2 p (.tup vs)) := fun p hp => by
  refine fin_new (f3 := []) (Fz3 := fun a => Fz2 a ∨ a = p) k hl C g hp (.inr ⟨rfl, rfl⟩) (.tup upd_same (.inr rfl) ?_)
  exact r.keep (fun _ h => .inl h) (fun a o _ e => by rw [upd_ne (ne_of_none e hp)]; exact e) fun _ _ h => nomatch h
theorem fin_lst {Fz2 H2 fp2 T TV zs vs Q} (k : Fin1 K Fz H fp σ (.lst true zs) s Q) (hl : T.length = TV.length) (C : Cfg K Fz2 H2 (T ++ s) (TV ++ σ) fp2) (g : Go Fz H fp Fz2 H2 fp2) (r : RepL K Fz2 H2 zs vs []) :
    ∀ p, H2 p = none → Q (.ref p) (upd H2 p (.lst vs)) := fun p hp => by
  refine fin_new (f3 := [p]) (Fz3 := Fz2) k hl C g hp (.inl ⟨rfl, rfl⟩) (.lstO upd_same ?_)
  exact r.keep (fun _ h => h) (fun a o _ e => by rw [upd_ne (ne_of_none e hp)]; exact e) fun _ _ h => nomatch h
/-- what a tuple or list is, if its items are not owned -/
theorem Rep.seq {d v f b xs} (r : Rep K Fz H d v f) (h : seqOf d = some (b, xs)) (hi : xs.all Va.imm = true) : ∃ a vs, v = .ref a ∧ RepL K Fz H xs vs [] ∧ (if b then SqT K H a vs else SqL K H a vs) := by
  cases r <;> simp [seqOf] at h
  · obtain ⟨rfl, rfl⟩ := h
    rename_i q z r
    exact ⟨_, _, rfl, r, .inl (.inl q)⟩
  · obtain ⟨rfl, rfl⟩ := h
    rename_i q r
    exact ⟨_, _, rfl, r, q.sq⟩
  · obtain ⟨rfl, rfl⟩ := h
    rename_i q z r
    exact ⟨_, _, rfl, r, .inl (.inl q)⟩
  · obtain ⟨rfl, rfl⟩ := h
    rename_i q r
    have := r.imm hi
    subst this
    exact ⟨_, _, rfl, r, .inl (.inl q)⟩
theorem Rep.lst {o xs v f} (r : Rep K Fz H (.lst o xs) v f) : ∃ a vs f', v = .ref a ∧ H a = some (.lst vs) ∧ RepL K Fz H xs vs f' ∧ ∀ x ∈ f', x ∈ f := by
  cases r with
  | lstF q z r => exact ⟨_, _, _, rfl, q, r, fun _ h => nomatch h⟩
  | lstO q r => exact ⟨_, _, _, rfl, q, r, fun _ h => List.mem_cons_of_mem _ h⟩
theorem Rep.tupl {xs v f} (r : Rep K Fz H (.tup xs) v f) : ∃ a vs, v = .ref a ∧ H a = some (.tup vs) ∧ RepL K Fz H xs vs [] := by
  cases r with
  | tup q z r => exact ⟨_, _, rfl, q, r⟩
theorem Rep.inti {i v f} (r : Rep K Fz H (.int i) v f) : v = .int i := by cases r; rfl
theorem Rep.bli {i v f} (r : Rep K Fz H (.bl i) v f) : v = .bl i := by cases r; rfl
theorem Rep.fz0 {xs v f} (r : Rep K Fz H (.tup xs) v f) : Rep K Fz H (.tup xs) v [] := by cases r with | tup q z r => exact .tup q z r
theorem Rep.noni {v f} (r : Rep K Fz H .non v f) : v = .non := by cases r; rfl
theorem Rep.stri {x v f} (r : Rep K Fz H (.str x) v f) : v = .str x := by cases r; rfl
/-- items that are flat -/
def flat : D → Bool
  | .non => true | .bl _ => true | .int _ => true | .str _ => true | _ => false
def d2v : D → V
  | .bl b => .bl b | .int i => .int i | .str x => .str x | _ => .non
theorem Rep.flat {d v f} (r : Rep K Fz H d v f) (h : Va.flat d = true) : v = d2v d ∧ f = [] ∧ flatV v = true := by
  cases r <;> simp_all [Va.flat, d2v, flatV]
theorem flat_imm {d : D} (h : Va.flat d = true) : imm d = true := by cases d <;> simp_all [Va.flat, imm]
theorem RepL.flat : ∀ {xs vs f}, RepL K Fz H xs vs f → xs.all Va.flat = true → vs = xs.map d2v ∧ vs.all flatV = true
  | _, _, _, .nil, _ => ⟨rfl, rfl⟩
  | _, _, _, .cons r s, h => by
    simp only [List.all_cons, Bool.and_eq_true] at h
    obtain ⟨a, _, b⟩ := r.flat h.1
    obtain ⟨c, d⟩ := RepL.flat s h.2
    exact ⟨by rw [a, c]; rfl, by simp [b, d]⟩
theorem flat_rep {d : D} (h : Va.flat d = true) : Rep K Fz H d (d2v d) [] := by
  cases d <;> simp_all [Va.flat, d2v]
  · exact .non
  · exact .bl _
  · exact .int _
  · exact .str _
end

/-! ### arithmetic -/
/-- within 62 bits (by cases: the kernel stops at a number that is not told) -/
def smallI : Int → Bool
  | .ofNat n => Nat.ble n 4611686018427387903
  | .negSucc n => Nat.ble n 4611686018427387903
theorem smallI_ok {i : Int} (h : smallI i = true) : -(2 ^ 62) ≤ i ∧ i < 2 ^ 62 := by
  cases i with
  | ofNat n => have := Nat.le_of_ble_eq_true h; simp only [Int.ofNat_eq_natCast]; omega
  | negSucc n => have := Nat.le_of_ble_eq_true h; omega
theorem smallI_of {i : Int} (h : -(2 ^ 62) ≤ i) (h2 : i < 2 ^ 62) : smallI i = true := by
  cases i with
  | ofNat n => exact Nat.ble_eq_true_of_le (by simp only [Int.ofNat_eq_natCast] at h2; omega)
  | negSucc n => exact Nat.ble_eq_true_of_le (by omega)
def intF (g : Int → Int → Option D) : D → D → Option D
  | .int i, .int j => g i j
  | _, _ => none
section
variable {K : PySem.W.Frag}
theorem snd_int {C : Int → Int → Prop} {g : Int → Int → V} {G : Int → Int → Option D} (h : ∀ i j z, G i j = some z → C i j ∧ ∀ Fz H, Rep K Fz H z (g i j) []) : R2Snd K (rI C g) (intF G) := by
  intro Fz H fp σ s T TV Fz2 H2 fp2 a b x y fa fb z Q e hl C g ra rb k
  unfold intF at e
  split at e
  · obtain ⟨c, r⟩ := h _ _ _ e
    exact ⟨_, _, ra.inti, rb.inti, c, fin_atom k hl C g (r _ _)⟩
  · cases e
theorem snd_int0 {g : Int → Int → V} {G : Int → Int → Option D} (h : ∀ i j z, G i j = some z → ∀ Fz H, Rep K Fz H z (g i j) []) : R2Snd K (rI0 g) (intF G) := by
  intro Fz H fp σ s T TV Fz2 H2 fp2 a b x y fa fb z Q e hl C g ra rb k
  unfold intF at e
  split at e
  · exact ⟨_, _, ra.inti, rb.inti, fin_atom k hl C g (h _ _ _ e _ _)⟩
  · cases e
end
def subF := intF fun i j => some (.int (i - j))
def fdivF := intF fun i j => if 0 < j ∧ j.natAbs.log2 < 9000 then some (.int (i / j)) else none
def modF := intF fun i j => if 0 < j then some (.int (i % j)) else none
def powF := intF fun i j => if 0 ≤ j ∧ j ≤ 1000000 ∧ i.natAbs < 2 ^ 64 then some (.int (i ^ j.toNat)) else none
def shlF := intF fun i j => if 0 ≤ j ∧ j ≤ 1000000 ∧ i.natAbs < 2 ^ 64 then some (.int (i * 2 ^ j.toNat)) else none
def shrF := intF fun i j => if 0 ≤ j then some (.int (i / 2 ^ j.toNat)) else none
def andF := intF fun i j => some (.int (Builtin.bitAnd i j))
def addF : D → D → Option D
  | .int i, .int j => some (.int (i + j))
  | .tup xs, .tup ys => if xs.length + ys.length ≤ LN then some (.tup (xs ++ ys)) else none
  | .lst _ xs, .lst _ ys => if (xs.all imm && ys.all imm) = true ∧ xs.length + ys.length ≤ LN then some (.lst true (xs ++ ys)) else none
  | .str x, .str y => if x.length + y.length ≤ LN then some (.str (x ++ y)) else none
  | _, _ => none
def mulF : D → D → Option D
  | .int i, .int j => if i.natAbs.log2 + j.natAbs.log2 < 1000000 then some (.int (i * j)) else none
  | .lst _ xs, .int k => if xs.all imm = true ∧ smallI k = true ∧ xs.length * k.toNat ≤ LN then some (.lst true (List.replicate k.toNat xs).flatten) else none
  | .tup xs, .int k => if xs ≠ [] ∧ 2 ≤ k ∧ k ≤ 1000 ∧ xs.length ≤ 1000 then some (.tup (List.replicate k.toNat xs).flatten) else none
  | _, _ => none
theorem RepL.rep {K : PySem.W.Frag} {Fz : Addr → Prop} {H : Hp} {xs vs} (r : RepL K Fz H xs vs []) : ∀ n : Nat, RepL K Fz H (List.replicate n xs).flatten (List.replicate n vs).flatten []
  | 0 => .nil
  | n + 1 => by
    rw [List.replicate_succ, List.replicate_succ, List.flatten_cons, List.flatten_cons]
    exact r.app (r.rep n)
section
variable {X : Cx}
theorem bin_sub : ∃ r, OpR X (binaryOp .Sub) r ∧ R2Snd X.K r subF := ⟨_, op_sub, snd_int0 fun i j z e Fz H => by cases e; exact .int _⟩
theorem bin_fdiv : ∃ r, OpR X (binaryOp .FloorDiv) r ∧ R2Snd X.K r fdivF := ⟨_, op_fdivW, snd_int fun i j z e => by
  split at e
  · rename_i h; cases e; exact ⟨h, fun _ _ => .int _⟩
  · cases e⟩
theorem bin_mod : ∃ r, OpR X (binaryOp .Mod) r ∧ R2Snd X.K r modF := ⟨_, op_mod, snd_int fun i j z e => by
  split at e
  · rename_i h; cases e; exact ⟨h, fun _ _ => .int _⟩
  · cases e⟩
theorem bin_pow : ∃ r, OpR X (binaryOp .Pow) r ∧ R2Snd X.K r powF := ⟨_, op_pow, snd_int fun i j z e => by
  split at e
  · rename_i h; cases e; exact ⟨h, fun _ _ => .int _⟩
  · cases e⟩
theorem bin_shl : ∃ r, OpR X (binaryOp .LShift) r ∧ R2Snd X.K r shlF := ⟨_, op_shl, snd_int fun i j z e => by
  split at e
  · rename_i h; cases e; exact ⟨h, fun _ _ => .int _⟩
  · cases e⟩
theorem bin_shr : ∃ r, OpR X (binaryOp .RShift) r ∧ R2Snd X.K r shrF := ⟨_, op_shr, snd_int fun i j z e => by
  split at e
  · rename_i h; cases e; exact ⟨h, fun _ _ => .int _⟩
  · cases e⟩
theorem bin_and : ∃ r, OpR X (binaryOp .BitAnd) r ∧ R2Snd X.K r andF := ⟨_, op_and, snd_int0 fun i j z e Fz H => by cases e; exact .int _⟩
theorem bin_add : ∃ r, OpR X (binaryOp .Add) r ∧ R2Snd X.K r addF := by
  refine ⟨_, (op_add.or (op_catA.or (op_cat.or op_add_str))), ?_⟩
  intro Fz H fp σ s T TV Fz2 H2 fp2 a b x y fa fb z Q e hl C g ra rb k
  unfold addF at e
  split at e
  · cases e
    exact .inl ⟨_, _, ra.inti, rb.inti, fin_atom k hl C g (.int _)⟩
  · split at e
    · rename_i xs ys hz
      cases e
      obtain ⟨a, vs, rfl, ha, r1⟩ := ra.tupl
      obtain ⟨b, ws, rfl, hb, r2⟩ := rb.tupl
      have l1 := r1.length
      have l2 := r2.length
      refine .inr (.inl ⟨a, b, vs, ws, rfl, rfl, .inl (.inl ha), .inl (.inl hb), by rw [← l1, ← l2, ← LN_eq]; exact hz, fun e => ?_, fun e e2 => ?_, fun _ _ => fin_tup k hl C g (r1.app r2)⟩)
      · subst e
        have : xs = [] := List.eq_nil_of_length_eq_zero (by simpa using l1)
        subst this
        exact fin_atom k hl C g rb.fz0
      · subst e2
        have : ys = [] := List.eq_nil_of_length_eq_zero (by simpa using l2)
        subst this
        rw [List.append_nil] at k
        exact fin_atom k hl C g ra.fz0
    · cases e
  · split at e
    · rename_i xs _ ys hz
      cases e
      simp only [Bool.and_eq_true] at hz
      obtain ⟨a, vs, f1, rfl, ha, r1, _⟩ := ra.lst
      obtain ⟨b, ws, f2, rfl, hb, r2, _⟩ := rb.lst
      have e1 := r1.imm hz.1.1
      have e2 := r2.imm hz.1.2
      subst e1 e2
      exact .inr (.inr (.inl ⟨a, b, vs, ws, rfl, rfl, ha, hb, by rw [← r1.length, ← r2.length, ← LN_eq]; exact hz.2, fin_lst k hl C g (r1.app r2)⟩))
    · cases e
  · split at e
    · rename_i x y hz
      cases e
      exact .inr (.inr (.inr ⟨x, y, ra.stri, rb.stri, by rw [← LN_eq]; exact hz, fin_atom k hl C g (.str _)⟩))
    · cases e
  · cases e
theorem bin_mul : ∃ r, OpR X (binaryOp .Mult) r ∧ R2Snd X.K r mulF := by
  refine ⟨_, (op_mulW.or (op_rep.or op_repT)), ?_⟩
  intro Fz H fp σ s T TV Fz2 H2 fp2 a b x y fa fb z Q e hl C g ra rb k
  unfold mulF at e
  split at e
  · split at e
    · rename_i hz
      cases e
      exact .inl ⟨_, _, ra.inti, rb.inti, hz, fin_atom k hl C g (.int _)⟩
    · cases e
  · split at e
    · rename_i xs kk hz
      cases e
      obtain ⟨a, vs, f1, rfl, ha, r1, _⟩ := ra.lst
      have e1 := r1.imm hz.1
      subst e1
      have sm := smallI_ok hz.2.1
      exact .inr (.inl ⟨a, kk, vs, rfl, rb.inti, ha, by omega, by omega, by rw [← r1.length, ← LN_eq]; exact hz.2.2, fin_lst k hl C g (r1.rep _)⟩)
    · cases e
  · split at e
    · rename_i xs kk hz
      cases e
      obtain ⟨a, vs, rfl, ha, r1⟩ := ra.tupl
      refine .inr (.inr ⟨a, kk, vs, rfl, rb.inti, .inl (.inl ha), fun e => ?_, hz.2.1, hz.2.2.1, by rw [← r1.length]; exact hz.2.2.2, fin_tup k hl C g (r1.rep _)⟩)
      subst e
      exact hz.1 (List.eq_nil_of_length_eq_zero (by simpa using r1.length))
    · cases e
  · cases e
end

section
variable {Γ : Gam} {Φ : GCx → Prop}
theorem se_bin {op : Operator} {a b : Expr} {o1 o2 : Opd} {f : D → D → Option D} {pos : Pos} (hr : ∀ X : Cx, X.A.units + 100 < cLine → X.calm = true → ∃ r, OpR X (binaryOp op) r ∧ R2Snd X.K r f) (ha : SO Γ Φ a o1) (hb : SO Γ Φ b o2) : SE Γ Φ (.BinOp a op b pos) (m2 o1 o2 f) := fun X o => by
  obtain ⟨r, h1, h2⟩ := hr X o.hu o.calm
  exact pe_imp (pe_op h1 (ha X o) (hb X o)) fun σ H Q q => two h2 q
theorem se_add {a b o1 o2 pos} (ha : SO Γ Φ a o1) (hb : SO Γ Φ b o2) : SE Γ Φ (.BinOp a .Add b pos) (m2 o1 o2 addF) := se_bin (fun _ _ _ => bin_add) ha hb
theorem se_sub {a b o1 o2 pos} (ha : SO Γ Φ a o1) (hb : SO Γ Φ b o2) : SE Γ Φ (.BinOp a .Sub b pos) (m2 o1 o2 subF) := se_bin (fun _ _ _ => bin_sub) ha hb
theorem se_mul {a b o1 o2 pos} (ha : SO Γ Φ a o1) (hb : SO Γ Φ b o2) : SE Γ Φ (.BinOp a .Mult b pos) (m2 o1 o2 mulF) := se_bin (fun _ _ _ => bin_mul) ha hb
theorem se_fdiv {a b o1 o2 pos} (ha : SO Γ Φ a o1) (hb : SO Γ Φ b o2) : SE Γ Φ (.BinOp a .FloorDiv b pos) (m2 o1 o2 fdivF) := se_bin (fun _ _ _ => bin_fdiv) ha hb
theorem se_mod {a b o1 o2 pos} (ha : SO Γ Φ a o1) (hb : SO Γ Φ b o2) : SE Γ Φ (.BinOp a .Mod b pos) (m2 o1 o2 modF) := se_bin (fun _ _ _ => bin_mod) ha hb
theorem se_pow {a b o1 o2 pos} (ha : SO Γ Φ a o1) (hb : SO Γ Φ b o2) : SE Γ Φ (.BinOp a .Pow b pos) (m2 o1 o2 powF) := se_bin (fun _ _ _ => bin_pow) ha hb
theorem se_shl {a b o1 o2 pos} (ha : SO Γ Φ a o1) (hb : SO Γ Φ b o2) : SE Γ Φ (.BinOp a .LShift b pos) (m2 o1 o2 shlF) := se_bin (fun _ _ _ => bin_shl) ha hb
theorem se_shr {a b o1 o2 pos} (ha : SO Γ Φ a o1) (hb : SO Γ Φ b o2) : SE Γ Φ (.BinOp a .RShift b pos) (m2 o1 o2 shrF) := se_bin (fun _ _ _ => bin_shr) ha hb
theorem se_and {a b o1 o2 pos} (ha : SO Γ Φ a o1) (hb : SO Γ Φ b o2) : SE Γ Φ (.BinOp a .BitAnd b pos) (m2 o1 o2 andF) := se_bin (fun _ _ _ => bin_and) ha hb
def negF : D → Option D
  | .int i => some (.int (-i))
  | _ => none
theorem one {K : PySem.W.Frag} {o1 : Opd} {f : D → Option D} {r : V → Hp → VK → Prop} (hs : R1Snd K r f) {σ H Q} (q : rd K (m1 o1 f) σ H Q) : tUn r (rdO K o1) σ H Q := by
  obtain ⟨Fz, fp, st, C, d', st', e, k⟩ := q
  unfold m1 at e
  split at e
  · rename_i r1 s1 h1
    split at e
    · rename_i a ha
      split at e
      · rename_i z hz
        cases e
        refine rdO.run (P := []) (PV := []) C rfl h1 fun v H1 Fz1 fp1 T TV hT C1 g1 k1 => ?_
        obtain ⟨fa, ra, _⟩ := k1 _ _ _ [] [] _ _ rfl C1 ha
        exact hs (T := T) (TV := TV) hz hT C1 g1 ra k
      · cases e
    · cases e
  · cases e
theorem se_neg {a o1 pos} (ha : SO Γ Φ a o1) : SE Γ Φ (.UnaryOp .USub a pos) (m1 o1 negF) := fun X o => pe_imp (pe_un un_neg (ha X o)) fun σ H Q q => one (r := rU fun i => .int (-i)) (fun {Fz H fp σ s T TV Fz2 H2 fp2 a x fa z Q} e hl C g ra k => by
  unfold negF at e
  split at e
  · cases e; exact ⟨_, ra.inti, fin_atom k hl C g (.int _)⟩
  · cases e) q
end
end Va
/-! Va6: comparisons, tests, and, or, not, if -/
namespace Va
open PySem PySem.Spec PyProof.Rows L2

def keyEq : D → D → Bool
  | .int i, .int j => i == j
  | .str x, .str y => x == y
  | _, _ => false
def lookD : List (D × D) → D → Option D
  | [], _ => none
  | (a, x) :: r, k => match keyEq a k with
    | true => some x
    | false => lookD r k
theorem keyEq_iff {a b : D} {k l : Key} (ha : keyD a = some k) (hb : keyD b = some l) : keyEq a b = decide (k = l) := by
  cases a <;> cases b <;> simp_all [keyD, keyEq] <;> subst ha <;> subst hb <;> simp
  · rename_i i j
    by_cases e : i = j <;> simp [e]
  · rename_i i j
    by_cases e : i = j <;> simp [e]
section
variable {K : PySem.W.Frag} {Fz : Addr → Prop} {H : Hp}
theorem RepK.look : ∀ {kvs ws f}, RepK K Fz H kvs ws f → ∀ {k kk}, keyD k = some kk → (lookD kvs k = none → valV ws kk = none) ∧ ∀ x, lookD kvs k = some x → ∃ v f', valV ws kk = some v ∧ Rep K Fz H x v f' ∧ ∀ a ∈ f', a ∈ f
  | _, _, _, .nil, _, _, _ => ⟨fun _ => rfl, fun x h => nomatch h⟩
  | _, _, _, .cons (k := a) (kk := ka) e r s, k, kk, hk => by
    have h := keyEq_iff e hk
    unfold lookD
    by_cases q : ka = kk
    · rw [h, decide_eq_true q]
      refine ⟨fun z => ?_, fun x z => ?_⟩
      · exact nomatch (show some _ = none from z)
      · have z' : some _ = some x := z
        cases z'
        exact ⟨_, _, valV_pos q, r, fun _ m => List.mem_append_left _ m⟩
    · rw [h, decide_eq_false q]
      rw [valV_neg q]
      obtain ⟨h1, h2⟩ := RepK.look s hk
      exact ⟨h1, fun x z => by obtain ⟨v, f', e1, e2, e3⟩ := h2 x z; exact ⟨v, f', e1, e2, fun a m => List.mem_append_right _ (e3 a m)⟩⟩
theorem RepK.length : ∀ {kvs ws f}, RepK K Fz H kvs ws f → kvs.length = ws.length
  | _, _, _, .nil => rfl
  | _, _, _, .cons e r s => by simp [RepK.length s]
theorem keyD_v {d : D} {k : Key} {v f} (h : keyD d = some k) (r : Rep K Fz H d v f) : v = kV k := by
  cases d <;> simp_all [keyD]
  · subst h; exact r.inti
  · subst h; exact r.stri
theorem Rep.dic {o kvs v f} (r : Rep K Fz H (.dic o kvs) v f) : ∃ a ws f', v = .ref a ∧ H a = some (.dK ws) ∧ RepK K Fz H kvs ws f' ∧ ∀ x ∈ f', x ∈ f := by
  cases r with
  | dicF q z r => exact ⟨_, _, _, rfl, q, r, fun _ h => nomatch h⟩
  | dicO q r => exact ⟨_, _, _, rfl, q, r, fun _ h => List.mem_cons_of_mem _ h⟩
theorem dget_of {o kvs v f k kk} (r : Rep K Fz H (.dic o kvs) v f) (hk : keyD k = some kk) : ∃ a ov, v = .ref a ∧ DGet H a (kV kk) ov ∧ ((lookD kvs k = none ∧ ov = none) ∨ ∃ x y f', lookD kvs k = some x ∧ ov = some y ∧ Rep K Fz H x y f' ∧ ∀ a ∈ f', a ∈ f) := by
  obtain ⟨a, ws, f', rfl, ha, r', hf⟩ := r.dic
  obtain ⟨h1, h2⟩ := r'.look hk
  refine ⟨a, valV ws kk, rfl, DGet.k ha, ?_⟩
  cases e : lookD kvs k with
  | none => exact .inl ⟨rfl, h1 e⟩
  | some x =>
    obtain ⟨v, f2, e1, e2, e3⟩ := h2 x e
    exact .inr ⟨x, v, f2, rfl, e1, e2, fun a m => hf a (e3 a m)⟩
end

/-! ### comparisons -/
def blO : Option Bool → Option D
  | some b => some (.bl b)
  | none => none
def eqcF (a b : D) : Option D := blO (eqD a b)
def necF (a b : D) : Option D := match eqD a b with
  | some c => some (.bl (!c))
  | none => none
def toInts : List D → Option (List Int)
  | [] => some []
  | .int i :: r => match toInts r with
    | some l => some (i :: l)
    | none => none
  | _ => none
def ltF : D → D → Option D
  | .int i, .int j => some (.bl (decide (i < j)))
  | .tup xs, .tup ys => match toInts xs, toInts ys with
    | some ns, some ms => some (.bl (HT.lexLt ns ms))
    | _, _ => none
  | _, _ => none
def leF := intF fun i j => some (.bl (decide (i ≤ j)))
def gtF := intF fun i j => some (.bl (decide (j < i)))
def geF := intF fun i j => some (.bl (decide (j ≤ i)))
def inB (a b : D) : Option Bool := match b with
  | .dic _ kvs => match keyD a with
    | some _ => some (lookD kvs a).isSome
    | none => none
  | .tup xs => if (flat a && xs.all flat) = true then some (xs.any fun y => eqF 1 y a) else none
  | .rol xs => if (flat a && xs.all flat) = true then some (xs.any fun y => eqF 1 y a) else none
  | .lst _ xs => if (flat a && xs.all flat) = true then some (xs.any fun y => eqF 1 y a)
      else if shp 59 a && shp 60 b then some (xs.any fun y => eqF 59 y a) else none
  | _ => none
def inF (a b : D) : Option D := blO (inB a b)
def ninF (a b : D) : Option D := match inB a b with
  | some c => some (.bl (!c))
  | none => none
def isB : D → D → Option Bool
  | .bl a, .bl b => some (decide (a = b))
  | .non, .non => some true
  | _, .non => some false
  | _, _ => none
def isF (a b : D) : Option D := blO (isB a b)
def nisF (a b : D) : Option D := match isB a b with
  | some c => some (.bl (!c))
  | none => none

theorem toInts_map {K : PySem.W.Frag} {Fz : Addr → Prop} {H : Hp} : ∀ {xs ns vs f}, toInts xs = some ns → RepL K Fz H xs vs f → vs = ns.map V.int
  | [], _, _, _, h, .nil => by cases h; rfl
  | x :: r, _, _, _, h, .cons rx s => by
    cases x with
    | int i =>
      simp only [toInts] at h
      split at h
      · rename_i l hl
        cases h
        rw [toInts_map hl s, rx.inti]; rfl
      · cases h
    | _ => simp [toInts] at h
theorem eqF_eqV {a b : D} (ha : flat a = true) (hb : flat b = true) : eqF 1 a b = eqV (d2v a) (d2v b) := by
  cases a <;> cases b <;> simp_all [flat, eqF, eqV, d2v, seqOf, b2i]
theorem any_map_in {a : D} (ha : flat a = true) : ∀ {xs : List D}, xs.all flat = true → (xs.any fun y => eqF 1 y a) = inV (d2v a) (xs.map d2v)
  | [], _ => rfl
  | x :: xs, h => by
    simp only [List.all_cons, Bool.and_eq_true] at h
    have := any_map_in ha h.2
    simp only [inV] at this ⊢
    simp [this, eqF_eqV h.1 ha]

section
variable {X : Cx}
theorem snd_flip {K : PySem.W.Frag} : True := trivial
theorem cmp_eq (hu : X.A.units + 100 < cLine) : ∃ r, OpR X (compareOp .Eq) r ∧ R2Snd X.K r eqcF := ⟨_, op_eqD (by omega), by
  intro Fz H fp σ s T TV Fz2 H2 fp2 a b x y fa fb z Q e hl C g ra rb k
  unfold eqcF eqD at e
  split at e
  · rename_i h
    simp only [Bool.and_eq_true] at h
    cases e
    rw [eqF_eqv 60 a b h.1 h.2] at k
    exact ⟨_, _, Rep.dp 60 ra h.1, Rep.dp 60 rb h.2, toP_shaped h.1, toP_shaped h.2, fin_atom k hl C g (.bl _)⟩
  · cases e⟩
theorem cmp_ne (hu : X.A.units + 100 < cLine) : ∃ r, OpR X (compareOp .NotEq) r ∧ R2Snd X.K r necF := ⟨_, op_neD (by omega), by
  intro Fz H fp σ s T TV Fz2 H2 fp2 a b x y fa fb z Q e hl C g ra rb k
  unfold necF eqD at e
  split at e
  · rename_i c hc
    split at hc
    · rename_i h
      simp only [Bool.and_eq_true] at h
      cases hc
      cases e
      rw [eqF_eqv 60 a b h.1 h.2] at k
      exact ⟨_, _, Rep.dp 60 ra h.1, Rep.dp 60 rb h.2, toP_shaped h.1, toP_shaped h.2, fin_atom k hl C g (.bl _)⟩
    · cases hc
  · cases e⟩
theorem cmp_le : ∃ r, OpR X (compareOp .LtE) r ∧ R2Snd X.K r leF := ⟨_, op_le, snd_int0 fun i j z e Fz H => by cases e; exact .bl _⟩
theorem cmp_gt : ∃ r, OpR X (compareOp .Gt) r ∧ R2Snd X.K r gtF := ⟨_, op_gt, snd_int0 fun i j z e Fz H => by cases e; exact .bl _⟩
theorem cmp_ge : ∃ r, OpR X (compareOp .GtE) r ∧ R2Snd X.K r geF := ⟨_, op_ge, snd_int0 fun i j z e Fz H => by cases e; exact .bl _⟩
theorem cmp_lt (hu : X.A.units + 100 < cLine) : ∃ r, OpR X (compareOp .Lt) r ∧ R2Snd X.K r ltF := ⟨_, op_lt.or (op_ltT (by omega)), by
  intro Fz H fp σ s T TV Fz2 H2 fp2 a b x y fa fb z Q e hl C g ra rb k
  unfold ltF at e
  split at e
  · cases e
    exact .inl ⟨_, _, ra.inti, rb.inti, fin_atom k hl C g (.bl _)⟩
  · split at e
    · rename_i h1 h2
      cases e
      obtain ⟨a, vs, rfl, ha, r1⟩ := ra.tupl
      obtain ⟨b, ws, rfl, hb, r2⟩ := rb.tupl
      have e1 := toInts_map h1 r1
      have e2 := toInts_map h2 r2
      subst e1 e2
      exact .inr ⟨a, b, _, _, rfl, rfl, .inl (.inl ha), .inl (.inl hb), fin_atom k hl C g (.bl _)⟩
    · cases e
  · cases e⟩
def rDin (neg : Bool) : R2 := fun y x H Q => ∃ a ov, x = .ref a ∧ DGet H a y ov ∧ Q (.bl (if neg then !ov.isSome else ov.isSome)) H
theorem op_din (hu : X.A.units + 1 < cLine) : OpR X (compareOp .In) (rDin false) := by
  intro pins s σ H y x u v Q I ry rx h
  obtain ⟨a, ov, rfl, g, q⟩ := h
  obtain rfl : v = Value.ref a := rx
  exact d_in hu I g ry fun s3 I3 => ⟨.bl ov.isSome, H, I3, rfl, q⟩
theorem op_dnotin (hu : X.A.units + 1 < cLine) : OpR X (compareOp .NotIn) (rDin true) := by
  intro pins s σ H y x u v Q I ry rx h
  obtain ⟨a, ov, rfl, g, q⟩ := h
  obtain rfl : v = Value.ref a := rx
  exact d_notIn hu I g ry fun s3 I3 => ⟨.bl (!ov.isSome), H, I3, rfl, q⟩
theorem any_eqv {n : Nat} {a : D} (ha : shp n a = true) : ∀ {xs : List D}, xs.all (shp n) = true → (xs.any fun y => eqF n y a) = ((xs.map (toP n)).any fun z => PyData.eqv z (toP n a))
  | [], _ => rfl
  | x :: xs, h => by
    simp only [List.all_cons, Bool.and_eq_true] at h
    simp [any_eqv ha h.2, eqF_eqv n x a h.1 ha]
/-- what «in» asks -/
theorem in_snd {K : PySem.W.Frag} (neg : Bool) {Fz : Addr → Prop} {H : Hp} {fp} {σ : List (Option V)} {s : S} {T TV Fz2 H2 fp2 a b x y fa fb c} {Q : VK} (e : inB a b = some c) (hl : T.length = TV.length) (C : Cfg K Fz2 H2 (T ++ s) (TV ++ σ) fp2)
    (g : Go Fz H fp Fz2 H2 fp2) (ra : Rep K Fz2 H2 a x fa) (rb : Rep K Fz2 H2 b y fb) (k : Fin1 K Fz H fp σ (.bl (if neg then !c else c)) s Q) :
    rIn K neg x y H2 Q ∨ rDin neg x y H2 Q ∨ (∃ d ds, Dp K H2 x d ∧ Dp K H2 y (.list ds) ∧ SeqAt.shaped d = true ∧ SeqAt.shaped (.list ds) = true ∧ Q (.bl (if neg then !ds.any fun z => PyData.eqv z d else ds.any fun z => PyData.eqv z d)) H2) := by
  have seqc : ∀ {xs vs f p}, (flat a && xs.all flat) = true → c = (xs.any fun y => eqF 1 y a) → y = .ref p → RepL K Fz2 H2 xs vs f → (SqL K H2 p vs ∨ SqT K H2 p vs) → rIn K neg x y H2 Q := fun {xs vs f p} h hc hy r hq => by
    simp only [Bool.and_eq_true] at h
    obtain ⟨e1, e2⟩ := r.flat h.2
    obtain ⟨e3, _, e4⟩ := ra.flat h.1
    subst hc hy e1 e3
    rw [any_map_in h.1 h.2] at k
    exact ⟨p, _, rfl, hq, e4, e2, fin_atom k hl C g (.bl _)⟩
  unfold inB at e
  split at e
  · rename_i o kvs
    split at e
    · rename_i kk hk
      cases e
      have e1 := keyD_v hk ra
      subst e1
      obtain ⟨p, ov, rfl, dg, h⟩ := dget_of rb hk
      refine .inr (.inl ⟨p, ov, rfl, dg, ?_⟩)
      have e2 : (lookD kvs a).isSome = ov.isSome := by
        rcases h with ⟨h1, h2⟩ | ⟨x, y, _, h1, h2, _⟩ <;> rw [h1, h2] <;> rfl
      rw [e2] at k
      exact fin_atom k hl C g (.bl _)
    · cases e
  · split at e
    · rename_i xs h
      cases e
      obtain ⟨p, vs, e1, hp, r⟩ := rb.tupl
      exact .inl (seqc h rfl e1 r (.inr (.inl (.inl hp))))
    · cases e
  · split at e
    · rename_i xs h
      cases e
      cases rb with
      | rol q r => exact .inl (seqc h rfl rfl r (.inl q.sq))
    · cases e
  · split at e
    · rename_i o xs h
      cases e
      obtain ⟨p, vs, f', e1, hp, r, _⟩ := rb.lst
      exact .inl (seqc h rfl e1 r (.inl (.inl (.inl hp))))
    · split at e
      · rename_i o xs _ h
        cases e
        simp only [Bool.and_eq_true] at h
        have hx : xs.all (shp 59) = true := by simpa [shp] using h.2
        have s2 := toP_shaped h.2
        have d2 := Rep.dp 60 rb h.2
        have dp : (toP 59 a).depth ≤ 59 := toP_depth 59 a
        rw [any_eqv h.1 hx] at k
        exact .inr (.inr ⟨_, _, Rep.dp 59 ra h.1, d2, by
          simp only [SeqAt.shaped, toP_lay 59 a h.1, Bool.true_and, decide_eq_true_eq]; omega, s2, fin_atom k hl C g (.bl _)⟩)
      · cases e
  · cases e
theorem cmp_in (hu : X.A.units + 100 < cLine) : ∃ r, OpR X (compareOp .In) r ∧ R2Snd X.K r inF := ⟨_, op_in_seq.or ((op_din (by omega)).or (op_inD (by omega))), by
  intro Fz H fp σ s T TV Fz2 H2 fp2 a b x y fa fb z Q e hl C g ra rb k
  unfold inF blO at e
  split at e
  · rename_i c hc
    cases e
    exact in_snd false hc hl C g ra rb k
  · cases e⟩
theorem cmp_nin (hu : X.A.units + 100 < cLine) : ∃ r, OpR X (compareOp .NotIn) r ∧ R2Snd X.K r ninF := ⟨_, op_notIn_seq.or ((op_dnotin (by omega)).or (op_notInD (by omega))), by
  intro Fz H fp σ s T TV Fz2 H2 fp2 a b x y fa fb z Q e hl C g ra rb k
  unfold ninF at e
  split at e
  · rename_i c hc
    cases e
    exact in_snd true hc hl C g ra rb k
  · cases e⟩
theorem is_snd {K : PySem.W.Frag} (neg : Bool) {Fz : Addr → Prop} {H : Hp} {fp} {σ : List (Option V)} {s : S} {T TV Fz2 H2 fp2 a b x y fa fb c} {Q : VK} (e : isB a b = some c) (hl : T.length = TV.length) (C : Cfg K Fz2 H2 (T ++ s) (TV ++ σ) fp2)
    (g : Go Fz H fp Fz2 H2 fp2) (ra : Rep K Fz2 H2 a x fa) (rb : Rep K Fz2 H2 b y fb) (k : Fin1 K Fz H fp σ (.bl (if neg then !c else c)) s Q) :
    (∃ p q : Bool, x = .bl p ∧ y = .bl q ∧ Q (.bl (if neg then !decide (p = q) else decide (p = q))) H2) ∨ (y = .non ∧ Q (.bl (if neg then !decide (x = .non) else decide (x = .non))) H2) := by
  unfold isB at e
  split at e
  · cases e
    exact .inl ⟨_, _, ra.bli, rb.bli, fin_atom k hl C g (.bl _)⟩
  · cases e
    refine .inr ⟨rb.noni, ?_⟩
    rw [ra.noni]
    exact fin_atom k hl C g (by cases neg <;> exact .bl _)
  · rename_i h1
    cases e
    refine .inr ⟨rb.noni, ?_⟩
    have nx : x ≠ .non := by
      rintro rfl
      cases ra
      exact h1 rfl
    rw [decide_eq_false nx]
    exact fin_atom k hl C g (by cases neg <;> exact .bl _)
  · cases e
theorem cmp_is : ∃ r, OpR X (compareOp .Is) r ∧ R2Snd X.K r isF := ⟨_, op_isBl.or op_isN, by
  intro Fz H fp σ s T TV Fz2 H2 fp2 a b x y fa fb z Q e hl C g ra rb k
  unfold isF blO at e
  split at e
  · rename_i c hc
    cases e
    exact is_snd false hc hl C g ra rb k
  · cases e⟩
theorem cmp_nis : ∃ r, OpR X (compareOp .IsNot) r ∧ R2Snd X.K r nisF := ⟨_, op_notBl.or op_notN, by
  intro Fz H fp σ s T TV Fz2 H2 fp2 a b x y fa fb z Q e hl C g ra rb k
  unfold nisF at e
  split at e
  · rename_i c hc
    cases e
    exact is_snd true hc hl C g ra rb k
  · cases e⟩
end

def cmpF : CmpOp → D → D → Option D
  | .Eq => eqcF | .NotEq => necF | .Lt => ltF | .LtE => leF | .Gt => gtF | .GtE => geF | .Is => isF | .IsNot => nisF | .In => inF | .NotIn => ninF
theorem cmp_all {X : Cx} (hu : X.A.units + 100 < cLine) : ∀ op, ∃ r, OpR X (compareOp op) r ∧ R2Snd X.K r (cmpF op)
  | .Eq => cmp_eq hu | .NotEq => cmp_ne hu | .Lt => cmp_lt hu | .LtE => cmp_le | .Gt => cmp_gt | .GtE => cmp_ge | .Is => cmp_is | .IsNot => cmp_nis | .In => cmp_in hu | .NotIn => cmp_nin hu

/-- a value that is a bool -/
def mB (m : M D) : M Bool := fun st => match m st with
  | some (.bl b, s) => some (b, s)
  | _ => none
def mD (m : M Bool) : M D := fun st => match m st with
  | some (b, s) => some (.bl b, s)
  | _ => none
def mAnd (a b : M Bool) : M Bool := fun st => match a st with
  | some (true, s) => b s
  | some (false, s) => some (false, s)
  | none => none
def mOr (a b : M Bool) : M Bool := fun st => match a st with
  | some (true, s) => some (true, s)
  | some (false, s) => b s
  | none => none
def mNot (a : M Bool) : M Bool := fun st => match a st with
  | some (b, s) => some (!b, s)
  | none => none
def mIte (c : M Bool) (a b : M D) : M D := fun st => match c st with
  | some (true, s) => a s
  | some (false, s) => b s
  | none => none
/-- truth -/
def truD : D → Option Bool
  | .bl b => some b
  | .non => some false
  | .int i => some (i != 0)
  | _ => none
def mTru (m : M D) : M Bool := fun st => match m st with
  | some (d, s) => match truD d with
    | some b => some (b, s)
    | none => none
  | none => none
section
variable {Γ : Gam} {Φ : GCx → Prop} {a b c : Expr} {pos : Pos}
theorem rd_mB {K : PySem.W.Frag} {m : M D} {σ H} {Q : Bool → Hp → Prop} (q : rdT K (mB m) σ H Q) : tTest (rd K m) σ H Q := by
  obtain ⟨Fz, fp, st, C, b, st', e, k⟩ := q
  unfold mB at e
  split at e
  · rename_i b s hm
    cases e
    refine ⟨Fz, fp, st, C, _, _, hm, fun v H' Fz' fp' C' g => ?_⟩
    obtain ⟨v', f, e', r, _⟩ := C'.head
    cases e'
    obtain ⟨f2, C2, h2⟩ := C'.drop
    exact ⟨b, r.bli, k _ _ _ C2 (g.sub h2)⟩
  · cases e
theorem rd_mTru {K : PySem.W.Frag} {m : M D} {σ H} {Q : Bool → Hp → Prop} (q : rdT K (mTru m) σ H Q) : rd K m σ H fun x H' => ∃ k, TruV K x H' k ∧ Q k H' := by
  obtain ⟨Fz, fp, st, C, b, st', e, k⟩ := q
  unfold mTru at e
  split at e
  · rename_i d s hm
    split at e
    · rename_i bb hb
      cases e
      refine ⟨Fz, fp, st, C, _, _, hm, fun v H' Fz' fp' C' g => ?_⟩
      obtain ⟨v', f, e', r, _⟩ := C'.head
      cases e'
      obtain ⟨f2, C2, h2⟩ := C'.drop
      refine ⟨b, ?_, k _ _ _ C2 (g.sub h2)⟩
      cases r <;> simp_all [truD, TruV]
    · cases e
  · cases e
/-- the truth of a value: he by rfl -/
theorem st_tru {m : M D} (h : SE Γ Φ a m) (he : ∀ X whole, isTrue a (Cx.env X) whole = (do let v ← whole; standAt a.pos; holding [v] (truthy v)) := by intro _ _; rfl) : ST Γ Φ a (mTru m) := fun X o => pt_imp (pt_truth (h X o) (he X)) fun σ H Q q => rd_mTru q
theorem se_cmp {op : CmpOp} {o1 o2 : Opd} (ha : SO Γ Φ a o1) (hb : SO Γ Φ b o2) (hm : behindInMarks op b = false := by rfl) : SE Γ Φ (.Compare a [op] [b] pos) (m2 o1 o2 (cmpF op)) := fun X o => by
  obtain ⟨r, h1, h2⟩ := cmp_all o.hu op
  exact pe_imp (pe_cmpR h1 (ha X o) (hb X o) hm) fun σ H Q q => two h2 q
theorem st_cmp {op : CmpOp} {o1 o2 : Opd} (ha : SO Γ Φ a o1) (hb : SO Γ Φ b o2) (hm : behindInMarks op b = false := by rfl) : ST Γ Φ (.Compare a [op] [b] pos) (mB (m2 o1 o2 (cmpF op))) := fun X o => by
  obtain ⟨r, h1, h2⟩ := cmp_all o.hu op
  exact pt_imp (pt_cmpR h1 (ha X o) (hb X o) hm) fun σ H Q q => by
    have := rd_mB q
    exact two h2 this
theorem SW.st {m : M Bool} (h : SW Γ Φ a m) : ST Γ Φ a m := fun X o => (h X o).pt
theorem sw_and1 {m : M Bool} (h : ST Γ Φ a m) : SW Γ Φ (.BoolOp .And [a] pos) m := fun X o => pw_and1 (h X o)
theorem sw_or1 {m : M Bool} (h : ST Γ Φ a m) : SW Γ Φ (.BoolOp .Or [a] pos) m := fun X o => pw_or1 (h X o)
theorem sw_and {rest : List Expr} {m n : M Bool} (ha : ST Γ Φ a m) (hb : SW Γ Φ (.BoolOp .And (b :: rest) pos) n) : SW Γ Φ (.BoolOp .And (a :: b :: rest) pos) (mAnd m n) := fun X o => pw_imp (pw_and (ha X o) (hb X o)) fun σ H Q q => by
  obtain ⟨Fz, fp, st, C, d, st', e, k⟩ := q
  unfold mAnd at e
  split at e
  · rename_i s hm
    refine ⟨Fz, fp, st, C, _, _, hm, fun H' Fz' fp' C' g => ?_⟩
    exact iteT (⟨Fz', fp', s, C', d, st', e, fun H2 F2 f2 C2 g2 => k _ _ _ C2 (g.trans g2)⟩)
  · rename_i s hm
    cases e
    refine ⟨Fz, fp, st, C, _, _, hm, fun H' Fz' fp' C' g => ?_⟩
    exact iteF (k _ _ _ C' g)
  · cases e
theorem sw_or {rest : List Expr} {m n : M Bool} (ha : ST Γ Φ a m) (hb : SW Γ Φ (.BoolOp .Or (b :: rest) pos) n) : SW Γ Φ (.BoolOp .Or (a :: b :: rest) pos) (mOr m n) := fun X o => pw_imp (pw_or (ha X o) (hb X o)) fun σ H Q q => by
  obtain ⟨Fz, fp, st, C, d, st', e, k⟩ := q
  unfold mOr at e
  split at e
  · rename_i s hm
    cases e
    refine ⟨Fz, fp, st, C, _, _, hm, fun H' Fz' fp' C' g => ?_⟩
    exact iteT (k _ _ _ C' g)
  · rename_i s hm
    refine ⟨Fz, fp, st, C, _, _, hm, fun H' Fz' fp' C' g => ?_⟩
    exact iteF (⟨Fz', fp', s, C', d, st', e, fun H2 F2 f2 C2 g2 => k _ _ _ C2 (g.trans g2)⟩)
  · cases e
theorem st_not {m : M Bool} (ha : ST Γ Φ a m) : ST Γ Φ (.UnaryOp .Not a pos) (mNot m) := fun X o => pt_imp (pt_not (ha X o)) fun σ H Q q => by
  obtain ⟨Fz, fp, st, C, d, st', e, k⟩ := q
  unfold mNot at e
  split at e
  · rename_i b s hm
    cases e
    exact ⟨Fz, fp, st, C, _, _, hm, fun H' Fz' fp' C' g => k _ _ _ C' g⟩
  · cases e
/-- bools as values -/
def SV (Γ : Gam) (Φ : GCx → Prop) (e : Expr) (m : M Bool) : Prop := SE Γ Φ e (mD m)
theorem rd_mD {K : PySem.W.Frag} {m : M Bool} {σ H} {Q : VK} (q : rd K (mD m) σ H Q) : ∃ Fz fp st, Cfg K Fz H st σ fp ∧ ∃ b st', m st = some (b, st') ∧ ∀ H' Fz' fp', Cfg K Fz' H' st' σ fp' → Go Fz H fp Fz' H' fp' → Q (.bl b) H' := by
  obtain ⟨Fz, fp, st, C, d, st', e, k⟩ := q
  unfold mD at e
  split at e
  · rename_i b s hm
    cases e
    exact ⟨Fz, fp, st, C, b, _, hm, fun H' Fz' fp' C' g => k _ _ _ _ (C'.atom (.bl b)) g⟩
  · cases e
theorem mk_mD {K : PySem.W.Frag} {m : M Bool} {σ H} {Q : VK} (q : ∃ Fz fp st, Cfg K Fz H st σ fp ∧ ∃ b st', m st = some (b, st') ∧ ∀ H' Fz' fp', Cfg K Fz' H' st' σ fp' → Go Fz H fp Fz' H' fp' → Q (.bl b) H') : rd K (mD m) σ H Q := by
  obtain ⟨Fz, fp, st, C, b, st', e, k⟩ := q
  refine ⟨Fz, fp, st, C, .bl b, st', by unfold mD; rw [e], fun v H' Fz' fp' C' g => ?_⟩
  obtain ⟨v', f, e', r, _⟩ := C'.head
  cases e'
  obtain ⟨f2, C2, h2⟩ := C'.drop
  rw [r.bli]
  exact k _ _ _ C2 (g.sub h2)
/-- a value that is a bool, as a bool -/
theorem sv_e {m : M D} (h : SE Γ Φ a m) : SV Γ Φ a (mB m) := fun X o => pe_imp (h X o) fun σ H Q q => by
  obtain ⟨Fz, fp, st, C, b, st', e, k⟩ := rd_mD q
  unfold mB at e
  split at e
  · rename_i b s hm
    cases e
    refine ⟨Fz, fp, st, C, _, _, hm, fun v H' Fz' fp' C' g => ?_⟩
    obtain ⟨v', f, e', r, _⟩ := C'.head
    cases e'
    obtain ⟨f2, C2, h2⟩ := C'.drop
    rw [r.bli]
    exact k _ _ _ C2 (g.sub h2)
  · cases e
theorem sv_and1 {m : M Bool} {op} (h : SV Γ Φ a m) : SV Γ Φ (.BoolOp op [a] pos) m := fun X o => pe_one (h X o)
theorem sv_and {rest : List Expr} {m n : M Bool} (ha : SV Γ Φ a m) (hb : SV Γ Φ (.BoolOp .And (b :: rest) pos) n) : SV Γ Φ (.BoolOp .And (a :: b :: rest) pos) (mAnd m n) := fun X o => pe_imp (pe_and (ha X o) (hb X o)) fun σ H Q q => by
  obtain ⟨Fz, fp, st, C, d, st', e, k⟩ := rd_mD q
  unfold mAnd at e
  split at e
  · rename_i s hm
    refine mk_mD ⟨Fz, fp, st, C, _, _, hm, fun H' Fz' fp' C' g => ⟨true, rfl, ?_⟩⟩
    exact iteT (mk_mD ⟨Fz', fp', s, C', d, st', e, fun H2 F2 f2 C2 g2 => k _ _ _ C2 (g.trans g2)⟩)
  · rename_i s hm
    cases e
    refine mk_mD ⟨Fz, fp, st, C, _, _, hm, fun H' Fz' fp' C' g => ⟨false, rfl, ?_⟩⟩
    exact iteF (k _ _ _ C' g)
  · cases e
theorem sv_or {rest : List Expr} {m n : M Bool} (ha : SV Γ Φ a m) (hb : SV Γ Φ (.BoolOp .Or (b :: rest) pos) n) : SV Γ Φ (.BoolOp .Or (a :: b :: rest) pos) (mOr m n) := fun X o => pe_imp (pe_or (ha X o) (hb X o)) fun σ H Q q => by
  obtain ⟨Fz, fp, st, C, d, st', e, k⟩ := rd_mD q
  unfold mOr at e
  split at e
  · rename_i s hm
    cases e
    refine mk_mD ⟨Fz, fp, st, C, _, _, hm, fun H' Fz' fp' C' g => ⟨true, rfl, ?_⟩⟩
    exact iteT (k _ _ _ C' g)
  · rename_i s hm
    refine mk_mD ⟨Fz, fp, st, C, _, _, hm, fun H' Fz' fp' C' g => ⟨false, rfl, ?_⟩⟩
    exact iteF (mk_mD ⟨Fz', fp', s, C', d, st', e, fun H2 F2 f2 C2 g2 => k _ _ _ C2 (g.trans g2)⟩)
  · cases e
/-- not x, by truth -/
theorem sv_not {m : M Bool} (ha : SV Γ Φ a m) : SV Γ Φ (.UnaryOp .Not a pos) (mNot m) := fun X o => pe_imp (pe_not (ha X o)) fun σ H Q q => by
  obtain ⟨Fz, fp, st, C, d, st', e, k⟩ := rd_mD q
  unfold mNot at e
  split at e
  · rename_i b s hm
    cases e
    exact mk_mD ⟨Fz, fp, st, C, _, _, hm, fun H' Fz' fp' C' g => ⟨b, rfl, k _ _ _ C' g⟩⟩
  · cases e
theorem se_ite {mc : M Bool} {ma mb : M D} (hc : ST Γ Φ c mc) (ha : SE Γ Φ a ma) (hb : SE Γ Φ b mb) : SE Γ Φ (.IfExp c a b pos) (mIte mc ma mb) := fun X o => pe_imp (pe_ifExp (hc X o) (ha X o) (hb X o)) fun σ H Q q => by
  obtain ⟨Fz, fp, st, C, d, st', e, k⟩ := q
  unfold mIte at e
  split at e
  · rename_i s hm
    refine ⟨Fz, fp, st, C, _, _, hm, fun H' Fz' fp' C' g => ?_⟩
    exact iteT (⟨Fz', fp', s, C', d, st', e, fun v H2 F2 f2 C2 g2 => k _ _ _ _ C2 (g.trans g2)⟩)
  · rename_i s hm
    refine ⟨Fz, fp, st, C, _, _, hm, fun H' Fz' fp' C' g => ?_⟩
    exact iteF (⟨Fz', fp', s, C', d, st', e, fun v H2 F2 f2 C2 g2 => k _ _ _ _ C2 (g.trans g2)⟩)
  · cases e
/-- a < b < c -/
def mChain (op op' : CmpOp) (a b c : Opd) : M D := fun st => match a.run st with
  | some (r1, s1) => match b.run s1 with
    | some (r2, s2) => match a.val r1 s2, b.val r2 s2 with
      | some x, some y => match cmpF op x y with
        | some (.bl false) => some (.bl false, s2)
        | some (.bl true) => match c.run s2 with
          | some (r3, s3) => match b.val r2 s3, c.val r3 s3 with
            | some y', some z => match cmpF op' y' z with
              | some w => some (w, s3)
              | none => none
            | _, _ => none
          | none => none
        | _ => none
      | _, _ => none
    | none => none
  | none => none
end
end Va
/-! Va7: sorted -/
namespace Va
open PySem PySem.Spec PyProof.Rows L2

/-- ints (0), tuples of such with an item at least (1), .. -/
def lvl : Nat → D → Bool
  | 0, .int _ => true
  | k + 1, .tup xs => !xs.isEmpty && xs.all (lvl k)
  | _, _ => false
def ltLs (e f : D → D → Bool) : List D → List D → Bool
  | [], [] => false
  | [], _ :: _ => true
  | _ :: _, [] => false
  | x :: xs, y :: ys => match e x y with
    | true => ltLs e f xs ys
    | false => f x y
def ltD : Nat → D → D → Bool
  | 0, .int i, .int j => decide (i < j)
  | k + 1, .tup xs, .tup ys => ltLs (eqF (k + 1)) (ltD k) xs ys
  | _, _, _ => false
/-- into an ascending list -/
def insD (lt : D → D → Bool) (x : D) : List D → List D
  | [] => [x]
  | y :: ys => match lt y x with
    | true => y :: insD lt x ys
    | false => x :: y :: ys
def isort (lt : D → D → Bool) : List D → List D
  | [] => []
  | x :: xs => insD lt x (isort lt xs)
theorem lvl_shp : ∀ (k : Nat) (d : D), lvl k d = true → shp (k + 1) d = true
  | 0, .int _, _ => rfl
  | k + 1, .tup xs, h => by
    have h' : xs.all (lvl k) = true := by simp [lvl] at h; simpa using h.2
    simp only [shp]
    rw [List.all_eq_true] at h' ⊢
    exact fun x hx => lvl_shp k x (h' x hx)
theorem shp_mono : ∀ (n : Nat) (d : D), shp n d = true → ∀ m, shp (n + m) d = true ∧ toP (n + m) d = toP n d
  | 0, _, h, _ => by simp [shp] at h
  | n + 1, d, h, m => by
    have e : n + 1 + m = (n + m) + 1 := by omega
    rw [e]
    have L : ∀ xs : List D, xs.all (shp n) = true → xs.all (shp (n + m)) = true ∧ xs.map (toP (n + m)) = xs.map (toP n) := fun xs hx => by
      rw [List.all_eq_true] at hx
      refine ⟨List.all_eq_true.mpr fun x q => (shp_mono n x (hx x q) m).1, List.map_congr_left fun x q => (shp_mono n x (hx x q) m).2⟩
    cases d with
    | tup xs => have := L xs (by simpa [shp] using h); simp only [shp, toP]; exact ⟨this.1, by rw [this.2]⟩
    | rol xs => have := L xs (by simpa [shp] using h); simp only [shp, toP]; exact ⟨this.1, by rw [this.2]⟩
    | lst o xs => have := L xs (by simpa [shp] using h); simp only [shp, toP]; exact ⟨this.1, by rw [this.2]⟩
    | non => exact ⟨rfl, rfl⟩
    | bl b => exact ⟨rfl, rfl⟩
    | int i => exact ⟨rfl, rfl⟩
    | str x => exact ⟨by simpa [shp] using h, rfl⟩
    | dic o xs => simp [shp] at h
theorem lvl_alike : ∀ (k : Nat) (d e : D), lvl k d = true → lvl k e = true → PySem.W.alike (toP (k + 1) d) (toP (k + 1) e) = true
  | 0, .int _, .int _, _, _ => by simp [toP, PySem.W.alike]
  | k + 1, .tup xs, .tup ys, h, h' => by
    have hx : xs.all (lvl k) = true := by simp [lvl] at h; simpa using h.2
    have hy : ys.all (lvl k) = true := by simp [lvl] at h'; simpa using h'.2
    have L : ∀ xs ys : List D, xs.all (lvl k) = true → ys.all (lvl k) = true → PySem.W.alikeAll (xs.map (toP (k + 1))) (ys.map (toP (k + 1))) = true := fun xs => by
      induction xs with
      | nil => intro ys _ _; simp [PySem.W.alikeAll]
      | cons x xs ih =>
        intro ys hx hy
        cases ys with
        | nil => simp [PySem.W.alikeAll]
        | cons y ys =>
          simp only [List.all_cons, Bool.and_eq_true] at hx hy
          simp only [List.map_cons, PySem.W.alikeAll, lvl_alike k x y hx.1 hy.1, ih ys hx.2 hy.2, Bool.and_self]
    show PySem.W.alike (toP (k + 1 + 1) (.tup xs)) (toP (k + 1 + 1) (.tup ys)) = true
    simp only [toP, PySem.W.alike]
    exact L xs ys hx hy
theorem ltLs_lex {k : Nat} (ih : ∀ d e, lvl k d = true → lvl k e = true → ltD k d e = PySem.W.dataLt (toP (k + 1) d) (toP (k + 1) e)) : ∀ xs ys : List D, xs.all (lvl k) = true → ys.all (lvl k) = true →
    ltLs (eqF (k + 1)) (ltD k) xs ys = PyProof.Rows.lexLt itemOrd (PySem.W.keyToksAll (xs.map (toP (k + 1)))) (PySem.W.keyToksAll (ys.map (toP (k + 1))))
  | [], [], _, _ => rfl
  | [], y :: ys, _, _ => by
    simp only [List.map_nil, List.map_cons, PySem.W.keyToksAll, ltLs]
    rw [PyProof.Rows.lex_cons]
    rfl
  | x :: xs, [], _, _ => by
    simp only [List.map_nil, List.map_cons, PySem.W.keyToksAll, ltLs]
    rw [PyProof.Rows.lex_cons]
    rfl
  | x :: xs, y :: ys, hx, hy => by
    simp only [List.all_cons, Bool.and_eq_true] at hx hy
    have al := lvl_alike k x y hx.1 hy.1
    have ee := eqF_eqv (k + 1) x y (lvl_shp k x hx.1) (lvl_shp k y hy.1)
    simp only [List.map_cons, ltLs]
    cases q : eqF (k + 1) x y with
    | true =>
      rw [PySem.W.dataLt_all_yes al (by rw [← ee]; exact q)]
      exact ltLs_lex ih xs ys hx.2 hy.2
    | false =>
      rw [PySem.W.dataLt_all_no al (by rw [← ee]; exact q)]
      exact ih x y hx.1 hy.1
theorem ltD_data : ∀ (k : Nat) (d e : D), lvl k d = true → lvl k e = true → ltD k d e = PySem.W.dataLt (toP (k + 1) d) (toP (k + 1) e)
  | 0, .int i, .int j, _, _ => by simp only [toP, ltD, PySem.W.dataLt_int]
  | k + 1, .tup xs, .tup ys, h, h' => by
    have hx : xs.all (lvl k) = true := by simp [lvl] at h; simpa using h.2
    have hy : ys.all (lvl k) = true := by simp [lvl] at h'; simpa using h'.2
    show ltD (k + 1) (.tup xs) (.tup ys) = PySem.W.dataLt (toP (k + 1 + 1) (.tup xs)) (toP (k + 1 + 1) (.tup ys))
    simp only [toP, PySem.W.dataLt_tuple, ltD]
    exact ltLs_lex (ltD_data k) xs ys hx hy
/-- such data are one if neither is below -/
theorem eqF_eq : ∀ (k : Nat) (d e : D), lvl k d = true → lvl k e = true → eqF (k + 1) d e = true → d = e
  | 0, .int i, .int j, _, _, h => by simp [eqF] at h; rw [h]
  | k + 1, .tup xs, .tup ys, h, h', q => by
    have hx : xs.all (lvl k) = true := by simp [lvl] at h; simpa using h.2
    have hy : ys.all (lvl k) = true := by simp [lvl] at h'; simpa using h'.2
    have L : ∀ xs ys : List D, xs.all (lvl k) = true → ys.all (lvl k) = true → eqL (eqF (k + 1)) xs ys = true → xs = ys := fun xs => by
      induction xs with
      | nil => intro ys _ _ q; cases ys with
        | nil => rfl
        | cons y ys => simp [eqL] at q
      | cons x xs ih =>
        intro ys hx hy q
        cases ys with
        | nil => simp [eqL] at q
        | cons y ys =>
          simp only [List.all_cons, Bool.and_eq_true] at hx hy
          simp only [eqL, Bool.and_eq_true] at q
          rw [eqF_eq k x y hx.1 hy.1 q.1, ih ys hx.2 hy.2 q.2]
    have q' : eqL (eqF (k + 1)) xs ys = true := by
      have : eqF (k + 1 + 1) (.tup xs) (.tup ys) = eqL (eqF (k + 1)) xs ys := by simp [eqF, seqOf]
      rw [← this]; exact q
    rw [L xs ys hx hy q']
theorem eqF_self : ∀ (k : Nat) (d : D), lvl k d = true → eqF (k + 1) d d = true
  | 0, .int i, _ => by simp [eqF]
  | k + 1, .tup xs, h => by
    have hx : xs.all (lvl k) = true := by simp [lvl] at h; simpa using h.2
    have L : ∀ xs : List D, xs.all (lvl k) = true → eqL (eqF (k + 1)) xs xs = true := fun xs => by
      induction xs with
      | nil => intro _; rfl
      | cons x xs ih =>
        intro hx
        simp only [List.all_cons, Bool.and_eq_true] at hx
        simp only [eqL, eqF_self k x hx.1, ih hx.2, Bool.and_self]
    have : eqF (k + 1 + 1) (.tup xs) (.tup xs) = eqL (eqF (k + 1)) xs xs := by simp [eqF, seqOf]
    show eqF (k + 1 + 1) (.tup xs) (.tup xs) = true
    rw [this]; exact L xs hx
theorem ltD_tri : ∀ (k : Nat) (d e : D), lvl k d = true → lvl k e = true → ltD k d e = false → ltD k e d = false → d = e
  | 0, .int i, .int j, _, _, h, h' => by simp [ltD] at h h'; rw [Int.le_antisymm h' h]
  | k + 1, .tup xs, .tup ys, h, h', q, q' => by
    have hx : xs.all (lvl k) = true := by simp [lvl] at h; simpa using h.2
    have hy : ys.all (lvl k) = true := by simp [lvl] at h'; simpa using h'.2
    have L : ∀ xs ys : List D, xs.all (lvl k) = true → ys.all (lvl k) = true → ltLs (eqF (k + 1)) (ltD k) xs ys = false → ltLs (eqF (k + 1)) (ltD k) ys xs = false → xs = ys := fun xs => by
      induction xs with
      | nil => intro ys _ _ q _; cases ys with
        | nil => rfl
        | cons y ys => simp [ltLs] at q
      | cons x xs ih =>
        intro ys hx hy q q'
        cases ys with
        | nil => simp [ltLs] at q'
        | cons y ys =>
          simp only [List.all_cons, Bool.and_eq_true] at hx hy
          simp only [ltLs] at q q'
          cases e : eqF (k + 1) x y with
          | true =>
            have exy := eqF_eq k x y hx.1 hy.1 e
            subst exy
            rw [e] at q q'
            rw [ih ys hx.2 hy.2 q q']
          | false =>
            have e2 : eqF (k + 1) y x = false := by
              cases e2 : eqF (k + 1) y x with
              | false => rfl
              | true =>
                have := eqF_eq k y x hy.1 hx.1 e2
                subst this
                rw [e2] at e; cases e
            rw [e] at q
            rw [e2] at q'
            have := ltD_tri k x y hx.1 hy.1 q q'
            subst this
            rw [eqF_self k x hx.1] at e; cases e
    rw [L xs ys hx hy q q']

theorem insD_perm (lt : D → D → Bool) (x : D) : ∀ ys : List D, (insD lt x ys).Perm (x :: ys)
  | [] => .refl _
  | y :: ys => by
    unfold insD
    split
    · exact ((insD_perm lt x ys).cons y).trans (.swap x y ys)
    · exact .refl _
theorem isort_perm (lt : D → D → Bool) : ∀ ys : List D, (isort lt ys).Perm ys
  | [] => .refl _
  | y :: ys => (insD_perm lt y _).trans ((isort_perm lt ys).cons y)
theorem insD_mem {lt : D → D → Bool} {x y : D} {ys : List D} (h : y ∈ insD lt x ys) : y = x ∨ y ∈ ys := by
  have := (insD_perm lt x ys).mem_iff.mp h
  simpa using this
/-- the ordered list -/
theorem isort_sorted {lt : D → D → Bool} {P : D → Prop} (asym : ∀ a b, P a → P b → lt a b = true → lt b a = false) (tr : ∀ a b c, P a → P b → P c → lt b a = false → lt c b = false → lt c a = false) : ∀ xs : List D, (∀ x ∈ xs, P x) → (isort lt xs).Pairwise fun a b => lt b a = false := by
  have ins : ∀ (x : D) (ys : List D), P x → (∀ y ∈ ys, P y) → ys.Pairwise (fun a b => lt b a = false) → (insD lt x ys).Pairwise fun a b => lt b a = false := fun x ys => by
    induction ys with
    | nil => intro _ _ _; simp [insD]
    | cons y ys ih =>
      intro hx hy h
      rw [List.pairwise_cons] at h
      unfold insD
      have hy0 := hy y (List.mem_cons_self ..)
      split
      · rename_i e
        rw [List.pairwise_cons]
        refine ⟨fun z hz => ?_, ih hx (fun z hz => hy z (List.mem_cons_of_mem _ hz)) h.2⟩
        rcases insD_mem hz with rfl | hz
        · exact asym _ _ hy0 hx e
        · exact h.1 z hz
      · rename_i e
        rw [List.pairwise_cons, List.pairwise_cons]
        refine ⟨fun z hz => ?_, h⟩
        rcases List.mem_cons.mp hz with rfl | hz'
        · exact e
        · exact tr x y z hx hy0 (hy z (List.mem_cons_of_mem _ hz')) e (h.1 z hz')
  intro xs
  induction xs with
  | nil => intro _; exact List.Pairwise.nil
  | cons x xs ih =>
    intro h
    refine ins x _ (h x (List.mem_cons_self ..)) (fun y hy => ?_) (ih fun y hy => h y (List.mem_cons_of_mem _ hy))
    exact h y (List.mem_cons_of_mem _ ((isort_perm lt xs).mem_iff.mp hy))

/-- the sort of data by the library's order is ours -/
theorem sort_is {k : Nat} {β : Type} (enc : β → D) (bs : List β) (h : ∀ b ∈ bs, lvl k (enc b) = true) :
    (bs.mergeSort (PySem.W.dataLe false fun b => toP (k + 1) (enc b))).map enc = isort (ltD k) (bs.map enc) := by
  have T := PySem.W.sortLe_total (listOrd itemOrd) false fun b => PySem.W.keyToks (toP (k + 1) (enc b))
  have hle : ∀ a ∈ bs, ∀ b ∈ bs, PySem.W.dataLe false (fun b => toP (k + 1) (enc b)) a b = !ltD k (enc b) (enc a) := fun a ha b hb => by
    rw [ltD_data k _ _ (h b hb) (h a ha)]; rfl
  have P1 : (bs.mergeSort (PySem.W.dataLe false fun b => toP (k + 1) (enc b))).Perm bs := List.mergeSort_perm ..
  have hd : ∀ d ∈ bs.map enc, lvl k d = true := fun d hd => by
    obtain ⟨b, hb, rfl⟩ := List.mem_map.mp hd
    exact h b hb
  have S1 : ((bs.mergeSort (PySem.W.dataLe false fun b => toP (k + 1) (enc b))).map enc).Pairwise fun a b => ltD k b a = false := by
    rw [List.pairwise_map]
    have := List.pairwise_mergeSort (le := PySem.W.dataLe false fun b => toP (k + 1) (enc b)) (fun a b c h1 h2 => T.trans a b c h1 h2) (fun a b => by
      rcases T.total a b with z | z
      · rw [show PySem.W.dataLe false (fun b => toP (k + 1) (enc b)) a b = true from z]; rfl
      · rw [show PySem.W.dataLe false (fun b => toP (k + 1) (enc b)) b a = true from z]; exact Bool.or_true _) bs
    refine this.imp_of_mem fun {a b} ha hb q => ?_
    have ha' := P1.mem_iff.mp ha
    have hb' := P1.mem_iff.mp hb
    rw [hle a ha' b hb'] at q
    simpa using q
  have lt_tr : ∀ a b c : D, lvl k a = true → lvl k b = true → lvl k c = true → ltD k b a = false → ltD k c b = false → ltD k c a = false := fun a b c ha hb hc h1 h2 => by
    rw [ltD_data k _ _ hb ha] at h1
    rw [ltD_data k _ _ hc hb] at h2
    rw [ltD_data k _ _ hc ha]
    exact KeyOrd.kle_trans (O := listOrd itemOrd) h1 h2
  have lt_as : ∀ a b : D, lvl k a = true → lvl k b = true → ltD k a b = true → ltD k b a = false := fun a b ha hb h1 => by
    rw [ltD_data k _ _ ha hb] at h1
    rw [ltD_data k _ _ hb ha]
    exact KeyOrd.klt_asymm (O := listOrd itemOrd) h1
  have S2 := isort_sorted (lt := ltD k) (P := fun d => lvl k d = true) lt_as lt_tr (bs.map enc) hd
  refine List.Perm.eq_of_pairwise (fun a b ha hb h1 h2 => ?_) S1 S2 ((P1.map enc).trans (isort_perm _ _).symm)
  have ha' := hd a ((P1.map enc).mem_iff.mp ha)
  have hb' := hd b ((isort_perm _ _).mem_iff.mp hb)
  exact ltD_tri k a b ha' hb' h2 h1

/-- the level of all -/
def lvlOf (xs : List D) : Option Nat :=
  if xs.all (lvl 0) then some 0 else if xs.all (lvl 1) then some 1 else if xs.all (lvl 2) then some 2 else if xs.all (lvl 3) then some 3 else none
def sortF (d : D) : Option D := match seqOf d with
  | some (_, xs) => match lvlOf xs with
    | some k => some (.lst true (isort (ltD k) xs))
    | none => none
  | none => none
theorem lvlOf_all {xs : List D} {k : Nat} (h : lvlOf xs = some k) : xs.all (lvl k) = true ∧ k ≤ 3 := by
  unfold lvlOf at h
  split at h
  · cases h; exact ⟨by assumption, by omega⟩
  · split at h
    · cases h; exact ⟨by assumption, by omega⟩
    · split at h
      · cases h; exact ⟨by assumption, by omega⟩
      · split at h
        · cases h; exact ⟨by assumption, by omega⟩
        · cases h
theorem lvl_imm : ∀ {k : Nat} {d : D}, lvl k d = true → imm d = true
  | 0, .int _, _ => rfl
  | _ + 1, .tup _, _ => rfl

/-- sorted(xs) of alike data -/
def rSortD (K : PySem.W.Frag) : List V → Hp → VK → Prop := fun vs H Q => ∃ (a : Addr) (k : Nat) (bs : List (V × D)), vs = [V.ref a] ∧ k ≤ 3 ∧ SqL K H a (bs.map (·.1)) ∧ (∀ b ∈ bs, lvl k b.2 = true ∧ Dp K H b.1 (toP (k + 1) b.2)) ∧
  ∀ (cs : List (V × D)) (p : Addr), cs.Perm bs → cs.map (·.2) = isort (ltD k) (bs.map (·.2)) → H p = none → Q (.ref p) (upd H p (.lst (cs.map (·.1))))
theorem EachIs_vals {R : Value → V × D → Prop} (h : ∀ u b, R u b → RelV b.1 u) : ∀ {us : List Value} {bs : List (V × D)}, PySem.W.EachIs R us bs → Vals (bs.map (·.1)) us
  | _, _, .nil => .nil
  | _, _, .cons r t => .cons (h _ _ r) (EachIs_vals h t)
theorem Vals_each {bs : List (V × D)} : ∀ {us : List Value}, Vals (bs.map (·.1)) us → PySem.W.EachIs (fun u (b : V × D) => b ∈ bs ∧ RelV b.1 u) us bs := by
  have L : ∀ (cs : List (V × D)) (us : List Value), (∀ c ∈ cs, c ∈ bs) → Vals (cs.map (·.1)) us → PySem.W.EachIs (fun u (b : V × D) => b ∈ bs ∧ RelV b.1 u) us cs := fun cs => by
    induction cs with
    | nil => intro us _ h; cases h; exact .nil
    | cons c cs ih =>
      intro us hm h
      cases h with
      | cons r t => exact .cons ⟨hm c (List.mem_cons_self ..), r⟩ (ih _ (fun x hx => hm x (List.mem_cons_of_mem _ hx)) t)
  exact fun {us} h => L bs us (fun _ h => h) h
theorem EachIs_imp {α β : Type} {R R' : α → β → Prop} (h : ∀ a b, R a b → R' a b) : ∀ {xs : List α} {ys : List β}, PySem.W.EachIs R xs ys → PySem.W.EachIs R' xs ys
  | _, _, .nil => .nil
  | _, _, .cons r t => .cons (h _ _ r) (EachIs_imp h t)
section
variable {X : Cx}
theorem cr_sortD (hu : X.A.units + 100 < cLine) : CallR X (.builtin "sorted") (rSortD X.K) := by
  intro pins s σ H vs us Q I r h
  obtain ⟨a, k, bs, rfl, hk3, hs, hb, q⟩ := h
  obtain ⟨its, rv, hl, hz⟩ := I.list hs
  rw [Vals.ref1 r]
  have e1 := Vals_each rv
  have hlen : bs.length ≤ sizeLine := by rw [List.length_map] at hz; exact hz
  have hal : PySem.W.AllAlike (bs.map fun b => toP (k + 1) b.2) := fun d hd d' hd' => by
    obtain ⟨b, hb1, rfl⟩ := List.mem_map.mp hd
    obtain ⟨b', hb2, rfl⟩ := List.mem_map.mp hd'
    exact lvl_alike k _ _ (hb b hb1).1 (hb b' hb2).1
  have hsb : PySem.W.Sortable (bs.map fun b => toP (k + 1) b.2) := by
    cases k with
    | zero =>
      refine .inr fun d hd => ?_
      obtain ⟨b, hb1, rfl⟩ := List.mem_map.mp hd
      have := (hb b hb1).1
      cases hb2 : b.2 <;> rw [hb2] at this <;> simp [lvl] at this
      exact ⟨by simp [toP], fun xs => by simp [toP]⟩
    | succ k =>
      refine .inl fun d hd => ?_
      obtain ⟨b, hb1, rfl⟩ := List.mem_map.mp hd
      have := (hb b hb1).1
      cases hb2 : b.2 <;> rw [hb2] at this <;> simp [lvl] at this
      rename_i xs
      cases xs with
      | nil => simp at this
      | cons x xs => exact ⟨toP (k + 1) x, xs.map (toP (k + 1)), by simp only [toP, List.map_cons]⟩
  refine PySem.W.sorted_data (R := fun u (b : V × D) => RelV b.1 u) (enc := fun b => toP (k + 1) b.2) hl.isList (EachIs_imp (fun _ _ h => h.2) e1) (EachIs_imp (fun u b h => Dp.reads I _ _ _ (hb b h.1).2 h.2) e1) hal hsb hlen (fun b hb1 => ?_) fun out ho eo => ?_
  · have := toP_depth (k + 1) b.2
    omega
  · have P1 : (bs.mergeSort (PySem.W.dataLe false fun b => toP (k + 1) b.2)).Perm bs := List.mergeSort_perm ..
    obtain ⟨ep, he'⟩ := PyProof.Rows.sortedAll_at s.heap its out.toArray
    have hlen2 : ((bs.mergeSort (PySem.W.dataLe false fun b => toP (k + 1) b.2)).map (·.1)).length ≤ sizeLine := by rw [List.length_map, P1.length_eq]; exact hlen
    have ev := EachIs_vals (fun _ _ h => h) eo
    exact ⟨.ref _, upd H (s.heap.objs.size + 1) (.lst ((bs.mergeSort (PySem.W.dataLe false fun b => toP (k + 1) b.2)).map (·.1))), I.laid (t' := s.toks) (fun _ _ => PyProof.Rows.sortedAll_old) (Nat.le_succ _) ⟨hlen2, out, ep, ev, he'⟩, rfl,
      q _ _ P1 (sort_is (fun b : V × D => b.2) bs fun b h => (hb b h).1) (I.hok.fresh (Nat.le_succ _))⟩
end
theorem RepL.zipd {K : PySem.W.Frag} {Fz : Addr → Prop} {H : Hp} : ∀ {xs vs f}, RepL K Fz H xs vs f → ∃ bs : List (V × D), bs.map (·.1) = vs ∧ bs.map (·.2) = xs ∧ ∀ b ∈ bs, ∃ g, Rep K Fz H b.2 b.1 g ∧ ∀ a ∈ g, a ∈ f
  | _, _, _, .nil => ⟨[], rfl, rfl, fun _ h => nomatch h⟩
  | _, _, _, .cons (x := x) (v := v) r s => by
    obtain ⟨bs, h1, h2, h3⟩ := RepL.zipd s
    refine ⟨(v, x) :: bs, by rw [← h1]; rfl, by rw [← h2]; rfl, fun b hb => ?_⟩
    rcases List.mem_cons.mp hb with rfl | hb
    · exact ⟨_, r, fun a h => List.mem_append_left _ h⟩
    · obtain ⟨g, h4, h5⟩ := h3 b hb
      exact ⟨g, h4, fun a h => List.mem_append_right _ (h5 a h)⟩
theorem RepL.of_pairs {K : PySem.W.Frag} {Fz : Addr → Prop} {H : Hp} : ∀ {bs : List (V × D)}, (∀ b ∈ bs, Rep K Fz H b.2 b.1 []) → RepL K Fz H (bs.map (·.2)) (bs.map (·.1)) []
  | [], _ => .nil
  | b :: bs, h => .cons (f := []) (g := []) (h b (List.mem_cons_self ..)) (RepL.of_pairs fun c hc => h c (List.mem_cons_of_mem _ hc))
/-- a list alone -/
def sortLF (d : D) : Option D := match seqOf d with
  | some (false, xs) => match lvlOf xs with
    | some k => some (.lst true (isort (ltD k) xs))
    | none => none
  | _ => none
theorem snd_sort {K : PySem.W.Frag} : R1Snd K (fun x H Q => rSortD K [x] H Q) sortLF := by
  intro Fz H fp σ s T TV Fz2 H2 fp2 a x fa z Q e hl C g ra k
  unfold sortLF at e
  split at e
  · rename_i xs hq
    split at e
    · rename_i kk hk
      cases e
      obtain ⟨hall, hk3⟩ := lvlOf_all hk
      have hi : xs.all imm = true := by
        rw [List.all_eq_true] at hall ⊢
        exact fun x hx => lvl_imm (hall x hx)
      obtain ⟨p, vs, rfl, rl, sq⟩ := ra.seq hq hi
      obtain ⟨bs, h1, h2, h3⟩ := rl.zipd
      have rep0 : ∀ b ∈ bs, Rep K Fz2 H2 b.2 b.1 [] := fun b hb => by
        obtain ⟨g, r, hg⟩ := h3 b hb
        cases g with
        | nil => exact r
        | cons y ys => exact absurd (hg y (List.mem_cons_self ..)) (by simp)
      have hl2 : ∀ b ∈ bs, lvl kk b.2 = true := fun b hb => by
        rw [List.all_eq_true] at hall
        exact hall _ (by rw [← h2]; exact List.mem_map.mpr ⟨b, hb, rfl⟩)
      refine ⟨p, kk, bs, rfl, hk3, by rw [h1]; exact sq, fun b hb => ⟨hl2 b hb, Rep.dp _ (rep0 b hb) (lvl_shp kk _ (hl2 b hb))⟩, fun cs q hp he hq => ?_⟩
      rw [h2] at he
      rw [← he] at k
      exact fin_lst k hl C g (RepL.of_pairs fun c hc => rep0 c (hp.mem_iff.mp hc)) q hq
    · cases e
  · cases e
end Va
/-! Va8: built-in calls, displays, items, slices -/
namespace Va
open PySem PySem.Spec PyProof.Rows L2

/-- an expression that is no starred one -/
def NoStar (e : Expr) : Prop := ∀ (es : List Expr) (env : Env), starEach (e :: es) env = (false, eval e env) :: starEach es env
section
variable {Γ : Gam} {Φ : GCx → Prop}

/-! ### argument lists as data -/
def mNil : M (List D) := fun st => some ([], st)
def mCons (m : M D) (r : M (List D)) : M (List D) := fun st => match m st with
  | some (d, s) => match r s with
    | some (ds, s') => some (d :: ds, s')
    | none => none
  | none => none
theorem sa_nil : SA Γ Φ [] mNil := fun X o => pa_imp pa_nil fun σ H Q q => by
  obtain ⟨Fz, fp, st, C, ds, st', e, k⟩ := q
  cases e
  exact k [] H Fz fp rfl C .refl
theorem sa_cons {e : Expr} {es : List Expr} {m : M D} {r : M (List D)} (h : SE Γ Φ e m) (hr : SA Γ Φ es r) (ns : NoStar e := by intro _ _; rfl) : SA Γ Φ (e :: es) (mCons m r) := fun X o => pa_imp (pa_cons (h X o) (hr X o) (ns _ _)) fun σ H Q q => by
  obtain ⟨Fz, fp, st, C, ds, st', e, k⟩ := q
  unfold mCons at e
  split at e
  · rename_i d s hm
    split at e
    · rename_i ds' s' hr
      cases e
      refine ⟨Fz, fp, st, C, _, _, hm, fun v H1 Fz1 fp1 C1 g1 => ?_⟩
      refine rdA.run (P := [some d]) (PV := [some v]) C1 rfl hr fun vs H2 Fz2 fp2 hl C2 g2 => ?_
      obtain ⟨f3, C3, p3⟩ := C2.float (x := some d) (y := some v) (P := ds'.map some) (PV := vs.map some) (by simp [hl])
      exact k (v :: vs) H2 Fz2 f3 (by simp [hl]) C3 ((g1.trans g2).sub fun a h => p3.mem_iff.mp h)
    · cases e
  · cases e
/-- *e, then the rest -/
def mStar (m : M D) (r : M (List D)) : M (List D) := fun st => match m st with
  | some (d, s) => match seqOf d with
    | some (_, xs) => match xs.all imm with
      | true => match r s with
        | some (ds, s') => some (xs ++ ds, s')
        | none => none
      | false => none
    | none => none
  | none => none
theorem RepL.temps {K : PySem.W.Frag} {Fz : Addr → Prop} {H : Hp} {st : S} {σ : List (Option V)} {fp : List Addr} : ∀ {xs vs}, RepL K Fz H xs vs [] → Cfg K Fz H st σ fp → Cfg K Fz H (xs.map some ++ st) (vs.map some ++ σ) fp
  | [], _, h, C => by cases h; exact C
  | x :: xs, _, h, C => by
    generalize hf : ([] : List Addr) = f at h
    cases h with
    | cons r s =>
      obtain ⟨h1, h2⟩ := List.append_eq_nil_iff.mp hf.symm
      subst h1 h2
      exact (RepL.temps s C).atom r
theorem sa_star {e : Expr} {es : List Expr} {p : Pos} {m : M D} {r : M (List D)} (h : SE Γ Φ e m) (hr : SA Γ Φ es r) : SA Γ Φ (.Starred e p :: es) (mStar m r) := fun X o => pa_imp (StX.pa_star (h X o) (hr X o)) fun σ H Q q => by
  obtain ⟨Fz, fp, st, C, ds, st', e, k⟩ := q
  unfold mStar at e
  split at e
  · rename_i d s hm
    split at e
    · rename_i b xs hq
      split at e
      · rename_i hi
        split at e
        · rename_i ds' s' hr
          cases e
          refine ⟨Fz, fp, st, C, _, _, hm, fun v H1 Fz1 fp1 C1 g1 => ?_⟩
          obtain ⟨v', f, ev, rv, _⟩ := C1.head
          cases ev
          obtain ⟨a, vs, rfl, rl, sq⟩ := rv.seq hq hi
          obtain ⟨f2, C2, h2⟩ := C1.drop
          have C3 := rl.temps C2
          refine ⟨a, vs, rfl, by cases b; exact .inr sq; exact .inl sq, ?_⟩
          refine rdA.run (P := xs.map some) (PV := vs.map some) C3 (by simp [rl.length]) hr fun ws H2 Fz2 fp2 hl C4 g2 => ?_
          obtain ⟨f5, C5, p5⟩ := Cfg.rot (P := ds'.map some) (PV := ws.map some) (R := xs.map some) (RV := vs.map some) (by simp [hl]) (by simp [rl.length]) C4
          refine k (vs ++ ws) H2 Fz2 f5 (by simp [hl, rl.length]) ?_ (((g1.sub h2).trans g2).sub fun a h => p5.mem_iff.mp h)
          simpa using C5
        · cases e
      · cases e
    · cases e
  · cases e

/-! ### displays -/
def frzA (d : D) : D := match imm d with
  | true => d
  | false => frz d
def mTup (m : M (List D)) : M D := fun st => match m st with
  | some (ds, s) => match Nat.ble ds.length LN with
    | true => some (.tup (ds.map frzA), s)
    | false => none
  | none => none
def mLst (m : M (List D)) : M D := fun st => match m st with
  | some (ds, s) => match Nat.ble ds.length LN with
    | true => some (.lst true ds, s)
    | false => none
  | none => none
theorem Rep.frzA {K : PySem.W.Frag} {Fz Fz' : Addr → Prop} {H : Hp} (m : ∀ a, Fz a → Fz' a) {d v f} (r : Rep K Fz H d v f) (h : ∀ a ∈ f, Fz' a) : Rep K Fz' H (Va.frzA d) v [] := by
  unfold Va.frzA
  split
  · rename_i hi
    have := r.imm hi
    subst this
    exact r.keep m (fun _ _ _ h => h) fun _ _ h => nomatch h
  · exact r.frz m h
theorem temps_rep {K : PySem.W.Frag} {Fz : Addr → Prop} {H : Hp} : ∀ {ds : List D} {vs : List V} {f}, vs.length = ds.length → RepS K Fz H (ds.map some) (vs.map some) f → RepL K Fz H ds vs f
  | [], [], _, _, h => by cases h; exact .nil
  | d :: ds, v :: vs, _, hl, h => by
    cases h with
    | cons r s => cases r with
      | som r => exact .cons r (temps_rep (by simpa using hl) s)
theorem RepL.frzA {K : PySem.W.Frag} {Fz Fz' : Addr → Prop} {H : Hp} (m : ∀ a, Fz a → Fz' a) : ∀ {ds vs f}, RepL K Fz H ds vs f → (∀ a ∈ f, Fz' a) → RepL K Fz' H (ds.map Va.frzA) vs []
  | _, _, _, .nil, _ => .nil
  | _, _, _, .cons r s, h => .cons (f := []) (g := []) (r.frzA m fun a q => h a (List.mem_append_left _ q)) (RepL.frzA m s fun a q => h a (List.mem_append_right _ q))
/-- the temporaries are frozen, all of them -/
theorem Cfg.frzTemps {K : PySem.W.Frag} {Fz : Addr → Prop} {H : Hp} {ds : List D} {vs : List V} {s : S} {σ : List (Option V)} {fp : List Addr} (hl : vs.length = ds.length) (C : Cfg K Fz H (ds.map some ++ s) (vs.map some ++ σ) fp) :
    ∃ Fz' f, Cfg K Fz' H s σ f ∧ RepL K Fz' H (ds.map Va.frzA) vs [] ∧ Go Fz H fp Fz' H f := by
  obtain ⟨f1, f2, rfl, a, b⟩ := C.rep.split (by simp [hl])
  have nd := List.nodup_append.mp C.nd
  have rl := temps_rep hl a
  refine ⟨fun x => Fz x ∨ x ∈ f1, f2, ⟨b.keep (fun _ h => .inl h) (fun _ _ _ h => h) fun _ _ _ h => h, nd.2.1, fun x h z => ?_, fun x z => ?_⟩, rl.frzA (fun _ h => .inl h) fun x h => .inr h, ⟨fun _ _ h _ => h, fun _ h => h, fun _ h => .inl h, fun x z => ?_, fun x h => .inl (List.mem_append_right _ h)⟩⟩
  · rcases z with z | z
    · exact C.fz x (List.mem_append_right _ h) z
    · exact nd.2.2 x z x h rfl
  · rcases z with z | z
    · exact C.ft x z
    · exact a.there x z
  · rcases z with z | z
    · exact .inl z
    · exact .inr (.inl (List.mem_append_left _ z))
theorem se_tup {es : List Expr} {m : M (List D)} {k pos} (h : SA Γ Φ es m) : SE Γ Φ (.Tuple es k pos) (mTup m) := fun X o => pe_imp (pe_tup (h X o)) fun σ H Q q => by
  obtain ⟨Fz, fp, st, C, d, st', e, k⟩ := q
  unfold mTup at e
  split at e
  · rename_i ds s hm
    split at e
    · rename_i hz
      cases e
      refine ⟨Fz, fp, st, C, _, _, hm, fun vs H1 Fz1 fp1 hl C1 g1 => ⟨by rw [hl, ← LN_eq]; exact Nat.le_of_ble_eq_true hz, ?_⟩⟩
      obtain ⟨F2, f2, C2, r2, g2⟩ := C1.frzTemps hl
      exact fin_tup (T := []) (TV := []) k rfl C2 (g1.trans g2) r2
    · cases e
  · cases e
theorem se_lst {es : List Expr} {m : M (List D)} {pos} (h : SA Γ Φ es m) : SE Γ Φ (.List es pos) (mLst m) := fun X o => pe_imp (pe_lst (h X o)) fun σ H Q q => by
  obtain ⟨Fz, fp, st, C, d, st', e, k⟩ := q
  unfold mLst at e
  split at e
  · rename_i ds s hm
    split at e
    · rename_i hz
      cases e
      refine ⟨Fz, fp, st, C, _, _, hm, fun vs H1 Fz1 fp1 hl C1 g1 => ⟨by rw [hl, ← LN_eq]; exact Nat.le_of_ble_eq_true hz, fun p hp => ?_⟩⟩
      obtain ⟨f1, f2, rfl, a, b⟩ := C1.rep.split (by simp [hl])
      have rl := temps_rep hl a
      have kk : ∀ {a u}, H1 a = some u → upd H1 p (.lst vs) a = some u := fun {a u} e => by rw [upd_ne (ne_of_none e hp)]; exact e
      have np : p ∉ f1 ++ f2 := fun q => C1.there p q hp
      refine k (.ref p) _ Fz1 (p :: (f1 ++ f2)) ⟨?_, List.nodup_cons.mpr ⟨np, C1.nd⟩, fun a h z => ?_, fun a z => ?_⟩ (g1.trans ⟨fun a u e _ => kk e, fun a e => ?_, fun _ h => h, fun _ h => .inl h, fun a h => ?_⟩)
      · exact RepS.cons (f := p :: f1) (.som (.lstO upd_same (rl.keep (fun _ h => h) (fun _ _ _ e => kk e) fun _ _ _ e => kk e))) (b.keep (fun _ h => h) (fun _ _ _ e => kk e) fun _ _ _ e => kk e)
      · rcases List.mem_cons.mp h with rfl | h
        · exact C1.ft _ z hp
        · exact C1.fz a h z
      · by_cases e : a = p
        · subst e; exact absurd hp (C1.ft _ z)
        · rw [upd_ne e]; exact C1.ft a z
      · by_cases e' : a = p
        · rw [e']; exact hp
        · rw [upd_ne e'] at e; exact e
      · rcases List.mem_cons.mp h with rfl | h
        · exact .inr hp
        · exact .inl h
    · cases e
  · cases e

/-! ### built-in calls of one argument -/
theorem se_b1 {x : Str} {id : String} {e : Expr} {o1 : Opd} {f : D → Option D} {p pos : Pos} (hr : ∀ X : Cx, X.A.units + 100 < cLine → X.calm = true → ∃ r, CallR X (.builtin id) r ∧ R1Snd X.K (fun x H Q => r [x] H Q) f) (hv : bootBuiltins x = some (.builtin id))
    (hb : ∀ g, Φ g → g.mg x = none) (he : SO Γ Φ e o1) (hg : gGl Γ.sc x = true := by rfl) (ns : NoStar e := by intro _ _; rfl) (hn : x ≠ "__name__" := by decide) (hd : (x == ("__debug__" : Str)) = false := by decide) : SE Γ Φ (.Call (.Name x p) [e] [] pos) (m1 o1 f) := fun X o => by
  obtain ⟨r, h1, h2⟩ := hr X o.hu o.calm
  exact pe_imp (pe_callB h1 (o.gl hg) (hb _ o.phi) hv (pa_cons (he X o) pa_nil (ns _ _)) hn hd (ns _ _)) fun σ H Q q => one (r := fun x H Q => r [x] H Q) h2 q
theorem se_t1 {x : Str} {T : String} {e : Expr} {o1 : Opd} {f : D → Option D} {p pos : Pos} (hr : ∀ X : Cx, X.A.units + 100 < cLine → X.calm = true → ∃ r, CallR X (.type T) r ∧ R1Snd X.K (fun x H Q => r [x] H Q) f) (hv : bootBuiltins x = some (.type T))
    (hb : ∀ g, Φ g → g.mg x = none) (he : SO Γ Φ e o1) (hg : gGl Γ.sc x = true := by rfl) (ns : NoStar e := by intro _ _; rfl) (hn : x ≠ "__name__" := by decide) (hd : (x == ("__debug__" : Str)) = false := by decide) : SE Γ Φ (.Call (.Name x p) [e] [] pos) (m1 o1 f) := fun X o => by
  obtain ⟨r, h1, h2⟩ := hr X o.hu o.calm
  exact pe_imp (pe_callTy h1 (o.gl hg) (hb _ o.phi) hv (pa_cons (he X o) pa_nil (ns _ _)) hn hd (ns _ _)) fun σ H Q q => one (r := fun x H Q => r [x] H Q) h2 q
end

def lenF : D → Option D
  | .tup xs => some (.int xs.length)
  | .rol xs => some (.int xs.length)
  | .lst _ xs => some (.int xs.length)
  | .dic _ xs => some (.int xs.length)
  | _ => none
theorem callr_or {X : Cx} {f : Value} {r r' : List V → Hp → VK → Prop} (h : CallR X f r) (h' : CallR X f r') : CallR X f (fun xs H Q => r xs H Q ∨ r' xs H Q) := fun pins s σ H xs us Q I rv q => q.elim (fun q => h pins s σ H xs us Q I rv q) fun q => h' pins s σ H xs us Q I rv q
theorem b_len {X : Cx} : ∃ r, CallR X (.builtin "len") r ∧ R1Snd X.K (fun x H Q => r [x] H Q) lenF := ⟨_, callr_or call_len L2.call_lenD, by
  intro Fz H fp σ s T TV Fz2 H2 fp2 a x fa z Q e hl C g ra k
  unfold lenF at e
  split at e
  · cases e
    obtain ⟨p, vs, rfl, hp, r⟩ := ra.tupl
    rw [r.length] at k
    exact .inl ⟨_, vs.length, rfl, .inr ⟨vs, .inl (.inl hp), rfl⟩, fin_atom k hl C g (.int _)⟩
  · cases e
    cases ra with
    | rol q r =>
      rw [r.length] at k
      exact .inl ⟨_, _, rfl, .inl ⟨_, q.sq, rfl⟩, fin_atom k hl C g (.int _)⟩
  · cases e
    obtain ⟨p, vs, f', rfl, hp, r, _⟩ := ra.lst
    rw [r.length] at k
    exact .inl ⟨_, _, rfl, .inl ⟨_, .inl (.inl hp), rfl⟩, fin_atom k hl C g (.int _)⟩
  · cases e
    obtain ⟨p, vs, f', rfl, hp, r, _⟩ := ra.dic
    rw [r.length] at k
    exact .inr ⟨_, _, rfl, hp, fin_atom k hl C g (.int _)⟩
  · cases e⟩
end Va
/-! Va9: more built-ins, items, slices, isinstance, chains -/
namespace Va
open PySem PySem.Spec PyProof.Rows L2

def toBools : List D → Option (List Bool)
  | [] => some []
  | .bl i :: r => match toBools r with
    | some l => some (i :: l)
    | none => none
  | _ => none
theorem toBools_map {K : PySem.W.Frag} {Fz : Addr → Prop} {H : Hp} : ∀ {xs ns vs f}, toBools xs = some ns → RepL K Fz H xs vs f → vs = ns.map V.bl
  | [], _, _, _, h, .nil => by cases h; rfl
  | x :: r, _, _, _, h, .cons rx s => by
    cases x with
    | bl i =>
      simp only [toBools] at h
      split at h
      · rename_i l hl
        cases h
        rw [toBools_map hl s, rx.bli]; rfl
      · cases h
    | _ => simp [toBools] at h
/-- a list's items (a list alone) -/
def lstOf : D → Option (List D)
  | .rol xs => some xs
  | .lst _ xs => some xs
  | _ => none
theorem Rep.lstOf {K : PySem.W.Frag} {Fz : Addr → Prop} {H : Hp} {d v f xs} (r : Rep K Fz H d v f) (h : Va.lstOf d = some xs) : ∃ a vs f', v = .ref a ∧ SqL K H a vs ∧ RepL K Fz H xs vs f' ∧ ∀ x ∈ f', x ∈ f := by
  cases r <;> simp [Va.lstOf] at h
  · subst h; rename_i q r; exact ⟨_, _, _, rfl, q.sq, r, fun _ h => h⟩
  · subst h; rename_i q z r; exact ⟨_, _, _, rfl, .inl (.inl q), r, fun _ h => nomatch h⟩
  · subst h; rename_i q r; exact ⟨_, _, _, rfl, .inl (.inl q), r, fun _ h => List.mem_cons_of_mem _ h⟩
def isum : List Int → Int
  | [] => 0
  | x :: xs => x + isum xs
theorem isum_sum : ∀ ns : List Int, isum ns = ns.sum
  | [] => rfl
  | x :: xs => by rw [isum, isum_sum xs, List.sum_cons]
def imax (x : Int) : List Int → Int
  | [] => x
  | y :: ys => imax (if x < y then y else x) ys
def imin (x : Int) : List Int → Int
  | [] => x
  | y :: ys => imin (if y < x then y else x) ys
theorem imax_spec : ∀ (ys : List Int) (x : Int), imax x ys ∈ x :: ys ∧ ∀ y ∈ x :: ys, y ≤ imax x ys
  | [], x => by simp [imax]
  | y :: ys, x => by
    unfold imax
    by_cases h : x < y
    · rw [if_pos h]
      obtain ⟨h1, h2⟩ := imax_spec ys y
      have h3 := h2 _ (List.mem_cons_self ..)
      exact ⟨List.mem_cons_of_mem _ h1, fun z hz => (List.mem_cons.mp hz).elim (fun e => by rw [e]; omega) (h2 z)⟩
    · rw [if_neg h]
      obtain ⟨h1, h2⟩ := imax_spec ys x
      have h3 := h2 _ (List.mem_cons_self ..)
      refine ⟨?_, fun z hz => ?_⟩
      · rcases List.mem_cons.mp h1 with e | e
        · rw [e]; exact List.mem_cons_self ..
        · exact List.mem_cons_of_mem _ (List.mem_cons_of_mem _ e)
      · rcases List.mem_cons.mp hz with e | e
        · rw [e]; exact h3
        · rcases List.mem_cons.mp e with e | e
          · rw [e]; omega
          · exact h2 z (List.mem_cons_of_mem _ e)
theorem imin_spec : ∀ (ys : List Int) (x : Int), imin x ys ∈ x :: ys ∧ ∀ y ∈ x :: ys, imin x ys ≤ y
  | [], x => by simp [imin]
  | y :: ys, x => by
    unfold imin
    by_cases h : y < x
    · rw [if_pos h]
      obtain ⟨h1, h2⟩ := imin_spec ys y
      have h3 := h2 _ (List.mem_cons_self ..)
      exact ⟨List.mem_cons_of_mem _ h1, fun z hz => (List.mem_cons.mp hz).elim (fun e => by rw [e]; omega) (h2 z)⟩
    · rw [if_neg h]
      obtain ⟨h1, h2⟩ := imin_spec ys x
      have h3 := h2 _ (List.mem_cons_self ..)
      refine ⟨?_, fun z hz => ?_⟩
      · rcases List.mem_cons.mp h1 with e | e
        · rw [e]; exact List.mem_cons_self ..
        · exact List.mem_cons_of_mem _ (List.mem_cons_of_mem _ e)
      · rcases List.mem_cons.mp hz with e | e
        · rw [e]; exact h3
        · rcases List.mem_cons.mp e with e | e
          · rw [e]; omega
          · exact h2 z (List.mem_cons_of_mem _ e)
def intsF (f : List Int → Option D) (d : D) : Option D := match lstOf d with
  | some xs => match toInts xs with
    | some ns => f ns
    | none => none
  | none => none
def boolsF (f : List Bool → D) (d : D) : Option D := match lstOf d with
  | some xs => match toBools xs with
    | some ns => some (f ns)
    | none => none
  | none => none
def sumF := intsF fun ns => some (.int (isum ns))
def maxF := intsF fun | [] => none | n :: ns => some (.int (imax n ns))
def minF := intsF fun | [] => none | n :: ns => some (.int (imin n ns))
def allF := boolsF fun bs => .bl (bs.all id)
def anyF := boolsF fun bs => .bl (bs.any id)
theorem snd_ints {K : PySem.W.Frag} {r : List V → Hp → VK → Prop} {f : List Int → Option D} (h : ∀ {H a ns z Q}, f ns = some z → SqL K H a (ns.map V.int) → (∀ v, (∀ Fz, Rep K Fz H z v []) → Q v H) → r [.ref a] H Q) : R1Snd K (fun x H Q => r [x] H Q) (intsF f) := by
  intro Fz H fp σ s T TV Fz2 H2 fp2 a x fa z Q e hl C g ra k
  unfold intsF at e
  split at e
  · rename_i xs hx
    split at e
    · rename_i ns hn
      obtain ⟨p, vs, f', rfl, sq, rl, _⟩ := ra.lstOf hx
      have := toInts_map hn rl
      subst this
      exact h e sq fun v rv => fin_atom k hl C g (rv _)
    · cases e
  · cases e
theorem snd_bools {K : PySem.W.Frag} {r : List V → Hp → VK → Prop} {f : List Bool → D} (h : ∀ {H a ns Q}, SqL K H a (ns.map V.bl) → (∀ v, (∀ Fz, Rep K Fz H (f ns) v []) → Q v H) → r [.ref a] H Q) : R1Snd K (fun x H Q => r [x] H Q) (boolsF f) := by
  intro Fz H fp σ s T TV Fz2 H2 fp2 a x fa z Q e hl C g ra k
  unfold boolsF at e
  split at e
  · rename_i xs hx
    split at e
    · rename_i ns hn
      cases e
      obtain ⟨p, vs, f', rfl, sq, rl, _⟩ := ra.lstOf hx
      have := toBools_map hn rl
      subst this
      exact h sq fun v rv => fin_atom k hl C g (rv _)
    · cases e
  · cases e
section
variable {X : Cx}
theorem b_sum (hc : X.calm = true) : ∃ r, CallR X (.builtin "sum") r ∧ R1Snd X.K (fun x H Q => r [x] H Q) sumF := ⟨_, cr_sum hc, snd_ints fun {H a ns z Q} e sq k => by
  cases e
  refine ⟨a, ns, rfl, sq, ?_⟩
  rw [← isum_sum]
  exact k _ fun _ => .int _⟩
theorem b_max (hc : X.calm = true) : ∃ r, CallR X (.builtin "max") r ∧ R1Snd X.K (fun x H Q => r [x] H Q) maxF := ⟨_, cr_max hc, snd_ints fun {H a ns z Q} e sq k => by
  cases ns with
  | nil => cases e
  | cons n ns =>
    cases e
    refine ⟨a, n :: ns, rfl, sq, by simp, fun m hm hb => ?_⟩
    obtain ⟨h1, h2⟩ := imax_spec ns n
    have : m = imax n ns := Int.le_antisymm (h2 m hm) (hb _ h1)
    subst this
    exact k _ fun _ => .int _⟩
theorem b_min (hc : X.calm = true) : ∃ r, CallR X (.builtin "min") r ∧ R1Snd X.K (fun x H Q => r [x] H Q) minF := ⟨_, cr_min hc, snd_ints fun {H a ns z Q} e sq k => by
  cases ns with
  | nil => cases e
  | cons n ns =>
    cases e
    refine ⟨a, n :: ns, rfl, sq, by simp, fun m hm hb => ?_⟩
    obtain ⟨h1, h2⟩ := imin_spec ns n
    have : m = imin n ns := Int.le_antisymm (hb _ h1) (h2 m hm)
    subst this
    exact k _ fun _ => .int _⟩
theorem b_all (hc : X.calm = true) : ∃ r, CallR X (.builtin "all") r ∧ R1Snd X.K (fun x H Q => r [x] H Q) allF := ⟨_, cr_all hc, snd_bools fun {H a ns Q} sq k => ⟨a, ns, rfl, sq, k _ fun _ => .bl _⟩⟩
theorem b_any (hc : X.calm = true) : ∃ r, CallR X (.builtin "any") r ∧ R1Snd X.K (fun x H Q => r [x] H Q) anyF := ⟨_, cr_any hc, snd_bools fun {H a ns Q} sq k => ⟨a, ns, rfl, sq, k _ fun _ => .bl _⟩⟩
theorem b_sorted (hu : X.A.units + 100 < cLine) : ∃ r, CallR X (.builtin "sorted") r ∧ R1Snd X.K (fun x H Q => r [x] H Q) sortLF := ⟨_, cr_sortD hu, snd_sort⟩
def absF : D → Option D
  | .int i => some (.int (if i < 0 then -i else i))
  | _ => none
theorem b_abs : ∃ r, CallR X (.builtin "abs") r ∧ R1Snd X.K (fun x H Q => r [x] H Q) absF := ⟨_, call_abs, by
  intro Fz H fp σ s T TV Fz2 H2 fp2 a x fa z Q e hl C g ra k
  unfold absF at e
  split at e
  · cases e; exact ⟨_, by rw [ra.inti], fin_atom k hl C g (.int _)⟩
  · cases e⟩
def intcF : D → Option D
  | .int i => some (.int i)
  | .bl b => some (.int (if b then 1 else 0))
  | _ => none
theorem b_int : ∃ r, CallR X (.type "int") r ∧ R1Snd X.K (fun x H Q => r [x] H Q) intcF := ⟨_, call_int1, by
  intro Fz H fp σ s T TV Fz2 H2 fp2 a x fa z Q e hl C g ra k
  unfold intcF at e
  split at e
  · cases e; exact .inl ⟨_, by rw [ra.inti], fin_atom k hl C g (.int _)⟩
  · cases e; exact .inr ⟨_, by rw [ra.bli], fin_atom k hl C g (.int _)⟩
  · cases e⟩
def tupcF : D → Option D
  | .tup xs => some (.tup xs)
  | .rol xs => some (.tup xs)
  | .lst _ xs => match xs.all imm with
    | true => some (.tup xs)
    | false => none
  | _ => none
def lstcF (d : D) : Option D := match seqOf d with
  | some (_, xs) => match xs.all imm with
    | true => some (.lst true xs)
    | false => none
  | none => none
theorem b_tuple : ∃ r, CallR X (.type "tuple") r ∧ R1Snd X.K (fun x H Q => r [x] H Q) tupcF := ⟨_, call_tuple_of, by
  intro Fz H fp σ s T TV Fz2 H2 fp2 a x fa z Q e hl C g ra k
  unfold tupcF at e
  split at e
  · cases e
    obtain ⟨p, vs, rfl, hp, r⟩ := ra.tupl
    exact ⟨p, vs, rfl, .inr ⟨.inl (.inl hp), fin_atom k hl C g ra.fz0⟩⟩
  · cases e
    cases ra with
    | rol q r => exact ⟨_, _, rfl, .inl ⟨q.sq, fin_tup k hl C g r⟩⟩
  · split at e
    · rename_i hi
      cases e
      obtain ⟨p, vs, f', rfl, hp, r, _⟩ := ra.lst
      have := r.imm hi
      subst this
      exact ⟨_, _, rfl, .inl ⟨.inl (.inl hp), fin_tup k hl C g r⟩⟩
    · cases e
  · cases e⟩
theorem b_list : ∃ r, CallR X (.type "list") r ∧ R1Snd X.K (fun x H Q => r [x] H Q) lstcF := ⟨_, call_list_of, by
  intro Fz H fp σ s T TV Fz2 H2 fp2 a x fa z Q e hl C g ra k
  unfold lstcF at e
  split at e
  · rename_i b xs hq
    split at e
    · rename_i hi
      cases e
      obtain ⟨p, vs, rfl, r, sq⟩ := ra.seq hq hi
      exact ⟨p, vs, rfl, by cases b; exact .inl sq; exact .inr sq, fin_lst k hl C g r⟩
    · cases e
  · cases e⟩
end

/-! ### range as a value -/
def rgD (a b : Int) : List D := (List.range (b - a).toNat).map fun i => .int (a + (i : Nat))
theorem rgD_rep {K : PySem.W.Frag} {Fz : Addr → Prop} {H : Hp} (a b : Int) : RepL K Fz H (rgD a b) (rgV a b) [] := by
  unfold rgD rgV
  generalize List.range (b - a).toNat = l
  induction l with
  | nil => exact .nil
  | cons x l ih => exact .cons (f := []) (g := []) (.int _) ih
def rgOk : Int → Int → Bool
  | .ofNat x, .ofNat y => Nat.ble x 16777216 && Nat.ble y 16777216
  | _, _ => false
theorem rgOk_and {a b : Int} (h : rgOk a b = true) : 0 ≤ a ∧ b ≤ 16777216 ∧ a ≤ 16777216 ∧ 0 ≤ b := by
  unfold rgOk at h
  split at h
  · simp only [Bool.and_eq_true] at h
    have h1 := Nat.le_of_ble_eq_true h.1
    have h2 := Nat.le_of_ble_eq_true h.2
    simp only [Int.ofNat_eq_natCast]
    omega
  · cases h
theorem rgOk_of {n : Int} (h : 0 ≤ n) (h2 : n ≤ 16777216) : rgOk 0 n = true := by
  cases n with
  | ofNat n =>
    simp only [Int.ofNat_eq_natCast] at h2
    show (Nat.ble 0 16777216 && Nat.ble n 16777216) = true
    rw [Nat.ble_eq_true_of_le (by omega), Nat.ble_eq_true_of_le (by omega)]
    rfl
  | negSucc n => omega
theorem rgOk_ok {a b : Int} (h : rgOk a b = true) : RgOk a b := by
  have := rgOk_and h
  exact RgOk.of_le this.1 this.2.1 this.2.2.1 this.2.2.2
def rg1F (mk : List D → D) : D → Option D
  | .int n => match rgOk 0 n with
    | true => some (mk (rgD 0 n))
    | false => none
  | _ => none
section
variable {Γ : Gam} {Φ : GCx → Prop}
theorem se_tupRg {e : Expr} {o1 : Opd} {p pos p2 pos2 : Pos} (he : SO Γ Φ e o1) (hb : ∀ g, Φ g → g.mg "tuple" = none) (hb2 : ∀ g, Φ g → g.mg "range" = none) (hg : gGl Γ.sc "tuple" = true := by rfl) (hg2 : gGl Γ.sc "range" = true := by rfl) (ns : NoStar e := by intro _ _; rfl) :
    SE Γ Φ (.Call (.Name "tuple" p) [.Call (.Name "range" p2) [e] [] pos2] [] pos) (m1 o1 (rg1F .tup)) := fun X o =>
  pe_imp (pe_tupRg o.calm (o.gl hg) (hb _ o.phi) (prg_1 (o.gl hg2) (hb2 _ o.phi) (he X o) (ns _ _)) rfl) fun σ H Q q => one (r := fun x H Q => ∃ n, x = .int n ∧ RgOk 0 n ∧ ∀ q, H q = none → Q (.ref q) (upd H q (.tup (rgV 0 n)))) (fun {Fz H fp σ s T TV Fz2 H2 fp2 a x fa z Q} e hl C g ra k => by
    unfold rg1F at e
    split at e
    · split at e
      · rename_i n _ hn
        cases e
        exact ⟨n, ra.inti, rgOk_ok hn, fin_tup k hl C g (rgD_rep 0 n)⟩
      · cases e
    · cases e) q
theorem se_lstRg {e : Expr} {o1 : Opd} {p pos p2 pos2 : Pos} (he : SO Γ Φ e o1) (hb : ∀ g, Φ g → g.mg "list" = none) (hb2 : ∀ g, Φ g → g.mg "range" = none) (hg : gGl Γ.sc "list" = true := by rfl) (hg2 : gGl Γ.sc "range" = true := by rfl) (ns : NoStar e := by intro _ _; rfl) :
    SE Γ Φ (.Call (.Name "list" p) [.Call (.Name "range" p2) [e] [] pos2] [] pos) (m1 o1 (rg1F (.lst true))) := fun X o =>
  pe_imp (pe_listRg o.calm (o.gl hg) (hb _ o.phi) (prg_1 (o.gl hg2) (hb2 _ o.phi) (he X o) (ns _ _)) rfl) fun σ H Q q => one (r := fun x H Q => ∃ n, x = .int n ∧ RgOk 0 n ∧ ∀ q, H q = none → Q (.ref q) (upd H q (.lst (rgV 0 n)))) (fun {Fz H fp σ s T TV Fz2 H2 fp2 a x fa z Q} e hl C g ra k => by
    unfold rg1F at e
    split at e
    · split at e
      · rename_i n _ hn
        cases e
        exact ⟨n, ra.inti, rgOk_ok hn, fin_lst k hl C g (rgD_rep 0 n)⟩
      · cases e
    · cases e) q

/-! ### items and slices -/
def immO : Option D → Option D
  | some d => match imm d with
    | true => some d
    | false => none
  | none => none
def isDic : D → Bool
  | .dic _ _ => true
  | _ => false
def ixS (d k : D) : Option D := match seqOf d, k with
  | some (_, xs), .int i => immO (atI xs i)
  | _, _ => none
def ixK (d k : D) : Option D := match d with
  | .dic _ kvs => match keyD k with
    | some _ => immO (lookD kvs k)
    | none => none
  | _ => none
def ixF (d k : D) : Option D := match isDic d with
  | true => ixK d k
  | false => ixS d k
theorem RepL.get {K : PySem.W.Frag} {Fz : Addr → Prop} {H : Hp} : ∀ {xs vs f} {j : Nat} {x : D}, RepL K Fz H xs vs f → xs[j]? = some x → ∃ y g, vs[j]? = some y ∧ Rep K Fz H x y g ∧ ∀ a ∈ g, a ∈ f
  | [], _, _, _, _, _, h => by simp at h
  | _ :: _, _, _, 0, _, .cons r s, h => by simp at h; subst h; exact ⟨_, _, rfl, r, fun a h => List.mem_append_left _ h⟩
  | _ :: _, _, _, j + 1, _, .cons r s, h => by
    obtain ⟨y, g, e, r', hg⟩ := RepL.get (j := j) s (by simpa using h)
    exact ⟨y, g, by simpa using e, r', fun a h => List.mem_append_right _ (hg a h)⟩
theorem atI_rep {K : PySem.W.Frag} {Fz : Addr → Prop} {H : Hp} {xs vs f} (r : RepL K Fz H xs vs f) {i : Int} {x : D} (h : atI xs i = some x) : ∃ y g, atI vs i = some y ∧ Rep K Fz H x y g ∧ ∀ a ∈ g, a ∈ f := by
  unfold atI at h ⊢
  rw [← r.length]
  cases hj : ixN xs.length i with
  | none => rw [hj] at h; cases h
  | some j =>
    rw [hj] at h
    have h : xs[j]? = some x := h
    show ∃ y g, vs[j]? = some y ∧ _
    exact r.get h
theorem immO_some {o : Option D} {d : D} (h : immO o = some d) : o = some d ∧ imm d = true := by
  unfold immO at h
  split at h
  · split at h
    · cases h; exact ⟨rfl, by assumption⟩
    · cases h
  · cases h
theorem snd_ixK {K : PySem.W.Frag} {Fz : Addr → Prop} {H : Hp} {fp} {σ : List (Option V)} {s : S} {T TV Fz2 H2 fp2 a b x y fa fb z} {Q : VK} (e : ixK a b = some z) (hl : T.length = TV.length) (C : Cfg K Fz2 H2 (T ++ s) (TV ++ σ) fp2)
    (g : Go Fz H fp Fz2 H2 fp2) (ra : Rep K Fz2 H2 a x fa) (rb : Rep K Fz2 H2 b y fb) (k : Fin1 K Fz H fp σ z s Q) : ∃ p v, x = .ref p ∧ DGet H2 p y (some v) ∧ Q v H2 := by
  unfold ixK at e
  split at e
  · split at e
    · rename_i kk hk
      obtain ⟨e1, e2⟩ := immO_some e
      have e3 := keyD_v hk rb
      subst e3
      obtain ⟨p, ov, rfl, dg, h⟩ := dget_of ra hk
      rcases h with ⟨h1, _⟩ | ⟨x, v, f', h1, h2, r, _⟩
      · rw [h1] at e1; cases e1
      · rw [h1] at e1
        cases e1
        have := r.imm e2
        subst this
        subst h2
        exact ⟨p, v, rfl, dg, fin_atom k hl C g r⟩
    · cases e
  · cases e
theorem snd_ixS {K : PySem.W.Frag} : R2Snd K (fun x y H Q => rIxL K x y H Q ∨ rIxT K x y H Q) ixS := by
  intro Fz H fp σ s T TV Fz2 H2 fp2 a b x y fa fb z Q e hl C g ra rb k
  unfold ixS at e
  split at e
  · rename_i b xs i hq
    obtain ⟨e1, e2⟩ := immO_some e
    have e3 := rb.inti
    subst e3
    have fin : ∀ {p vs f}, x = .ref p → RepL K Fz2 H2 xs vs f → (SqL K H2 p vs ∨ SqT K H2 p vs) → rIxL K x (.int i) H2 Q ∨ rIxT K x (.int i) H2 Q := fun {p vs f} ex rl sq => by
      obtain ⟨v, g', ev, rv, _⟩ := atI_rep rl e1
      have := rv.imm e2
      subst this
      rcases sq with sq | sq
      · exact .inl ⟨p, vs, i, v, ex, rfl, sq, ev, fin_atom k hl C g rv⟩
      · exact .inr ⟨p, vs, i, v, ex, rfl, sq, ev, fin_atom k hl C g rv⟩
    cases ra with
    | tup q z r => simp [seqOf] at hq; obtain ⟨_, rfl⟩ := hq; exact fin rfl r (.inr (.inl (.inl q)))
    | rol q r => simp [seqOf] at hq; obtain ⟨_, rfl⟩ := hq; exact fin rfl r (.inl q.sq)
    | lstF q z r => simp [seqOf] at hq; obtain ⟨_, rfl⟩ := hq; exact fin rfl r (.inl (.inl (.inl q)))
    | lstO q r => simp [seqOf] at hq; obtain ⟨_, rfl⟩ := hq; exact fin rfl r (.inl (.inl (.inl q)))
    | _ => simp [seqOf] at hq
  · cases e
theorem pe_or {X : Cx} {e : Expr} {t t' : TE} (h : PE X e t) (h' : PE X e t') : PE X e (fun σ H Q => t σ H Q ∨ t' σ H Q) := ⟨fun pins s σ H Q I q => q.elim (h.run pins s σ H Q I) (h'.run pins s σ H Q I)⟩
/-- what a two-operand evaluation comes to, whatever the readings are -/
theorem two' {K : PySem.W.Frag} {o1 o2 : Opd} {f : D → D → Option D} {R : V → V → Hp → Prop} {σ H}
    {Fz : Addr → Prop} {fp : List Addr} {st : S} (C : Cfg K Fz H st σ fp) {d : D} {st' : S} (e : m2 o1 o2 f st = some (d, st')) (hs : ∀ {T TV Fz2 H2 fp2 a b x y fa fb}, f a b = some d → T.length = TV.length → Cfg K Fz2 H2 (T ++ st') (TV ++ σ) fp2 → Go Fz H fp Fz2 H2 fp2 → Rep K Fz2 H2 a x fa → Rep K Fz2 H2 b y fb → R x y H2) :
    rdO K o1 σ H fun x H1 => rdO K o2 σ H1 fun y H2 => R x y H2 := by
  unfold m2 at e
  split at e
  · rename_i r1 s1 h1
    split at e
    · rename_i r2 s2 h2
      split at e
      · rename_i a ha
        split at e
        · rename_i b hb
          split at e
          · rename_i z hz
            cases e
            refine rdO.run (P := []) (PV := []) C rfl h1 fun v H1 Fz1 fp1 T TV hT C1 g1 k1 => ?_
            refine rdO.run (P := T) (PV := TV) C1 hT h2 fun u H2 Fz2 fp2 T2 TV2 hT2 C2 g2 k2 => ?_
            obtain ⟨fa, ra, _⟩ := k1 _ _ _ T2 TV2 _ _ hT2 C2 ha
            obtain ⟨fb, rb, _⟩ := k2 _ _ _ [] [] _ _ rfl C2 hb
            refine hs (T := T2 ++ T) (TV := TV2 ++ TV) hz (by simp [hT, hT2]) ?_ (g1.trans g2) ra rb
            rw [List.append_assoc, List.append_assoc]
            exact C2
          · cases e
        · cases e
      · cases e
    · cases e
  · cases e
theorem m2_split {o1 o2 : Opd} {f : D → D → Option D} {p : D → Bool} {st : S} {d : D} {st' : S} (e : m2 o1 o2 f st = some (d, st')) : m2 o1 o2 (fun a b => match p a with | true => f a b | false => none) st = some (d, st') ∨ m2 o1 o2 (fun a b => match p a with | true => none | false => f a b) st = some (d, st') := by
  unfold m2 at e ⊢
  split at e
  · rename_i r1 s1 h1
    split at e
    · rename_i r2 s2 h2
      split at e
      · rename_i a ha
        split at e
        · rename_i b hb
          split at e
          · rename_i z hz
            cases e
            cases q : p a
            · right; simp [q, hz, h1, h2, ha, hb]
            · left; simp [q, hz, h1, h2, ha, hb]
          · cases e
        · cases e
      · cases e
    · cases e
  · cases e
theorem se_ix {a b : Expr} {o1 o2 : Opd} {pos : Pos} (ha : SO Γ Φ a o1) (hb : SO Γ Φ b o2) (hs : PlainIx b := by intro _ _; rfl) (hs2 : NoSl b := by intro _ _; rfl) : SE Γ Φ (.Subscript a b pos) (m2 o1 o2 ixF) := fun X o =>
  pe_imp (pe_or (pe_ix (ix_list.or ix_tup) (ha X o) (hb X o) hs) (pe_dget (by have := o.hu; omega) (ha X o) (hb X o) hs2)) fun σ H Q q => by
    obtain ⟨Fz, fp, st, C, d, st', e, k⟩ := q
    rcases m2_split (p := isDic) e with e | e
    · right
      refine two' C e fun {T TV Fz2 H2 fp2 a b x y fa fb} ef hT C2 g2 ra rb => ?_
      cases hd : isDic a <;> simp [hd, ixF] at ef
      exact snd_ixK ef hT C2 g2 ra rb k
    · left
      refine two' C e fun {T TV Fz2 H2 fp2 a b x y fa fb} ef hT C2 g2 ra rb => ?_
      cases hd : isDic a <;> simp [hd, ixF] at ef
      exact snd_ixS ef hT C2 g2 ra rb k
end
end Va
/-! Va10: slices, isinstance, chains -/
namespace Va
open PySem PySem.Spec PyProof.Rows L2

/-! ### slices -/
def cutD (xs : List D) (lo hi : Option Int) : List D := (xs.drop (HT.sIx xs.length 0 lo)).take (HT.sIx xs.length xs.length hi - HT.sIx xs.length 0 lo)
def slF (lo hi : Option Int) : D → Option D
  | .tup xs => some (.tup (cutD xs lo hi))
  | .rol xs => some (.lst true (cutD xs lo hi))
  | .lst _ xs => match xs.all imm with
    | true => some (.lst true (cutD xs lo hi))
    | false => none
  | _ => none
/-- a part of a slice -/
def mPart (m : Option (M D)) : M (Option Int) := fun st => match m with
  | none => some (none, st)
  | some m => match m st with
    | some (.int i, s) => some (some i, s)
    | _ => none
def mSl (o1 : Opd) (lo hi : Option (M D)) : M D := fun st => match o1.run st with
  | some (r1, s1) => match mPart lo s1 with
    | some (l, s2) => match mPart hi s2 with
      | some (h, s3) => match o1.val r1 s3 with
        | some a => match slF l h a with
          | some z => some (z, s3)
          | none => none
        | none => none
      | none => none
    | none => none
  | none => none
def rdP (K : PySem.W.Frag) : Option (M D) → TO
  | none => tNoPart
  | some m => tPart (rd K m)
def SP (Γ : Gam) (Φ : GCx → Prop) (e : Option Expr) (m : Option (M D)) : Prop := ∀ X, On Γ Φ X → PO X e (rdP X.K m)
section
variable {K : PySem.W.Frag} {Fz : Addr → Prop} {H : Hp} {st st' P : S} {σ PV : List (Option V)} {fp : List Addr}
theorem rdP.run {m : Option (M D)} {l : Option Int} {Q : Option Int → Hp → Prop} (C : Cfg K Fz H (P ++ st) (PV ++ σ) fp) (hl : P.length = PV.length) (hm : mPart m st = some (l, st'))
    (k : ∀ H' Fz' fp', Cfg K Fz' H' (P ++ st') (PV ++ σ) fp' → Go Fz H fp Fz' H' fp' → Q l H') : rdP K m σ H Q := by
  unfold mPart at hm
  split at hm
  · cases hm
    exact k H Fz fp C .refl
  · rename_i m
    split at hm
    · rename_i i s e
      cases hm
      refine rd.run C hl e fun v H' Fz' fp' C' g => ?_
      obtain ⟨v', f, e', r, _⟩ := C'.head
      cases e'
      obtain ⟨f2, C2, h2⟩ := C'.drop
      exact ⟨i, r.inti, k H' Fz' f2 C2 (g.sub h2)⟩
    · cases hm
theorem RepL.cut {xs vs} (r : RepL K Fz H xs vs []) (lo hi : Option Int) : RepL K Fz H (cutD xs lo hi) (cutV vs lo hi) [] := by
  unfold cutD cutV
  rw [← r.length]
  exact RepL.take0 _ (RepL.drop0 _ r)
end
section
variable {Γ : Gam} {Φ : GCx → Prop}
theorem sp_none : SP Γ Φ none none := fun _ _ => po_none
theorem sp_some {e : Expr} {m : M D} (h : SE Γ Φ e m) : SP Γ Φ (some e) (some m) := fun X o => po_some (h X o)
theorem cut_whole {xs : List D} {lo hi : Option Int} (h : HT.sIx xs.length 0 lo = 0 ∧ HT.sIx xs.length xs.length hi = xs.length) : cutD xs lo hi = xs := by
  unfold cutD
  rw [h.1, h.2]
  simp
theorem se_sl {e : Expr} {lo hi : Option Expr} {o1 : Opd} {ml mh : Option (M D)} {pos p2 : Pos} (he : SO Γ Φ e o1) (hl : SP Γ Φ lo ml) (hh : SP Γ Φ hi mh) : SE Γ Φ (.Subscript e (.Slice lo hi none p2) pos) (mSl o1 ml mh) := fun X o =>
  pe_imp (pe_slice (sl_tupA.or sl_list) (he X o) (hl X o) (hh X o)) fun σ H Q q => by
    obtain ⟨Fz, fp, st, C, d, st', e, k⟩ := q
    unfold mSl at e
    split at e
    · rename_i r1 s1 h1
      split at e
      · rename_i l s2 h2
        split at e
        · rename_i hh s3 h3
          split at e
          · rename_i a ha
            split at e
            · rename_i z hz
              cases e
              refine rdO.run (P := []) (PV := []) C rfl h1 fun v H1 Fz1 fp1 T TV hT C1 g1 k1 => ?_
              refine rdP.run (P := T) (PV := TV) C1 hT h2 fun H2 Fz2 fp2 C2 g2 => ?_
              refine rdP.run (P := T) (PV := TV) C2 hT h3 fun H3 Fz3 fp3 C3 g3 => ?_
              obtain ⟨fa, ra, _⟩ := k1 _ _ _ [] [] _ _ rfl C3 ha
              have g := (g1.trans g2).trans g3
              unfold slF at hz
              split at hz
              · rename_i xs
                cases hz
                obtain ⟨p, vs, rfl, hp, r⟩ := ra.tupl
                refine .inl ⟨p, vs, rfl, .inl (.inl hp), fun hw => ?_, fun _ => fin_tup k hT C3 g (r.cut l hh)⟩
                rw [← r.length] at hw
                rw [cut_whole hw] at k
                exact fin_atom k hT C3 g ra.fz0
              · cases hz
                cases ra with
                | rol q r => exact .inr ⟨_, _, rfl, q.sq, fin_lst k hT C3 g (r.cut l hh)⟩
              · split at hz
                · rename_i hi
                  cases hz
                  obtain ⟨p, vs, f', rfl, hp, r, _⟩ := ra.lst
                  have := r.imm hi
                  subst this
                  exact .inr ⟨p, vs, rfl, .inl (.inl hp), fin_lst k hT C3 g (r.cut l hh)⟩
                · cases hz
              · cases hz
            · cases e
          · cases e
        · cases e
      · cases e
    · cases e

/-! ### isinstance -/
inductive Ty where
  | int | bool | str | tuple | list | dict
  deriving DecidableEq
def Ty.name : Ty → String
  | .int => "int" | .bool => "bool" | .str => "str" | .tuple => "tuple" | .list => "list" | .dict => "dict"
def tyName : D → String
  | .non => "NoneType" | .bl _ => "bool" | .int _ => "int" | .str _ => "str" | .tup _ => "tuple" | .rol _ => "list" | .lst _ _ => "list" | .dic _ _ => "dict"
def isOne (T : Ty) : D → Bool
  | .non => false
  | .bl _ => T = .bool ∨ T = .int
  | .int _ => T = .int
  | .str _ => T = .str
  | .tup _ => T = .tuple
  | .rol _ => T = .list
  | .lst _ _ => T = .list
  | .dic _ _ => T = .dict
theorem kit_non : ∀ T : Ty, kitB "NoneType" T.name = some false := by intro T; cases T <;> decide +kernel
theorem kit_bool : ∀ T : Ty, kitB "bool" T.name = some (decide (T = .bool ∨ T = .int)) := by intro T; cases T <;> decide +kernel
theorem kit_int : ∀ T : Ty, kitB "int" T.name = some (decide (T = .int)) := by intro T; cases T <;> decide +kernel
theorem kit_str : ∀ T : Ty, kitB "str" T.name = some (decide (T = .str)) := by intro T; cases T <;> decide +kernel
theorem kit_tup : ∀ T : Ty, kitB "tuple" T.name = some (decide (T = .tuple)) := by intro T; cases T <;> decide +kernel
theorem kit_lst : ∀ T : Ty, kitB "list" T.name = some (decide (T = .list)) := by intro T; cases T <;> decide +kernel
theorem kit_dic : ∀ T : Ty, kitB "dict" T.name = some (decide (T = .dict)) := by intro T; cases T <;> decide +kernel
theorem isOne_kit {K : PySem.W.Frag} (T : Ty) (d : D) : PySem.W.kitOne K (.type (tyName d)) (.type T.name) = some (isOne T d) := by
  apply kit_ty
  cases d
  · exact kit_non T
  · exact kit_bool T
  · exact kit_int T
  · exact kit_str T
  · exact kit_tup T
  · exact kit_lst T
  · exact kit_lst T
  · exact kit_dic T
theorem Rep.ty {K : PySem.W.Frag} {Fz : Addr → Prop} {H : Hp} {d v f} (r : Rep K Fz H d v f) : TyX K H v (.type (tyName d)) := by
  cases r with
  | non => exact .base .non
  | bl b => exact .base (.bl b)
  | int i => exact .base (.int i)
  | str x => exact .base (.str x)
  | tup q z r => exact .base (.tup q)
  | rol q r =>
    rcases q with ⟨q | ⟨o, q⟩, _⟩ | ⟨o, its, n, hk, hc, _⟩
    · exact .base (.lst q)
    · exact .base (.frz q)
    · exact .kList hk hc
  | lstF q z r => exact .base (.lst q)
  | lstO q r => exact .base (.lst q)
  | dicF q z r => exact .base (.dK q)
  | dicO q r => exact .base (.dK q)
def isiF (T : Ty) (d : D) : Option D := some (.bl (isOne T d))
def isi2F (T U : Ty) (d : D) : Option D := some (.bl (isOne T d || isOne U d))
theorem Ty.boot : ∀ T : Ty, bootBuiltins (Str.ofString T.name) = some (.type T.name) := by
  intro T
  cases T <;> decide +kernel
theorem se_isi {T : Ty} {x : Str} {e : Expr} {o1 : Opd} {p p1 pos : Pos} (he : SO Γ Φ e o1) (hx : x = Str.ofString T.name) (hb : ∀ g, Φ g → g.mg "isinstance" = none) (hb2 : ∀ g, Φ g → g.mg x = none) (hg : gGl Γ.sc "isinstance" = true := by rfl) (hg2 : gGl Γ.sc x = true := by rfl) (ns : NoStar e := by intro _ _; rfl)
    (hn : x ≠ "__name__" := by decide) (hd : (x == ("__debug__" : Str)) = false := by decide) : SE Γ Φ (.Call (.Name "isinstance" p) [e, .Name x p1] [] pos) (m1 o1 (isiF T)) := fun X o => by
  subst hx
  refine pe_imp (pe_callB call_isi (o.gl hg) (hb _ o.phi) PyProof.Rows.boot_isinstance (pa_cons (he X o) (pa_cons (pe_bltn (v := .ty T.name) (o.gl hg2) (hb2 _ o.phi) T.boot rfl hn hd) pa_nil) (ns _ _)) (by decide) (by decide) (ns _ _)) fun σ H Q q => ?_
  refine one (r := fun x H Q => rIsi X.K [x, .ty T.name] H Q) ?_ q
  intro Fz H fp σ s T' TV Fz2 H2 fp2 a x fa z Q e hl C g ra k
  cases e
  exact ⟨x, _, _, _, _, rfl, .ty _, ra.ty, isOne_kit T a, fin_atom k hl C g (.bl _)⟩
end
/-- a heap with one more object that no datum tells -/
theorem fin_atomU {K : PySem.W.Frag} {Fz : Addr → Prop} {H : Hp} {s : S} {σ : List (Option V)} {fp : List Addr} {Fz2 H2 fp2 T TV z v Q p o} (k : Fin1 K Fz H fp σ z s Q) (hl : T.length = TV.length) (C : Cfg K Fz2 H2 (T ++ s) (TV ++ σ) fp2) (g : Go Fz H fp Fz2 H2 fp2) (hp : H2 p = none) (r : ∀ Fz H, Rep K Fz H z v []) : Q v (upd H2 p o) := by
  obtain ⟨f, C1, h⟩ := C.drops hl
  have kk : ∀ {a u}, H2 a = some u → upd H2 p o a = some u := fun {a u} e => by rw [upd_ne (ne_of_none e hp)]; exact e
  have C2 : Cfg K Fz2 (upd H2 p o) s σ f := ⟨C1.rep.keep (fun _ h => h) (fun _ _ _ e => kk e) fun _ _ _ e => kk e, C1.nd, C1.fz, fun a z e => C1.ft a z (by
    by_cases ea : a = p
    · rw [ea]; exact hp
    · rw [upd_ne ea] at e; exact e)⟩
  refine k v _ Fz2 f (C2.atom (r _ _)) (g.trans ⟨fun a u e _ => kk e, fun a e => ?_, fun _ h => h, fun _ h => .inl h, fun a q => .inl (h a q)⟩)
  by_cases ea : a = p
  · rw [ea]; exact hp
  · rw [upd_ne ea] at e; exact e
section
variable {Γ : Gam} {Φ : GCx → Prop}
theorem kitAny2 {K : PySem.W.Frag} (T U : Ty) (d : D) : PySem.W.kitAny K (.type (tyName d)) [.type T.name, .type U.name] = some (isOne T d || isOne U d) := by
  refine kitAny_cons (isOne_kit T d) (fun h => ?_) fun h => by rw [h]; rfl
  rw [h, Bool.false_or]
  exact kitAny_cons (isOne_kit U d) (fun h => by rw [h]; exact kitAny_nil) fun h => h
theorem se_isi2 {T U : Ty} {x y : Str} {e : Expr} {o1 : Opd} {p p1 p2 p3 pos : Pos} {kk : Nat} (he : SO Γ Φ e o1) (hx : x = Str.ofString T.name) (hy : y = Str.ofString U.name) (hb : ∀ g, Φ g → g.mg "isinstance" = none) (hb2 : ∀ g, Φ g → g.mg x = none) (hb3 : ∀ g, Φ g → g.mg y = none)
    (hg : gGl Γ.sc "isinstance" = true := by rfl) (hg2 : gGl Γ.sc x = true := by rfl) (hg3 : gGl Γ.sc y = true := by rfl) (ns : NoStar e := by intro _ _; rfl)
    (hn : x ≠ "__name__" := by decide) (hd : (x == ("__debug__" : Str)) = false := by decide) (hn2 : y ≠ "__name__" := by decide) (hd2 : (y == ("__debug__" : Str)) = false := by decide) :
    SE Γ Φ (.Call (.Name "isinstance" p) [e, .Tuple [.Name x p1, .Name y p2] kk p3] [] pos) (m1 o1 (isi2F T U)) := fun X o => by
  subst hx hy
  refine pe_imp (pe_callB call_isiT (o.gl hg) (hb _ o.phi) PyProof.Rows.boot_isinstance (pa_cons (he X o) (pa_cons (pe_tup (pa_cons (pe_bltn (v := .ty T.name) (o.gl hg2) (hb2 _ o.phi) T.boot rfl hn hd) (pa_cons (pe_bltn (v := .ty U.name) (o.gl hg3) (hb3 _ o.phi) U.boot rfl hn2 hd2) pa_nil))) pa_nil) (ns _ _)) (by decide) (by decide) (ns _ _)) fun σ H Q q => ?_
  refine one (r := fun x H Q => 2 ≤ sizeLine ∧ ∀ p, H p = none → rIsiT X.K [x, .ref p] (upd H p (.tup [.ty T.name, .ty U.name])) Q) ?_ q
  intro Fz H fp σ s T' TV Fz2 H2 fp2 a x fa z Q e hl C g ra k
  cases e
  refine ⟨by rw [sizeLine_eq]; decide, fun p hp => ⟨x, p, _, _, _, _, rfl, upd_same, .cons (.ty _) (.cons (.ty _) .nil), Rep.ty (ra.keep (fun _ h => h) (fun a u _ e => ?_) fun a u _ e => ?_), kitAny2 T U a, fin_atomU k hl C g hp fun _ _ => .bl _⟩⟩
  all_goals rw [upd_ne (ne_of_none e hp)]; exact e

/-! ### a < b < c -/
theorem two3 {K : PySem.W.Frag} {a b c : Opd} {op op' : CmpOp} {r r' : R2} (h : R2Snd K r (cmpF op)) (h' : R2Snd K r' (cmpF op')) {σ H Q} (q : rd K (mChain op op' a b c) σ H Q) : tChain r r' (rdO K a) (rdO K b) (rdO K c) σ H Q := by
  obtain ⟨Fz, fp, st, C, d', st', e, k⟩ := q
  unfold mChain at e
  split at e
  · rename_i r1 s1 h1
    split at e
    · rename_i r2 s2 h2
      split at e
      · rename_i x y hx hy
        have go : ∀ w, cmpF op x y = some w → (∀ {T TV Fz2 H2 fp2 u}, T.length = TV.length → Cfg K Fz2 H2 (T ++ s2) (TV ++ σ) fp2 → Go Fz H fp Fz2 H2 fp2 → (∀ Fz3 H3 f3 P2 P2V s3 d, P2.length = P2V.length → Cfg K Fz3 H3 (P2 ++ (T ++ s3)) (P2V ++ (TV ++ σ)) f3 → b.val r2 s3 = some d → ∃ f, Rep K Fz3 H3 d u f ∧ ∀ a ∈ f, a ∈ f3) →
            ∀ z H3, (∃ f3 Fz3, Cfg K Fz3 H3 (some w :: (T ++ s2)) (some z :: (TV ++ σ)) f3 ∧ Go Fz H fp Fz3 H3 f3) → ∃ kk, z = .bl kk ∧ if kk = true then rdO K c σ H3 fun w' H4 => r' u w' H4 Q else Q (.bl false) H3) → tChain r r' (rdO K a) (rdO K b) (rdO K c) σ H Q := fun w hw hk => by
          refine rdO.run (P := []) (PV := []) C rfl h1 fun v H1 Fz1 fp1 T TV hT C1 g1 k1 => ?_
          refine rdO.run (P := T) (PV := TV) C1 hT h2 fun u H2 Fz2 fp2 T2 TV2 hT2 C2 g2 k2 => ?_
          obtain ⟨fa, ra, _⟩ := k1 _ _ _ T2 TV2 _ _ hT2 C2 hx
          obtain ⟨fb, rb, _⟩ := k2 _ _ _ [] [] _ _ rfl C2 hy
          have C2' : Cfg K Fz2 H2 ([] ++ (T2 ++ (T ++ s2))) ([] ++ (TV2 ++ (TV ++ σ))) fp2 := C2
          refine h (Fz := Fz2) (H := H2) (fp := fp2) (σ := TV2 ++ (TV ++ σ)) (s := T2 ++ (T ++ s2)) (T := []) (TV := []) hw rfl C2' .refl ra rb fun z H3 Fz3 f3 C3 g3 => ?_
          refine hk (T := T2 ++ T) (TV := TV2 ++ TV) (by simp [hT, hT2]) (by simpa using C2) (g1.trans g2) (fun Fz3 H3 f3 P2 P2V s3 d hp C3 e3 => ?_) z H3 ⟨f3, Fz3, by simpa using C3, (g1.trans g2).trans g3⟩
          exact k2 _ _ _ P2 P2V _ _ hp (by simpa using C3) e3
        split at e
        · rename_i hw
          cases e
          refine go _ hw fun {T TV Fz2 H2 fp2 u} hT C2 g2 k2 z H3 ⟨f3, Fz3, C3, g3⟩ => ?_
          obtain ⟨v', f, e', rv, _⟩ := C3.head
          cases e'
          refine ⟨false, rv.bli, iteF ?_⟩
          obtain ⟨f4, C4, h4⟩ := C3.drop
          exact fin_atom k hT C4 (g3.sub h4) (.bl _)
        · rename_i hw
          split at e
          · rename_i r3 s3 h3
            split at e
            · rename_i y' z' hy' hz'
              split at e
              · rename_i w hw'
                cases e
                refine go _ hw fun {T TV Fz2 H2 fp2 u} hT C2 g2 k2 z H3 ⟨f3, Fz3, C3, g3⟩ => ?_
                obtain ⟨v', f, e', rv, _⟩ := C3.head
                cases e'
                refine ⟨true, rv.bli, iteT ?_⟩
                obtain ⟨f4, C4, h4⟩ := C3.drop
                refine rdO.run (P := T) (PV := TV) C4 hT h3 fun v4 H4 Fz4 fp4 T4 TV4 hT4 C5 g5 k5 => ?_
                obtain ⟨fb, rb, _⟩ := k2 _ _ _ T4 TV4 _ _ hT4 C5 hy'
                obtain ⟨fc, rc, _⟩ := k5 _ _ _ [] [] _ _ rfl C5 hz'
                refine h' (T := T4 ++ T) (TV := TV4 ++ TV) hw' (by simp [hT, hT4]) (by simpa using C5) ((g3.sub h4).trans g5) rb rc k
              · cases e
            · cases e
          · cases e
        · cases e
      · cases e
    · cases e
  · cases e
theorem se_chain {a b c : Expr} {o1 o2 o3 : Opd} {op op' : CmpOp} {pos : Pos} (ha : SO Γ Φ a o1) (hb : SO Γ Φ b o2) (hc : SO Γ Φ c o3) (hm : lastMarks [op, op'] [b, c] = false := by with_unfolding_all rfl) : SE Γ Φ (.Compare a [op, op'] [b, c] pos) (mChain op op' o1 o2 o3) := fun X o => by
  obtain ⟨r, h1, h2⟩ := cmp_all o.hu op
  obtain ⟨r', h1', h2'⟩ := cmp_all o.hu op'
  exact pe_imp (pe_chain h1 h1' (ha X o) (hb X o) (hc X o) hm) fun σ H Q q => two3 h2 h2' q
theorem st_chain {a b c : Expr} {o1 o2 o3 : Opd} {op op' : CmpOp} {pos : Pos} (ha : SO Γ Φ a o1) (hb : SO Γ Φ b o2) (hc : SO Γ Φ c o3) (hm : lastMarks [op, op'] [b, c] = false := by with_unfolding_all rfl) : ST Γ Φ (.Compare a [op, op'] [b, c] pos) (mB (mChain op op' o1 o2 o3)) := fun X o => by
  obtain ⟨r, h1, h2⟩ := cmp_all o.hu op
  obtain ⟨r', h1', h2'⟩ := cmp_all o.hu op'
  exact pt_imp (pt_chain h1 h1' (ha X o) (hb X o) (hc X o) hm) fun σ H Q q => by
    have := rd_mB q
    exact two3 h2 h2' this
end
end Va
/-! Va11: calls of defs; statements -/
namespace Va
open PySem PySem.Spec PyProof.Rows L2

def envS (sc : Scope) : Env := { scope := sc, locals := 0, globals := 0, cells := [] }
theorem sws_scope {ts : List Expr} {v : Expr} {env env' : Env} (h : env.scope = env'.scope) : swappedStores ts v env = swappedStores ts v env' := by
  have h1 : env.blockKind = env'.blockKind := by unfold Env.blockKind; rw [h]
  have h2 : env.kindOf = env'.kindOf := by funext x; unfold Env.kindOf; rw [h]
  unfold swappedStores
  rw [h1, h2]
theorem swp_scope {v : Expr} {t : Option Expr} {l : Nat} {env env' : Env} (h : env.scope = env'.scope) : swapsWith v t l env = swapsWith v t l env' := by
  have h1 : env.blockKind = env'.blockKind := by unfold Env.blockKind; rw [h]
  have h2 : env.kindOf = env'.kindOf := by funext x; unfold Env.kindOf; rw [h]
  unfold swapsWith
  rw [h1, h2, h]

/-! ### arguments of a def: an owned datum of a name is lent -/
def mTake (i : Nat) : M D := fun st => match st[i]? with
  | some (some d) => match imm d with
    | true => some (d, st)
    | false => some (d, st.set i none)
  | _ => none
section
variable {K : PySem.W.Frag} {Fz : Addr → Prop} {H : Hp} {st st' P : S} {σ PV : List (Option V)} {fp : List Addr}
theorem set_same {i : Nat} {v : Option V} (h : σ[i]? = some v) : σ.set i v = σ := by
  apply List.ext_getElem?
  intro j
  rw [List.getElem?_set]
  split
  · rename_i e; subst e
    split
    · exact h.symm
    · rename_i h2; rw [List.getElem?_eq_none (by omega)] at h; cases h
  · rfl
/-- a slot's datum is moved to the front -/
theorem Cfg.take {i : Nat} {d : D} {st' : S} (C : Cfg K Fz H st σ fp) (h : mTake i st = some (d, st')) : ∃ v fp', σ[i]? = some (some v) ∧ Cfg K Fz H (some d :: st') (some v :: σ) fp' ∧ ∀ a ∈ fp', a ∈ fp := by
  unfold mTake at h
  split at h
  · rename_i d' hd
    split at h
    · rename_i hi
      cases h
      obtain ⟨v, f, e, r, _⟩ := C.get hd
      have := r.imm hi
      subst this
      exact ⟨v, fp, e, C.atom r, fun _ h => h⟩
    · cases h
      obtain ⟨y, f, g, ey, ro, p, put⟩ := C.rep.at hd
      cases ro with
      | @som _ v _ r =>
        obtain ⟨fp', R, p'⟩ := put (Fz' := Fz) (H' := H) (fun {e w kk} _ ro => ro) (x' := none) (y' := some v) .skip
        rw [set_same ey] at R
        refine ⟨v, f ++ fp', ey, C.perm (.cons (.som r) R) ?_, fun a h => ?_⟩
        · exact ((p'.append_left f).trans (by simpa using List.Perm.refl _)).trans p.symm
        · exact p.mem_iff.mpr ((p'.append_left f).mem_iff.mp h)
  · cases h
/-- a temporary goes into its slot -/
theorem Cfg.putback {x : Option D} {v : V} {i : Nat} (hl : P.length = PV.length) (C : Cfg K Fz H (x :: (P ++ st)) (some v :: (PV ++ σ)) fp) (h : σ[i]? = some (some v)) : ∃ fp', Cfg K Fz H (P ++ st.set i x) (PV ++ σ) fp' ∧ ∀ a ∈ fp', a ∈ fp := by
  obtain ⟨R, nd, fz, ft⟩ := C
  cases R with
  | @cons _ _ f g _ _ rx s =>
    have hlen := s.length
    have hi : i < st.length := by
      have := (List.getElem?_eq_some_iff.mp h).1
      simp only [List.length_append] at hlen
      omega
    have e1 : (P ++ st)[P.length + i]? = some (st[i]) := by
      rw [List.getElem?_append_right (by omega)]
      simp [hi]
    obtain ⟨y, f1, g1, ey, ro, p, put⟩ := s.at e1
    have ey' : y = some v := by
      have : (PV ++ σ)[P.length + i]? = some (some v) := by
        rw [hl, List.getElem?_append_right (by omega)]
        simpa using h
      rw [this] at ey
      exact (Option.some.inj ey).symm
    subst ey'
    obtain ⟨fp', R, p'⟩ := put (Fz' := Fz) (H' := H) (fun {e w kk} _ ro => ro) rx
    rw [set_same ey] at R
    have e2 : (P ++ st).set (P.length + i) x = P ++ st.set i x := by
      rw [List.set_append_right _ _ (by omega)]
      simp
    rw [e2] at R
    have nd1 : (f ++ (f1 ++ g1)).Nodup := (p.append_left f).nodup_iff.mp nd
    have sub : ∀ a ∈ fp', a ∈ f ++ g := fun a h => by
      rcases List.mem_append.mp (p'.mem_iff.mp h) with q | q
      · exact List.mem_append_left _ q
      · exact List.mem_append_right _ (p.mem_iff.mpr (List.mem_append_right _ q))
    refine ⟨fp', ⟨R, p'.nodup_iff.mpr ?_, fun a h => fz a (sub a h), ft⟩, sub⟩
    have := List.nodup_append.mp nd1
    have n2 := List.nodup_append.mp this.2.1
    exact List.nodup_append.mpr ⟨this.1, n2.2.1, fun a ha b hb => this.2.2 a ha b (List.mem_append_right _ hb)⟩
end
/-- which arguments are names -/
abbrev Back := List (Option Nat)
def Links (b : List (Option Nat)) (vs : List V) (σ : List (Option V)) : Prop := ∀ (j i : Nat), b[j]? = some (some i) → ∃ v, σ[i]? = some (some v) ∧ vs[j]? = some v
def rdL (K : PySem.W.Frag) (m : M (List D)) (b : Back) : TA := fun σ H Q => ∃ Fz fp st, Cfg K Fz H st σ fp ∧ ∃ ds st', m st = some (ds, st') ∧
  ∀ vs H' Fz' fp', vs.length = ds.length → ds.length = b.length → Links b vs σ → Cfg K Fz' H' (ds.map some ++ st') (vs.map some ++ σ) fp' → Go Fz H fp Fz' H' fp' → Q vs H'
def SL (Γ : Gam) (Φ : GCx → Prop) (es : List Expr) (m : M (List D)) (b : Back) : Prop := ∀ X, On Γ Φ X → PA X es (rdL X.K m b)
def argE : Option Nat → M D → M D
  | some i, _ => mTake i
  | none, m => m
section
variable {Γ : Gam} {Φ : GCx → Prop}
theorem sl_nil : SL Γ Φ [] mNil [] := fun X o => pa_imp pa_nil fun σ H Q q => by
  obtain ⟨Fz, fp, st, C, ds, st', e, k⟩ := q
  cases e
  exact k [] H Fz fp rfl rfl (fun j i h => by simp at h) C .refl
theorem rdL_run {K : PySem.W.Frag} {Fz : Addr → Prop} {H : Hp} {st st' P : S} {σ PV : List (Option V)} {fp : List Addr} {m : M (List D)} {b : Back} {ds : List D} {Q : List V → Hp → Prop} (C : Cfg K Fz H (P ++ st) (PV ++ σ) fp) (hl : P.length = PV.length) (hm : m st = some (ds, st'))
    (k : ∀ vs H' Fz' fp', vs.length = ds.length → ds.length = b.length → Links b vs σ → Cfg K Fz' H' (ds.map some ++ (P ++ st')) (vs.map some ++ (PV ++ σ)) fp' → Go Fz H fp Fz' H' fp' → Q vs H') : rdL K m b σ H Q := by
  obtain ⟨fP, f, C0, fr⟩ := C.frame hl
  refine ⟨Fz, f, st, C0, ds, st', hm, fun vs H' Fz' fp' hv hb hL C' g => ?_⟩
  obtain ⟨fp2, C2, g2, e⟩ := fr C' g
  obtain ⟨fp3, C3, p⟩ := Cfg.rot hl (by simp [hv]) C2
  exact k vs H' Fz' fp3 hv hb hL C3 (g2.sub fun a h => p.mem_iff.mp h)
theorem Links.cons {b : Back} {vs : List V} {σ : List (Option V)} {v : V} {o : Option Nat} (h : Links b vs σ) (ho : ∀ i, o = some i → σ[i]? = some (some v)) : Links (o :: b) (v :: vs) σ := fun j i e => by
  cases j with
  | zero => simp at e; exact ⟨v, ho i e, rfl⟩
  | succ j => obtain ⟨w, h1, h2⟩ := h j i (by simpa using e); exact ⟨w, h1, by simpa using h2⟩
theorem sl_e {e : Expr} {es : List Expr} {m : M D} {r : M (List D)} {b : Back} (h : SE Γ Φ e m) (hr : SL Γ Φ es r b) (ns : NoStar e := by intro _ _; rfl) : SL Γ Φ (e :: es) (mCons m r) (none :: b) := fun X o => pa_imp (pa_cons (h X o) (hr X o) (ns _ _)) fun σ H Q q => by
  obtain ⟨Fz, fp, st, C, ds, st', e, k⟩ := q
  unfold mCons at e
  split at e
  · rename_i d s hm
    split at e
    · rename_i ds' s' hr
      cases e
      refine ⟨Fz, fp, st, C, _, _, hm, fun v H1 Fz1 fp1 C1 g1 => ?_⟩
      refine rdL_run (P := [some d]) (PV := [some v]) C1 rfl hr fun vs H2 Fz2 fp2 hl hb hL C2 g2 => ?_
      obtain ⟨f3, C3, p3⟩ := C2.float (x := some d) (y := some v) (P := ds'.map some) (PV := vs.map some) (by simp [hl])
      exact k (v :: vs) H2 Fz2 f3 (by simp [hl]) (by simp [hb]) (Links.cons (fun j i h => hL j i h) fun i h => nomatch h) C3 ((g1.trans g2).sub fun a h => p3.mem_iff.mp h)
    · cases e
  · cases e
theorem sl_v (i : Nat) {x : Str} {pos : Pos} {es : List Expr} {r : M (List D)} {b : Back} (hr : SL Γ Φ es r b) (hN : Γ.N[i]? = some x := by rfl) (hv : gVis Γ.sc x = true := by rfl) (hd : (x == ("__debug__" : Str)) = false := by decide) (hcd : (x == ("__classdict__" : Str)) = false := by decide) :
    SL Γ Φ (.Name x pos :: es) (mCons (mTake i) r) (some i :: b) := fun X o => pa_imp (pa_cons (pe_var (o.slot hN) (o.vis hv) hd hcd) (hr X o) (by rfl)) fun σ H Q q => by
  obtain ⟨Fz, fp, st, C, ds, st', e, k⟩ := q
  unfold mCons at e
  split at e
  · rename_i d s hm
    split at e
    · rename_i ds' s' hr
      cases e
      obtain ⟨v, f1, ev, C1, h1⟩ := C.take hm
      refine ⟨v, ev, ?_⟩
      refine rdL_run (P := [some d]) (PV := [some v]) C1 rfl hr fun vs H2 Fz2 fp2 hl hb hL C2 g2 => ?_
      obtain ⟨f3, C3, p3⟩ := C2.float (x := some d) (y := some v) (P := ds'.map some) (PV := vs.map some) (by simp [hl])
      exact k (v :: vs) H2 Fz2 f3 (by simp [hl]) (by simp [hb]) (Links.cons (fun j i h => hL j i h) fun i' h => by cases h; exact ev) C3 ((g2.frame h1 fun a h => .inl h).sub fun a h => p3.mem_iff.mp h)
    · cases e
  · cases e
end

/-! ### a def's promise; its call -/
/-- what a def computes: its value, and what its parameters hold at the end (where that is told) -/
abbrev Fn := List D → Option (D × List (Option D))
def spF (K : PySem.W.Frag) (n : Nat) (φ : Fn) : Sp := fun vs H Q _ => ∃ Fz fp ds, ds.length = n ∧ vs.length = n ∧ Cfg K Fz H (ds.map some) (vs.map some) fp ∧ ∃ d outs, φ ds = some (d, outs) ∧ outs.length = n ∧
  ∀ v H' Fz' fp', Cfg K Fz' H' (some d :: outs) (some v :: vs.map some) fp' → Go Fz H fp Fz' H' fp' → Q v H'
/-- a def may be called -/
structure CallOk (g : GCx) (x : Str) (n : Nat) (φ : Fn) : Prop where
  len : ∀ (ds : List D) (d : D) (outs : List (Option D)), φ ds = some (d, outs) → outs.length = n
  ex : ∃ (f : Addr) (fd : FuncData) (ps : List Str) (k : Nat), FnOk g.prog g.w g.K g.mg g.base CX0 k f fd ps (spF g.K n φ) ∧ Room k g.A ∧ g.mg x = some (.ref f) ∧ PySem.W.keepIn g.K (.ref f) = true ∧ Binds g.K fd ps []
def restore : Back → List D → List (Option D) → S → S
  | some i :: b, d :: ds, o :: outs, s => match imm d with
    | true => restore b ds outs s
    | false => restore b ds outs (s.set i o)
  | none :: b, _ :: ds, _ :: outs, s => restore b ds outs s
  | _, _, _, s => s
def mCall (φ : Fn) (m : M (List D)) (b : Back) : M D := fun st => match m st with
  | some (ds, s) => match φ ds with
    | some (d, outs) => some (d, restore b ds outs s)
    | none => none
  | none => none
theorem restore_cfg {K : PySem.W.Frag} {Fz : Addr → Prop} {H : Hp} {σ : List (Option V)} {d : D} {v : V} : ∀ {b : Back} {ds : List D} {outs : List (Option D)} {vs : List V} {s : S} {fp}, vs.length = outs.length → ds.length = outs.length → b.length = outs.length → Links b vs σ → Cfg K Fz H (some d :: (outs ++ s)) (some v :: (vs.map some ++ σ)) fp →
    ∃ fp', Cfg K Fz H (some d :: restore b ds outs s) (some v :: σ) fp' ∧ ∀ a ∈ fp', a ∈ fp
  | [], ds, [], [], s, fp, _, _, _, _, C => ⟨fp, by
      have : restore [] ds [] s = s := by cases ds <;> rfl
      rw [this]; exact C, fun _ h => h⟩
  | _ :: _, [], outs, vs, s, fp, _, h2, h3, _, C => by simp at h2 h3; omega
  | none :: b, _ :: ds, x :: outs, w :: vs, s, fp, h1, h2, h3, hL, C => by
    obtain ⟨f1, C1, p1⟩ := Cfg.float (P := [some d]) (PV := [some v]) rfl C
    obtain ⟨f2, C2, q2⟩ := C1.drop
    obtain ⟨f3, C3, q3⟩ := restore_cfg (b := b) (ds := ds) (outs := outs) (vs := vs) (by simpa using h1) (by simpa using h2) (by simpa using h3) (fun j i e => by obtain ⟨w, a, b⟩ := hL (j + 1) i (by simpa using e); exact ⟨w, a, by simpa using b⟩) C2
    exact ⟨f3, C3, fun a h => p1.mem_iff.mp (q2 a (q3 a h))⟩
  | some i :: b, e :: ds, x :: outs, w :: vs, s, fp, h1, h2, h3, hL, C => by
    have hL' : Links b vs σ := fun j i e => by obtain ⟨w, a, b⟩ := hL (j + 1) i (by simpa using e); exact ⟨w, a, by simpa using b⟩
    obtain ⟨w', hw, hw2⟩ := hL 0 i rfl
    have : w' = w := by simpa using hw2.symm
    subst this
    obtain ⟨f1, C1, p1⟩ := Cfg.float (P := [some d]) (PV := [some v]) rfl C
    unfold restore
    split
    · obtain ⟨f2, C2, q2⟩ := C1.drop
      obtain ⟨f3, C3, q3⟩ := restore_cfg (b := b) (ds := ds) (outs := outs) (vs := vs) (by simpa using h1) (by simpa using h2) (by simpa using h3) hL' C2
      exact ⟨f3, C3, fun a h => p1.mem_iff.mp (q2 a (q3 a h))⟩
    · obtain ⟨f2, C2, q2⟩ := Cfg.putback (P := some d :: outs) (PV := some v :: vs.map some) (st := s) (σ := σ) (by simpa using h1.symm) C1 hw
      obtain ⟨f3, C3, q3⟩ := restore_cfg (b := b) (ds := ds) (outs := outs) (vs := vs) (by simpa using h1) (by simpa using h2) (by simpa using h3) hL' C2
      exact ⟨f3, C3, fun a h => p1.mem_iff.mp (q2 a (q3 a h))⟩
section
variable {Γ : Gam} {Φ : GCx → Prop}
/-- f(..) -/
theorem se_call {x : Str} {n : Nat} {φ : Fn} {e : Expr} {es : List Expr} {m : M (List D)} {b : Back} {p pos : Pos} (hc : ∀ g, Φ g → CallOk g x n φ) (ha : SL Γ Φ (e :: es) m b) (hn : b.length = n := by rfl) (hg : gGl Γ.sc x = true := by rfl) (hd : (x == ("__debug__" : Str)) = false := by decide)
    (ns : NoStar e := by intro _ _; rfl) (hpl : ∀ env : Env, (backTo pos (starEach es env)).any (·.1) = false := by intro _; rfl) : SE Γ Φ (.Call (.Name x p) (e :: es) [] pos) (mCall φ m b) := fun X o => by
  obtain ⟨f, fd, ps, k, F, hr, hm, hk, hb⟩ := (hc _ o.phi).ex
  have hlen := (hc _ o.phi).len
  refine pe_imp (pe_call F hr (o.gl hg) hm hk hb .nil pass0 (ha X o) hd (ns _ _) (hpl _)) fun σ H Q q => ?_
  obtain ⟨Fz, fp, st, C, d, st', e, kk⟩ := q
  unfold mCall at e
  split at e
  · rename_i ds s hm
    split at e
    · rename_i d' outs hφ
      cases e
      refine ⟨Fz, fp, st, C, ds, s, hm, fun vs H1 Fz1 fp1 hl hbl hL C1 g1 => ?_⟩
      have C1' : Cfg X.K Fz1 H1 (ds.map some ++ (s ++ [])) (vs.map some ++ (σ ++ [])) fp1 := by simpa using C1
      have hsl : s.length = σ.length := by
        have := C1.rep.length
        simp [hl] at this
        exact this
      obtain ⟨f2, C2, p2⟩ := Cfg.rot (by simp [hl]) hsl C1'
      obtain ⟨fP, f, C0, fr⟩ := C2.frame hsl
      have ho := hlen _ _ _ hφ
      show spF X.K n φ (vs ++ []) H1 Q E0
      rw [List.append_nil]
      refine ⟨Fz1, f, ds, by omega, by omega, by simpa using C0, d, outs, hφ, ho, fun v H2 Fz2 fp2 C3 g3 => ?_⟩
      obtain ⟨f4, C4, g4, _⟩ := fr (by simpa using C3) (by simpa using g3)
      have C4' : Cfg X.K Fz2 H2 (s ++ ((some d :: outs) ++ [])) (σ ++ ((some v :: vs.map some) ++ [])) f4 := by simpa using C4
      obtain ⟨f5, C5, p5⟩ := Cfg.rot hsl (by simp; omega) C4'
      obtain ⟨f6, C6, q6⟩ := restore_cfg (b := b) (ds := ds) (outs := outs) (vs := vs) (s := s) (by omega) (by omega) (by omega) hL (by simpa using C5)
      refine kk v H2 Fz2 f6 C6 ((g1.trans (g4.frame (fun a h => p2.mem_iff.mp h) fun a h => .inl h)).sub fun a h => p5.mem_iff.mp (q6 a h))
    · cases e
  · cases e
end
end Va
/-! Va12: statements -/
namespace Va
open PySem PySem.Spec PyProof.Rows L2

inductive Fl where
  | nx | ret (d : D) | bk | ct
/-- what is wanted behind a statement, at its way out -/
def Out (K : PySem.W.Frag) (D' : Ends) (fl : Fl) (st' : S) (σ' : L2.St) (H' : Hp) (Fz' : Addr → Prop) (fp' : List Addr) : Prop := match fl with
  | .nx => Cfg K Fz' H' st' σ' fp' → D'.nx σ' H'
  | .bk => Cfg K Fz' H' st' σ' fp' → D'.bk σ' H'
  | .ct => Cfg K Fz' H' st' σ' fp' → D'.ct σ' H'
  | .ret d => ∀ v, Cfg K Fz' H' (some d :: st') (some v :: σ') fp' → D'.rt v H'
def rdS (K : PySem.W.Frag) (RO : Nat → Bool) (m : M Fl) : TS := fun D' σ H => ∃ Fz fp st, Cfg K Fz H st σ fp ∧ ∃ fl st', m st = some (fl, st') ∧
  ∀ σ' H' Fz' fp', (∀ i, RO i = true → σ'[i]? = σ[i]?) → Go Fz H fp Fz' H' fp' → Out K D' fl st' σ' H' Fz' fp'
/-- the frame's static part: which slots are not stored -/
def ST1 (Γ : Gam) (Φ : GCx → Prop) (RO : Nat → Bool) (st : Stmt) (m : M Fl) : Prop := ∀ X, On Γ Φ X → PassesOwn (model X.prog X.w) X.A X.env X.xe → PS X st (rdS X.K RO m)
def SS (Γ : Gam) (Φ : GCx → Prop) (RO : Nat → Bool) (st : List Stmt) (m : M Fl) : Prop := ∀ X, On Γ Φ X → PassesOwn (model X.prog X.w) X.A X.env X.xe → PSs X st (rdS X.K RO m)

theorem Out.mono {K : PySem.W.Frag} {D' D2 : Ends} {fl : Fl} {st' : S} {σ' : L2.St} {H' Fz' fp'} (h : Out K D' fl st' σ' H' Fz' fp') (h1 : ∀ σ H, fl = .nx → D'.nx σ H → D2.nx σ H) (h2 : D'.rt = D2.rt) (h3 : D'.bk = D2.bk) (h4 : D'.ct = D2.ct) : Out K D2 fl st' σ' H' Fz' fp' := by
  cases fl with
  | nx => exact fun C => h1 _ _ rfl (h C)
  | bk => exact fun C => by rw [← h3]; exact h C
  | ct => exact fun C => by rw [← h4]; exact h C
  | ret d => exact fun v C => by rw [← h2]; exact h v C

def mNx : M Fl := fun st => some (.nx, st)
def mSeq (a b : M Fl) : M Fl := fun st => match a st with
  | some (.nx, s) => b s
  | r => r
section
variable {Γ : Gam} {Φ : GCx → Prop} {RO : Nat → Bool}
theorem ss_nil : SS Γ Φ RO [] mNx := fun X o hp => pss_imp pss_nil fun D' σ H q => by
  obtain ⟨Fz, fp, st, C, fl, st', e, k⟩ := q
  cases e
  exact k σ H Fz fp (fun _ _ => rfl) .refl C
theorem ss_cons {st : Stmt} {sts : List Stmt} {a b : M Fl} (h : ST1 Γ Φ RO st a) (hr : SS Γ Φ RO sts b) : SS Γ Φ RO (st :: sts) (mSeq a b) := fun X o hp => pss_imp (pss_cons (h X o hp) (hr X o hp)) fun D' σ H q => by
  obtain ⟨Fz, fp, st, C, fl, st', e, k⟩ := q
  show rdS X.K RO a { D' with nx := rdS X.K RO b D' } σ H
  unfold mSeq at e
  split at e
  · rename_i s hm
    refine ⟨Fz, fp, st, C, .nx, s, hm, fun σ1 H1 Fz1 fp1 r1 g1 C1 => ?_⟩
    exact ⟨Fz1, fp1, s, C1, fl, st', e, fun σ2 H2 Fz2 fp2 r2 g2 => k σ2 H2 Fz2 fp2 (fun i hi => (r2 i hi).trans (r1 i hi)) (g1.trans g2)⟩
  · rename_i hne
    refine ⟨Fz, fp, st, C, fl, st', e, fun σ1 H1 Fz1 fp1 r1 g1 => ?_⟩
    exact (k σ1 H1 Fz1 fp1 r1 g1).mono (fun σ H hn => by subst hn; exact absurd e (hne st')) rfl rfl rfl
theorem ss_one {st : Stmt} {a : M Fl} (h : ST1 Γ Φ RO st a) : SS Γ Φ RO [st] a := fun X o hp => pss_one (h X o hp)
/-- a statement that is never come to -/
theorem s_no {st : Stmt} : ST1 Γ Φ RO st (fun _ => none) := fun X o hp => ⟨fun pins s σ H D' I q => by
  obtain ⟨Fz, fp, st, C, fl, st', e, k⟩ := q
  cases e⟩
theorem se_no {e : Expr} : SE Γ Φ e (fun _ => none) := fun X o => ⟨fun pins s σ H D' I q => by
  obtain ⟨Fz, fp, st, C, fl, st', e, k⟩ := q
  cases e⟩
theorem s_pass {pos : Pos} : ST1 Γ Φ RO (.Pass pos) mNx := fun X o hp => ps_imp ps_pass fun D' σ H q => by
  obtain ⟨Fz, fp, st, C, fl, st', e, k⟩ := q
  cases e
  exact k σ H Fz fp (fun _ _ => rfl) .refl C
theorem s_break {pos : Pos} : ST1 Γ Φ RO (.Break pos) (fun st => some (.bk, st)) := fun X o hp => ps_imp ps_break fun D' σ H q => by
  obtain ⟨Fz, fp, st, C, fl, st', e, k⟩ := q
  cases e
  exact k σ H Fz fp (fun _ _ => rfl) .refl C
def mDo (m : M D) : M Fl := fun st => match m st with
  | some (_, s) => some (.nx, s)
  | none => none
theorem s_expr {e : Expr} {m : M D} {pos : Pos} (h : SE Γ Φ e m) (hs : ∀ env : Env, swapsWith e none pos.line env = pure false := by intro _; rfl) : ST1 Γ Φ RO (.Expr e pos) (mDo m) := fun X o hp => ps_imp (ps_expr (h X o) (hs _)) fun D' σ H q => by
  obtain ⟨Fz, fp, st, C, fl, st', e, k⟩ := q
  unfold mDo at e
  split at e
  · rename_i d s hm
    cases e
    refine ⟨Fz, fp, st, C, _, _, hm, fun v H1 Fz1 fp1 C1 g1 => ?_⟩
    obtain ⟨f2, C2, h2⟩ := C1.drop
    exact k σ H1 Fz1 f2 (fun _ _ => rfl) (g1.sub h2) C2
  · cases e
def mRet (m : M D) : M Fl := fun st => match m st with
  | some (d, s) => some (.ret d, s)
  | none => none
theorem s_ret {e : Expr} {m : M D} {pos : Pos} (h : SE Γ Φ e m) : ST1 Γ Φ RO (.Return (some e) pos) (mRet m) := fun X o hp => ps_imp (ps_ret (h X o)) fun D' σ H q => by
  obtain ⟨Fz, fp, st, C, fl, st', e, k⟩ := q
  unfold mRet at e
  split at e
  · rename_i d s hm
    cases e
    exact ⟨Fz, fp, st, C, _, _, hm, fun v H1 Fz1 fp1 C1 g1 => k σ H1 Fz1 fp1 (fun _ _ => rfl) g1 v C1⟩
  · cases e
/-- return of a name: its datum goes out -/
theorem s_retV (i : Nat) {x : Str} {p pos : Pos} (hN : Γ.N[i]? = some x := by rfl) (hv : gVis Γ.sc x = true := by rfl) (hd : (x == ("__debug__" : Str)) = false := by decide) (hcd : (x == ("__classdict__" : Str)) = false := by decide) :
    ST1 Γ Φ RO (.Return (some (.Name x p)) pos) (mRet (mTake i)) := fun X o hp => ps_imp (ps_ret (pe_var (o.slot hN) (o.vis hv) hd hcd)) fun D' σ H q => by
  obtain ⟨Fz, fp, st, C, fl, st', e, k⟩ := q
  unfold mRet at e
  split at e
  · rename_i d s hm
    cases e
    obtain ⟨v, f1, ev, C1, h1⟩ := C.take hm
    exact ⟨v, ev, k σ H Fz f1 (fun _ _ => rfl) (Go.refl.sub h1) v C1⟩
  · cases e
theorem s_retN {pos : Pos} : ST1 Γ Φ RO (.Return none pos) (fun st => some (.ret .non, st)) := fun X o hp => ps_imp ps_retN fun D' σ H q => by
  obtain ⟨Fz, fp, st, C, fl, st', e, k⟩ := q
  cases e
  exact k σ H Fz fp (fun _ _ => rfl) .refl .non (C.atom .non)
def mIf (c : M Bool) (a b : M Fl) : M Fl := fun st => match c st with
  | some (true, s) => a s
  | some (false, s) => b s
  | none => none
theorem s_if {c : Expr} {a b : List Stmt} {mc : M Bool} {ma mb : M Fl} {pos : Pos} (hc : ST Γ Φ c mc) (ha : SS Γ Φ RO a ma) (hb : SS Γ Φ RO b mb) : ST1 Γ Φ RO (.If c a b pos) (mIf mc ma mb) := fun X o hp => ps_imp (ps_if (hc X o) (ha X o hp) (hb X o hp)) fun D' σ H q => by
  obtain ⟨Fz, fp, st, C, fl, st', e, k⟩ := q
  unfold mIf at e
  split at e
  · rename_i s hm
    exact ⟨Fz, fp, st, C, _, _, hm, fun H1 Fz1 fp1 C1 g1 => iteT ⟨Fz1, fp1, s, C1, fl, st', e, fun σ2 H2 Fz2 fp2 r2 g2 => k σ2 H2 Fz2 fp2 r2 (g1.trans g2)⟩⟩
  · rename_i s hm
    exact ⟨Fz, fp, st, C, _, _, hm, fun H1 Fz1 fp1 C1 g1 => iteF ⟨Fz1, fp1, s, C1, fl, st', e, fun σ2 H2 Fz2 fp2 r2 g2 => k σ2 H2 Fz2 fp2 r2 (g1.trans g2)⟩⟩
  · cases e

/-! ### stores -/
theorem Cfg.store {K : PySem.W.Frag} {Fz : Addr → Prop} {H : Hp} {s : S} {σ : L2.St} {fp : List Addr} {d : D} {v : V} {i : Nat} (C : Cfg K Fz H (some d :: s) (some v :: σ) fp) : ∃ fp', Cfg K Fz H (s.set i (some d)) (σ.set i (some v)) fp' ∧ ∀ a ∈ fp', a ∈ fp := by
  by_cases hi : i < s.length
  · obtain ⟨R, nd, fz, ft⟩ := C
    cases R with
    | @cons _ _ f g _ _ rx rs =>
      obtain ⟨y, f1, g1, ey, ro, p, put⟩ := rs.at (i := i) (List.getElem?_eq_getElem hi)
      obtain ⟨fp', R, p'⟩ := put (Fz' := Fz) (H' := H) (fun {e w kk} _ ro => ro) rx
      have nd1 : (f ++ (f1 ++ g1)).Nodup := (p.append_left f).nodup_iff.mp nd
      have sub : ∀ a ∈ fp', a ∈ f ++ g := fun a h => by
        rcases List.mem_append.mp (p'.mem_iff.mp h) with q | q
        · exact List.mem_append_left _ q
        · exact List.mem_append_right _ (p.mem_iff.mpr (List.mem_append_right _ q))
      have h1 := List.nodup_append.mp nd1
      have h2 := List.nodup_append.mp h1.2.1
      exact ⟨fp', ⟨R, p'.nodup_iff.mpr (List.nodup_append.mpr ⟨h1.1, h2.2.1, fun a ha b hb => h1.2.2 a ha b (List.mem_append_right _ hb)⟩), fun a h => fz a (sub a h), ft⟩, sub⟩
  · obtain ⟨f2, C2, h2⟩ := C.drop
    have hl := C2.rep.length
    rw [List.set_eq_of_length_le (by omega), List.set_eq_of_length_le (by omega)]
    exact ⟨f2, C2, h2⟩
def mSet (i : Nat) (m : M D) : M Fl := fun st => match m st with
  | some (d, s) => some (.nx, s.set i (some d))
  | none => none
def gLoc (Γ : Gam) (x : Str) : Bool := match Γ.sc.names.lookup x with
  | some .local => true | some .cell => Γ.fnm x | _ => false
theorem gLoc_loc {Γ : Gam} {x : Str} (h : gLoc Γ x = true) : Γ.sc.names.lookup x = some .local ∨ (Γ.sc.names.lookup x = some .cell ∧ Γ.fnm x = true) := by
  unfold gLoc at h
  split at h <;> simp_all
theorem On.loc {X : Cx} (o : On Γ Φ X) {x : Str} (h : gLoc Γ x = true) : Loc X.env.scope x := by
  rw [o.sc]
  rcases gLoc_loc h with e | e
  · exact .inl e
  · exact .inr e.1
theorem On.fnl {X : Cx} (o : On Γ Φ X) {x : Str} (h : gLoc Γ x = true) : X.fn x = true ∨ X.env.scope.names.lookup x = some .local := by
  rcases gLoc_loc h with e | e
  · exact .inr (by rw [o.sc]; exact e)
  · exact .inl (o.fn x e.2)
theorem ro_set {RO : Nat → Bool} {i : Nat} (h : RO i = false) {σ : L2.St} {v : Option V} : ∀ j, RO j = true → (σ.set i v)[j]? = σ[j]? := fun j hj => by
  have : i ≠ j := by rintro rfl; rw [h] at hj; cases hj
  rw [List.getElem?_set_ne this]
theorem s_set (i : Nat) {x : Str} {e : Expr} {m : M D} {p pos : Pos} (h : SE Γ Φ e m) (hN : Γ.N[i]? = some x := by rfl) (hl : gLoc Γ x = true := by rfl) (hr : RO i = false := by rfl) (hs : ∀ env : Env, swapsWith e (some (.Name x p)) pos.line env = pure false := by intro _; rfl) :
    ST1 Γ Φ RO (.Assign [.Name x p] e pos) (mSet i m) := fun X o hp => ps_imp (ps_set o.nd (o.slot hN) (o.loc hl) (h X o) (hs _) (o.fnl hl)) fun D' σ H q => by
  obtain ⟨Fz, fp, st, C, fl, st', e, k⟩ := q
  unfold mSet at e
  split at e
  · rename_i d s hm
    cases e
    refine ⟨Fz, fp, st, C, _, _, hm, fun v H1 Fz1 fp1 C1 g1 => ?_⟩
    obtain ⟨f2, C2, h2⟩ := C1.store (i := i)
    exact k _ H1 Fz1 f2 (ro_set hr) (g1.sub h2) C2
  · cases e
/-- a, b = x, y: the items keep what is theirs -/
def mSet2 (i j : Nat) (m : M (List D)) : M Fl := fun st => match m st with
  | some ([d, e], s) => some (.nx, (s.set i (some d)).set j (some e))
  | _ => none
theorem s_set2 (i j : Nat) {x y : Str} {a b : Expr} {m : M (List D)} {px py pt pos : Pos} {kt k2 : Nat} {pt2 : Pos} (h : SA Γ Φ [a, b] m) (hN : Γ.N[i]? = some x := by rfl) (hN2 : Γ.N[j]? = some y := by rfl) (hl : Γ.sc.names.lookup x = some .local := by rfl) (hl2 : Γ.sc.names.lookup y = some .local := by rfl)
    (hr : RO i = false := by rfl) (hr2 : RO j = false := by rfl) (hij : i ≠ j := by decide) (hw : swappedStores [.Tuple [.Name x px, .Name y py] kt pt] (.Tuple [a, b] k2 pt2) (envS Γ.sc) = pure (some [x, y]) := by rfl)
    (hs : ∀ env : Env, swapsWithSole [.Tuple [.Name x px, .Name y py] kt pt] (.Tuple [a, b] k2 pt2) pos.line env = pure false := by intro _; rfl) :
    ST1 Γ Φ RO (.Assign [.Tuple [.Name x px, .Name y py] kt pt] (.Tuple [a, b] k2 pt2) pos) (mSet2 i j m) := fun X o hp =>
  ps_imp (ps_par o.calm o.nd (o.slot hN) (o.slot hN2) hij (by rw [o.sc]; exact hl) (by rw [o.sc]; exact hl2) (h X o) ((sws_scope (env' := envS Γ.sc) o.sc).trans hw) (hs _)) fun D' σ H q => by
  obtain ⟨Fz, fp, st, C, fl, st', e, k⟩ := q
  unfold mSet2 at e
  split at e
  · rename_i d e' s hm
    cases e
    refine ⟨Fz, fp, st, C, _, _, hm, fun vs H1 Fz1 fp1 hl C1 g1 => ?_⟩
    match vs, hl with
    | [v, w], _ =>
      refine ⟨v, w, rfl, ?_⟩
      obtain ⟨f1, C1', p1⟩ := Cfg.float (P := [some d]) (PV := [some v]) (x := some e') (y := some w) rfl C1
      -- first the one, then the other
      have C1'' : Cfg X.K Fz1 H1 (some d :: (some e' :: s)) (some v :: (some w :: σ)) fp1 := C1
      obtain ⟨f2, C2, h2⟩ := Cfg.store (i := i + 1) C1''
      obtain ⟨f3, C3, h3⟩ := Cfg.store (i := j) (s := s.set i (some d)) (σ := σ.set i (some v)) C2
      refine k _ H1 Fz1 f3 (fun l hl' => (ro_set hr2 l hl').trans (ro_set hr l hl')) (g1.sub fun a h => h2 a (h3 a h)) C3
  · cases e

/-! ### while -/
/-- n bounds the turns -/
def mWhile (c : M Bool) (b : M Fl) : Nat → M Fl
  | 0 => fun _ => none
  | n + 1 => fun st => match c st with
    | some (false, s) => some (.nx, s)
    | some (true, s) => match b s with
      | some (.nx, s') => mWhile c b n s'
      | some (.ct, s') => mWhile c b n s'
      | some (.bk, s') => some (.nx, s')
      | some (.ret d, s') => some (.ret d, s')
      | none => none
    | none => none
theorem s_while (n : Nat) {c : Expr} {body : List Stmt} {mc : M Bool} {mb : M Fl} {pos : Pos} (hc : ST Γ Φ c mc) (hb : SS Γ Φ RO body mb) : ST1 Γ Φ RO (.While c body [] pos) (mWhile mc mb n) := fun X o hp => ps_imp (ps_while hp (hc X o) (hb X o hp)) fun D' σ0 H0 q => by
  obtain ⟨Fz0, fp0, st0, C0, fl, st', e0, k0⟩ := q
  refine ⟨fun m σ H => ∃ Fz fp st, Cfg X.K Fz H st σ fp ∧ mWhile mc mb m st = some (fl, st') ∧ (∀ i, RO i = true → σ[i]? = σ0[i]?) ∧ Go Fz0 H0 fp0 Fz H fp, ⟨n, Fz0, fp0, st0, C0, e0, fun _ _ => rfl, .refl⟩, ?_⟩
  rintro m σ H ⟨Fz, fp, st, C, e, ro, g⟩
  cases m with
  | zero => cases e
  | succ m =>
    unfold mWhile at e
    split at e
    · rename_i s hm
      cases e
      exact ⟨Fz, fp, st, C, _, _, hm, fun H1 Fz1 fp1 C1 g1 => iteF (k0 σ H1 Fz1 fp1 ro (g.trans g1) C1)⟩
    · rename_i s hm
      refine ⟨Fz, fp, st, C, _, _, hm, fun H1 Fz1 fp1 C1 g1 => iteT ⟨fun σ' H' => ∃ Fz fp st, Cfg X.K Fz H' st σ' fp ∧ mWhile mc mb m st = some (fl, st') ∧ (∀ i, RO i = true → σ'[i]? = σ0[i]?) ∧ Go Fz0 H0 fp0 Fz H' fp, fun σ' H' h => ⟨m, Nat.lt_succ_self m, h⟩, ?_⟩⟩
      have gg := g.trans g1
      split at e
      · rename_i s' hm'
        exact ⟨Fz1, fp1, s, C1, .nx, s', hm', fun σ2 H2 Fz2 fp2 r2 g2 C2 => ⟨Fz2, fp2, s', C2, e, fun i hi => (r2 i hi).trans (ro i hi), gg.trans g2⟩⟩
      · rename_i s' hm'
        exact ⟨Fz1, fp1, s, C1, .ct, s', hm', fun σ2 H2 Fz2 fp2 r2 g2 C2 => ⟨Fz2, fp2, s', C2, e, fun i hi => (r2 i hi).trans (ro i hi), gg.trans g2⟩⟩
      · rename_i s' hm'
        cases e
        exact ⟨Fz1, fp1, s, C1, .bk, _, hm', fun σ2 H2 Fz2 fp2 r2 g2 C2 => k0 σ2 H2 Fz2 fp2 (fun i hi => (r2 i hi).trans (ro i hi)) (gg.trans g2) C2⟩
      · rename_i d s' hm'
        cases e
        exact ⟨Fz1, fp1, s, C1, .ret d, _, hm', fun σ2 H2 Fz2 fp2 r2 g2 v C2 => k0 σ2 H2 Fz2 fp2 (fun i hi => (r2 i hi).trans (ro i hi)) (gg.trans g2) v C2⟩
      · cases e
    · cases e
end
end Va
/-! Va13: enumerate of a tuple -/
namespace Va
open PySem PySem.Spec PyProof.Rows L2

/-- the tuple's own iterator is what enumerate keeps -/
theorem enumTup_new (t : Addr) (items : Array Value) :
    Meets (Builtin.«enumerate.__new__» ⟨[.type "enumerate", .ref t], []⟩)
      (fun _ R s => s.heap.IsTuple t items ∧
        R (.ok (.ret (.ref (s.heap.push { cls := .type "tuple_iterator", data := .fields #[.ref t, .int 0 0] }).objs.size)))
          { s with heap := (s.heap.push { cls := .type "tuple_iterator", data := .fields #[.ref t, .int 0 0] }).push { cls := .type "enumerate", data := .fields #[.none, .bool false, .ref s.heap.objs.size, rawInt 0, .none, .none] } }) :=
  .of_wp fun prog w A R s h => by
    obtain ⟨hp, g, d, tk, os⟩ := s
    obtain ⟨hT, h⟩ := h
    have hsub := sub_enumerate
    have hT' : Heap.IsTuple (Shared.heap ⟨hp, g, d, tk, os⟩) t items := hT
    wp_walk
    refine wpAny_stack_any fun st => wpAny_pure ?_
    split
    · rename_i c _ _ _ _ _
      cases (c == Value.type "enumerate")
      · wp_walk using wpAny_pyIter_tuple hT'
        exact ⟨_, rfl, h⟩
      · wp_walk using wpAny_pyIter_tuple hT'
        exact ⟨_, rfl, h⟩
    · wp_walk using wpAny_pyIter_tuple hT'
      exact ⟨_, rfl, h⟩
section
variable {prog : Program} {w : World} {A : Around} {E : Value → Shared → Prop} {s : Shared}
theorem enumTup_call {l : Addr} {items : Array Value} {Q : Value → Shared → Prop} (hL : s.heap.IsTuple l items)
    (h : ∀ h', IsEnum h' (s.heap.objs.size + 1) s.heap.objs.size 0 .none → h'.IsTupleIter s.heap.objs.size l 0 → h'.objs.size = s.heap.objs.size + 2 →
      (∀ b o, s.heap.get? b = some o → h'.get? b = some o) → Q (.ref (s.heap.objs.size + 1)) { s with heap := h' }) :
    wpAny (model prog w) A (call (.type "enumerate") [.ref l]) Q E s := by
  refine callType_new F.called_enumerate (by decide) (F.typeCall_enumerate_1 _) (F.newCall_enumerate_1 _) (fun obj => F.args_object_init_2 obj _) F.entry_enumerate_new (enumTup_new l items) ⟨hL, ?_⟩
  have sz1 : (s.heap.push { cls := .type "tuple_iterator", data := .fields #[.ref l, .int 0 0] }).objs.size = s.heap.objs.size + 1 := Heap.size_push ..
  rw [sz1]
  have he := Heap.get?_push_size (s.heap.push { cls := .type "tuple_iterator", data := .fields #[.ref l, .int 0 0] }) (o := { cls := .type "enumerate", data := .fields #[.none, .bool false, .ref s.heap.objs.size, rawInt 0, .none, .none] }) rfl
  rw [sz1] at he
  have he2 : IsEnum ((s.heap.push { cls := .type "tuple_iterator", data := .fields #[.ref l, .int 0 0] }).push { cls := .type "enumerate", data := .fields #[.none, .bool false, .ref s.heap.objs.size, rawInt 0, .none, .none] }) (s.heap.objs.size + 1) s.heap.objs.size 0 .none := he
  exact ⟨⟨_, he2, rfl⟩, h _ he2 ⟨_, Heap.get?_push_of_some _ (Heap.get?_push_size _ rfl), rfl, rfl⟩ (by rw [Heap.size_push, sz1]) fun b o x => Heap.get?_push_of_some _ (Heap.get?_push_of_some _ x)⟩
end
theorem drawsTup {prog : Program} {w : World} {A : Around} (hh : A.handled = none) (it l : Addr) (hne : l ≠ it) (items : Array Value) :
    Draws prog w A it [it, l] items.size (fun i v => items[i]? = some v) (fun i h => h.IsTupleIter it l i ∧ h.IsTuple l items) where
  live := fun _ _ st => let ⟨o, ho, _⟩ := st.1; ⟨o, ho⟩
  frame := fun _ _ _ st hk => ⟨st.1.at fun o e => hk it (by simp) o e, by obtain ⟨o, ho, r⟩ := st.2; exact ⟨o, hk l (by simp) o ho, r⟩⟩
  item := fun i s Q E hi st hQ => by
    refine RZ.nextOf_tuple_item st.1 st.2 (x := items[i]) (by simp [hi]) fun h' hit' hs' => ?_
    exact hQ _ h' s.toks (by simp [hi]) ⟨hit', by obtain ⟨o, ho, r⟩ := st.2; exact ⟨o, (hs'.2 l hne).trans ho, r⟩⟩ hs'
  done := fun s Q E st hE => RZ.nextOf_tuple_end hh st.1 st.2 (by simp) hE
/-- the tuple at a, each item in a new pair -/
def IteT (K : PySem.W.Frag) (a : Addr) : It :=
  ⟨fun i H => ∃ (xs : List V) (x : V), SqT K H a xs ∧ xs[i]? = some x, fun i H v H' => ∃ T x, v = .ref T ∧ H T = none ∧ H' = upd H T (.tup [.int (i : Nat), x]) ∧ ∀ xs, SqT K H a xs → xs[i]? = some x, fun i H => ∃ xs : List V, SqT K H a xs ∧ xs.length ≤ i⟩
theorem turn_enumT {P : Program} {w : World} {K : PySem.W.Frag} {elts : List Expr} {kk : Nat} {tpos : Pos} (a e it : Addr) :
    Turn P w K (.Tuple elts kk tpos) (IteT K a) [e, it] e (fun i h => (∃ old, IsEnum h e it ((i : Nat) : Int) old) ∧ h.IsTupleIter it a i ∧ e ≠ it) where
  mem := by simp
  obj := fun i h st b hb => by
    obtain ⟨⟨old, he⟩, ⟨o, ho, hc, hd⟩, _⟩ := st
    rcases List.mem_cons.mp hb with z | z
    · rw [z]; exact ⟨_, he, fun v q => nomatch q⟩
    · have z' : b = it := by simpa using z
      rw [z']; exact ⟨o, ho, fun v q => by rw [hd] at q; cases q⟩
  keep := fun i h h' st k => let ⟨⟨old, he⟩, hi, hne⟩ := st; ⟨⟨old, k e (by simp) _ he⟩, hi.at fun o q => k it (by simp) o q, hne⟩
  item := by
    intro X hP hw hK hc i pins s σ H E I hf st hg
    subst hP hw hK
    obtain ⟨⟨old, he⟩, hit, hne⟩ := st
    obtain ⟨xs, x, hq, hx⟩ := hg
    obtain ⟨its, rv, p, hz⟩ := I.tuple hq
    obtain ⟨u, hu, ru⟩ := rv.get hx
    obtain ⟨oi, hoi, hci, hdi⟩ := id hit
    obtain ⟨oa, hoa, hca, na, hda⟩ := id p
    have hel : e < s.heap.objs.size := Heap.lt_size he
    have hil : it < s.heap.objs.size := Heap.lt_size hoi
    have nai : a ≠ it := by
      intro z; subst z
      rw [hoa] at hoi; cases hoi
      rw [hca] at hci; exact absurd hci (by decide)
    have nae : e ≠ a := by
      intro z; subst z
      have he' : s.heap.get? e = some _ := he
      rw [hoa] at he'; cases he'
      exact absurd (show Value.type "enumerate" = Value.type "tuple" from hca) (by decide)
    have hlt : i < its.toArray.size := by
      have h1 := (List.getElem?_eq_some_iff.mp hu).1
      simpa using h1
    refine wpAny_pyNext_enum_itemD (drawsTup (A := X.A.in1) (I.ok.hd hc) it a nai its.toArray) he ⟨hit, p⟩ hlt hne (by simp [hne, nae]) fun y h' tk hy ho hst' hT hsz hk => ?_
    have ey : y = u := by
      have h1 : its[i]? = some y := by simpa using hy
      rw [hu] at h1; exact (Option.some.inj h1).symm
    subst ey
    obtain ⟨hit', _⟩ := hst'
    refine ⟨_, rfl, wpAny_letOwnedTupleGo_enum (s := { s with heap := h', toks := tk + 1 }) ho fun h'' he' sb => ?_⟩
    have hT2 : h''.get? s.heap.objs.size = some { cls := .type "tuple", data := .seq #[.int i tk, y] } := (sb.2 _ (Nat.ne_of_gt hel)).trans hT
    have new : ObjOk X.prog X.w (upd H s.heap.objs.size (.tup [.int (i : Nat), x])) h'' s.heap.objs.size (.tup [.int (i : Nat), x]) :=
      ⟨by show 2 ≤ sizeLine; rw [sizeLine_eq]; decide, [.int i tk, y], .cons ⟨_, rfl⟩ (.cons ru .nil), ⟨_, hT2, rfl, _, rfl⟩⟩
    have I1 : Inv X pins σ (upd H s.heap.objs.size (.tup [.int (i : Nat), x])) { s with heap := h'', toks := tk + 1 } :=
      I.turnedNew (ch := [e, it]) (fun b ob hb q => (sb.2 b fun z => hb (by simp [z])).trans (hk b ob (fun z => hb (by simp [z])) (fun z => hb (by simp [z])) q)) hf (Nat.le_refl _) new
    refine ⟨.ref s.heap.objs.size, _, I1, rfl, ⟨_, x, rfl, I.hok.fresh (Nat.le_refl _), rfl, fun ys hy => by rw [I.tuple_inj hy hq]; exact hx⟩, ⟨⟨y, ?_⟩, hit'.at fun o q => (sb.2 it (Ne.symm hne)).trans q, hne⟩, fun b hb => ?_⟩
    · have e1 : ((i + 1 : Nat) : Int) = (i : Int) + 1 := by omega
      rw [e1]; exact he'
    · have hb' : b < s.heap.objs.size := by
        rcases List.mem_cons.mp hb with z | z
        · rw [z]; exact hel
        · have z' : b = it := by simpa using z
          rw [z']; exact hil
      rw [upd_ne (Nat.ne_of_lt hb')]
      exact (hf b hb).1
  done := by
    intro X hP hw hK hc i pins s σ H E I hf st hg
    subst hP hw hK
    obtain ⟨⟨old, he⟩, hit, hne⟩ := st
    obtain ⟨xs, hq, hx⟩ := hg
    obtain ⟨its, rv, p, hz⟩ := I.tuple hq
    obtain ⟨oi, hoi, hci, hdi⟩ := id hit
    obtain ⟨oa, hoa, hca, na, hda⟩ := id p
    have nai : a ≠ it := by
      intro z; subst z
      rw [hoa] at hoi; cases hoi
      rw [hca] at hci; exact absurd hci (by decide)
    obtain ⟨f0, f1, f2, f3, f4, f5⟩ := hf it (by simp)
    have hl := rv.length
    have hx' : its.toArray[i]? = none := by simp; omega
    have D0 : Draws X.prog X.w X.A.in1 it [it, a] i (fun _ _ => True) (fun j h => j = i ∧ h.IsTupleIter it a i ∧ h.IsTuple a its.toArray) :=
      { live := fun _ _ st => let ⟨o, ho, _⟩ := st.2.1; ⟨o, ho⟩
        frame := fun _ _ _ st hk => ⟨st.1, st.2.1.at fun o e => hk it (by simp) o e, by obtain ⟨o, ho, r⟩ := st.2.2; exact ⟨o, hk a (by simp) o ho, r⟩⟩
        item := fun j s Q E hj st hQ => absurd st.1 (Nat.ne_of_lt hj)
        done := fun s Q E st hE => RZ.nextOf_tuple_end (I.ok.hd hc) st.2.1 st.2.2 hx' hE }
    exact wpAny_pyNext_enum_endD D0 he ⟨rfl, hit, p⟩ fun h' eb => ⟨rfl, I.turned (t' := s.toks) (fun b o hb q => eb b o hb q) f0 f1 f3 f4 f5⟩
  self := fun A i s Q E st h => let ⟨⟨_, he⟩, _⟩ := st; wpAny_pyIter_enum he h
/-- enumerate of a tuple -/
def iEnumT (K : PySem.W.Frag) (ta : TA) : TI := fun σ H R => ta σ H fun vs H1 => ∃ a xs, vs = [.ref a] ∧ SqT K H1 a xs ∧ R (IteT K a) H1
theorem pi_enumT {X : Cx} {e : Expr} {ta : TA} {p pos tpos : Pos} {elts : List Expr} {kk : Nat} (hg : Gl X "enumerate") (hm : X.mg "enumerate" = none) (ha : PA X [e] ta) (hs : starEach [e] X.env = (false, eval e X.env) :: starEach [] X.env) :
    PI X (.Tuple elts kk tpos) (.Call (.Name "enumerate" p) [e] [] pos) (iEnumT X.K ta) := by
  refine ⟨fun pins s σ H R I h => Call_ (ld_blt I hg hm boot_enumerate (PyProof.Rows.callWith_type1 (thn (ha.run pos pins s σ H _ I h) fun us s1 ⟨vs, H1, I1, r1, q1⟩ => ?_) hs rfl))⟩
  obtain ⟨a, xs, ex, hq, q⟩ := q1
  subst ex
  cases r1 with
  | cons r rr =>
    cases rr
    cases r
    obtain ⟨its, rv, p', hz⟩ := I1.tuple hq
    refine enumTup_call (show s1.heap.IsTuple a its.toArray from p') fun h' he hit hsz hk => wpAny_pyIter_enum he ?_
    refine ⟨s1.heap.objs.size + 1, [s1.heap.objs.size + 1, s1.heap.objs.size], _, _, H1, rfl, I1.kept (t' := s1.toks) hk, turn_enumT a (s1.heap.objs.size + 1) s1.heap.objs.size, ⟨⟨.none, he⟩, hit, Nat.succ_ne_self _⟩, fun b hb => ?_, q⟩
    have hle : s1.heap.objs.size ≤ b := by
      rcases List.mem_cons.mp hb with z | z
      · rw [z]; exact Nat.le_add_right _ _
      · have z' : b = s1.heap.objs.size := by simpa using z
        rw [z']; exact Nat.le_refl _
    exact I1.fpOk hle (I1.hok.fresh hle)
end Va
/-! Va14: what is walked; for -/
namespace Va
open PySem PySem.Spec PyProof.Rows L2

/-! ### targets -/
inductive Tgt where
  | n (i : Nat) | t (is : List Nat)
def asgL : List Nat → List D → S → Option S
  | [], [], s => some s
  | i :: is, d :: ds, s => asgL is ds (s.set i (some d))
  | _, _, _ => none
def asgT : Tgt → D → S → Option S
  | .n i, d, s => some (s.set i (some d))
  | .t is, .tup ds, s => asgL is ds s
  | _, _, _ => none
def Tgt.slots : Tgt → List Nat
  | .n i => [i]
  | .t is => is
/-- a target's store: g v σ H Q holds if Q does behind it -/
def GOk (K : PySem.W.Frag) (t : Tgt) (g : TG) : Prop := ∀ {Fz H d v s s' σ fp} {Q : L2.St → Hp → Prop}, asgT t d s = some s' → Cfg K Fz H s σ fp → Rep K Fz H d v [] →
  (∀ σ' fp', Cfg K Fz H s' σ' fp' → (∀ a ∈ fp', a ∈ fp) → σ'.length = σ.length → (∀ i, i ∉ t.slots → σ'[i]? = σ[i]?) → Q σ' H) → g v σ H Q
def tgGs : List Nat → TGs
  | [] => gNil
  | i :: is => gCons (gName i) (tgGs is)
def tgG (K : PySem.W.Frag) : Tgt → TG
  | .n i => gName i
  | .t is => gTup K is.length (tgGs is)
def SG (Γ : Gam) (Φ : GCx → Prop) (tg : Expr) (t : Tgt) : Prop := ∀ X, On Γ Φ X → PG X tg (tgG X.K t)
def GsOk (K : PySem.W.Frag) (is : List Nat) (g : TGs) : Prop := ∀ {Fz H ds vs s s' σ fp} {Q : L2.St → Hp → Prop}, asgL is ds s = some s' → Cfg K Fz H s σ fp → RepL K Fz H ds vs [] →
  (∀ σ' fp', Cfg K Fz H s' σ' fp' → (∀ a ∈ fp', a ∈ fp) → σ'.length = σ.length → (∀ i, i ∉ is → σ'[i]? = σ[i]?) → Q σ' H) → g vs σ H Q
def SGs (Γ : Gam) (Φ : GCx → Prop) (ts : List Expr) (is : List Nat) : Prop := ∀ X, On Γ Φ X → PGs X ts (tgGs is)
theorem store0 {K : PySem.W.Frag} {Fz H d v s σ fp} {i : Nat} (C : Cfg K Fz H s σ fp) (r : Rep K Fz H d v []) : ∃ fp', Cfg K Fz H (s.set i (some d)) (σ.set i (some v)) fp' ∧ ∀ a ∈ fp', a ∈ fp := (C.atom r).store
theorem tgGs_ok {K : PySem.W.Frag} (is : List Nat) : GsOk K is (tgGs is) := by
  induction is with
  | nil =>
    intro Fz H ds vs s s' σ fp Q e C r k
    cases ds with
    | nil => cases e; cases r; exact ⟨rfl, k σ fp C (fun _ h => h) rfl fun _ _ => rfl⟩
    | cons d ds => cases e
  | cons i is ih =>
    intro Fz H ds vs s s' σ fp Q e C r k
    cases ds with
    | nil => cases e
    | cons d ds =>
      generalize hf : ([] : List Addr) = f at r
      cases r with
      | @cons _ v f1 _ vs f2 rd rs =>
        obtain ⟨h1, h2⟩ := List.append_eq_nil_iff.mp hf.symm
        subst h1 h2
        refine ⟨v, vs, rfl, ?_⟩
        obtain ⟨f2, C2, q2⟩ := store0 (i := i) C rd
        refine ih (show asgL is ds (s.set i (some d)) = some s' from e) C2 rs fun σ' fp' C3 q3 hlen hns => ?_
        refine k σ' fp' C3 (fun a h => q2 a (q3 a h)) (by rw [hlen]; simp) fun j hj => ?_
        have n1 : i ≠ j := by rintro rfl; exact hj (List.mem_cons_self ..)
        rw [hns j fun h => hj (List.mem_cons_of_mem _ h), List.getElem?_set_ne n1]
theorem tgG_ok {K : PySem.W.Frag} (t : Tgt) : GOk K t (tgG K t) := by
  cases t with
  | n i =>
    intro Fz H d v s s' σ fp Q e C r k
    cases e
    obtain ⟨f2, C2, h2⟩ := store0 (i := i) C r
    refine k _ _ C2 h2 (by simp) fun j hj => ?_
    have : i ≠ j := by rintro rfl; exact hj (List.mem_singleton.mpr rfl)
    rw [List.getElem?_set_ne this]
  | t is =>
    intro Fz H d v s s' σ fp Q e C r k
    cases d with
    | tup ds =>
      obtain ⟨a, vs, rfl, ha, rl⟩ := r.tupl
      have hlen : ∀ {is : List Nat} {ds : List D} {s s' : S}, asgL is ds s = some s' → ds.length = is.length := fun {is} => by
        induction is with
        | nil => intro ds s s' e; cases ds with
          | nil => rfl
          | cons d ds => cases e
        | cons i is ih => intro ds s s' e; cases ds with
          | nil => cases e
          | cons d ds => simp [ih (show asgL is ds (s.set i (some d)) = some s' from e)]
      exact ⟨a, vs, rfl, .inl (.inl ha), by rw [← rl.length]; exact hlen e, tgGs_ok is e C rl k⟩
    | _ => cases e
section
variable {Γ : Gam} {Φ : GCx → Prop}
theorem sg_n (i : Nat) {x : Str} {pos : Pos} (hN : Γ.N[i]? = some x := by rfl) (hl : gLoc Γ x = true := by rfl) : SG Γ Φ (.Name x pos) (.n i) := fun X o => pg_name o.nd (o.slot hN) (o.loc hl) (o.fnl hl)
theorem sgs_nil : SGs Γ Φ [] [] := fun X o => pgs_nil
theorem sgs_cons (i : Nat) {x : Str} {pos : Pos} {ts : List Expr} {is : List Nat} (hr : SGs Γ Φ ts is) (hN : Γ.N[i]? = some x := by rfl) (hl : gLoc Γ x = true := by rfl)
    (hs : ∀ env : Env, (assignEach (.Name x pos :: ts) env).map (·.2) = assign (.Name x pos) env :: (assignEach ts env).map (·.2) := by intro _; rfl) : SGs Γ Φ (.Name x pos :: ts) (i :: is) := fun X o =>
  pgs_cons (pg_name o.nd (o.slot hN) (o.loc hl) (o.fnl hl)) (hr X o) (hs _)
theorem sg_t {ts : List Expr} {is : List Nat} {k : Nat} {pos : Pos} (h : SGs Γ Φ ts is) (hn : ∀ env : Env, (assignEach ts env).length = is.length := by intro _; rfl) (hst : ∀ env : Env, (assignEach ts env).findIdx? (·.1) = none := by intro _; rfl) : SG Γ Φ (.Tuple ts k pos) (.t is) := fun X o =>
  pg_tup (n := is.length) o.calm (h X o) (hn _) (hst _)
end

/-! ### what is walked -/
/-- the iterator's ways, at any later heap: the items ds -/
structure ItOk (K : PySem.W.Frag) (Fz : Addr → Prop) (H : Hp) (J : It) (ds : List D) : Prop where
  go : ∀ {Fz2 : Addr → Prop} {H2 : Hp} {i : Nat}, (∀ a, Fz a → Fz2 a) → (∀ a o, Fz a → H a = some o → H2 a = some o) → i < ds.length → J.go i H2
  stop : ∀ {Fz2 : Addr → Prop} {H2 : Hp} {i : Nat}, (∀ a, Fz a → Fz2 a) → (∀ a o, Fz a → H a = some o → H2 a = some o) → ds.length ≤ i → J.stop i H2
  yld : ∀ {Fz2 : Addr → Prop} {H2 : Hp} {i : Nat} {d : D} {x : V} {H3 : Hp} {st : S} {σ : List (Option V)} {fp : List Addr}, (∀ a, Fz a → Fz2 a) → (∀ a o, Fz a → H a = some o → H2 a = some o) → ds[i]? = some d → Cfg K Fz2 H2 st σ fp → J.yld i H2 x H3 →
    ∃ Fz3, Cfg K Fz3 H3 st σ fp ∧ Go Fz2 H2 fp Fz3 H3 fp ∧ Rep K Fz3 H3 d x []
def rdI (K : PySem.W.Frag) (m : M (List D)) : TI := fun σ H R => ∃ Fz fp st, Cfg K Fz H st σ fp ∧ ∃ ds st', m st = some (ds, st') ∧ ∀ J H' Fz' fp', Cfg K Fz' H' st' σ fp' → Go Fz H fp Fz' H' fp' → ItOk K Fz' H' J ds → R J H'
def SI (Γ : Gam) (Φ : GCx → Prop) (tg iter : Expr) (m : M (List D)) : Prop := ∀ X, On Γ Φ X → PI X tg iter (rdI X.K m)

theorem itl_ok {K : PySem.W.Frag} {Fz : Addr → Prop} {H : Hp} {a : Addr} {ds : List D} {vs : List V} (q : H a = some (.lst vs) ∧ Fz a ∨ SqZ K Fz H a vs) (r : RepL K Fz H ds vs []) : ItOk K Fz H (Itl K a) ds := by
  have sq : ∀ {Fz2 : Addr → Prop} {H2 : Hp}, (∀ a, Fz a → Fz2 a) → (∀ a o, Fz a → H a = some o → H2 a = some o) → SqL K H2 a vs := fun {Fz2 H2} m k => by
    rcases q with ⟨q, z⟩ | q
    · exact .inl (.inl (k a _ z q))
    · exact (sqZ_keep m k q).sq
  have hl := r.length
  refine ⟨fun {Fz2 H2 i} m k hi => ?_, fun {Fz2 H2 i} m k hi => ⟨vs, sq m k, by omega⟩, fun {Fz2 H2 i d x H3 st σ fp} m k hd C y => ?_⟩
  · exact ⟨vs, vs[i]'(by omega), sq m k, by simp⟩
  · obtain ⟨rfl, hy⟩ := y
    obtain ⟨y, g, ey, ry, hg⟩ := r.get hd
    have := hy vs (sq m k)
    rw [this] at ey
    cases ey
    cases g with
    | nil => exact ⟨Fz2, C, .refl, ry.keep m k fun _ _ h => nomatch h⟩
    | cons b l => exact absurd (hg b (List.mem_cons_self ..)) (by simp)
theorem itt_ok {K : PySem.W.Frag} {Fz : Addr → Prop} {H : Hp} {a : Addr} {ds : List D} {vs : List V} (q : H a = some (.tup vs)) (z : Fz a) (r : RepL K Fz H ds vs []) : ItOk K Fz H (Itt K a) ds := by
  have sq : ∀ {H2 : Hp}, (∀ a o, Fz a → H a = some o → H2 a = some o) → SqT K H2 a vs := fun {H2} k => .inl (.inl (k a _ z q))
  have hl := r.length
  refine ⟨fun {Fz2 H2 i} m k hi => ⟨vs, vs[i]'(by omega), sq k, by simp⟩, fun {Fz2 H2 i} m k hi => ⟨vs, sq k, by omega⟩, fun {Fz2 H2 i d x H3 st σ fp} m k hd C y => ?_⟩
  obtain ⟨rfl, hy⟩ := y
  obtain ⟨y, g, ey, ry, hg⟩ := r.get hd
  have := hy vs (sq k)
  rw [this] at ey
  cases ey
  cases g with
  | nil => exact ⟨Fz2, C, .refl, ry.keep m k fun _ _ h => nomatch h⟩
  | cons b l => exact absurd (hg b (List.mem_cons_self ..)) (by simp)
/-- a pair that the iterator lays -/
theorem pair_new {K : PySem.W.Frag} {Fz2 : Addr → Prop} {H2 : Hp} {st : S} {σ : List (Option V)} {fp : List Addr} {T : Addr} {x y : V} {d e : D} (C : Cfg K Fz2 H2 st σ fp) (hT : H2 T = none) (rx : Rep K Fz2 H2 d x []) (ry : Rep K Fz2 H2 e y []) :
    ∃ Fz3, Cfg K Fz3 (upd H2 T (.tup [x, y])) st σ fp ∧ Go Fz2 H2 fp Fz3 (upd H2 T (.tup [x, y])) fp ∧ Rep K Fz3 (upd H2 T (.tup [x, y])) (.tup [d, e]) (.ref T) [] := by
  have kk : ∀ {a u}, H2 a = some u → upd H2 T (.tup [x, y]) a = some u := fun {a u} e => by rw [upd_ne (ne_of_none e hT)]; exact e
  refine ⟨fun a => Fz2 a ∨ a = T, ⟨C.rep.keep (fun _ h => .inl h) (fun _ _ _ e => kk e) fun _ _ _ e => kk e, C.nd, fun a h z => ?_, fun a z => ?_⟩, ⟨fun _ _ e _ => kk e, fun a e => ?_, fun _ h => .inl h, fun a z => ?_, fun _ h => .inl h⟩,
    .tup upd_same (.inr rfl) (.cons (f := []) (g := []) (rx.keep (fun _ h => .inl h) (fun _ _ _ e => kk e) fun _ _ h => nomatch h) (.cons (f := []) (g := []) (ry.keep (fun _ h => .inl h) (fun _ _ _ e => kk e) fun _ _ h => nomatch h) .nil))⟩
  · rcases z with z | z
    · exact C.fz a h z
    · rw [z] at h; exact C.there T h hT
  · by_cases ea : a = T
    · rw [ea, upd_same]; exact Option.some_ne_none _
    · rw [upd_ne ea]; exact C.ft a (z.resolve_right ea)
  · by_cases ea : a = T
    · rw [ea]; exact hT
    · rw [upd_ne ea] at e; exact e
  · rcases z with z | z
    · exact .inl z
    · rw [z]; exact .inr (.inr hT)
/-- (k, item) for each item -/
def enumD : Nat → List D → List D
  | _, [] => []
  | k, d :: ds => .tup [.int (k : Nat), d] :: enumD (k + 1) ds
theorem enumD_length : ∀ (k : Nat) (ds : List D), (enumD k ds).length = ds.length
  | _, [] => rfl
  | k, d :: ds => by simp [enumD, enumD_length (k + 1) ds]
theorem enumD_get : ∀ (ds : List D) (k i : Nat) (e : D), (enumD k ds)[i]? = some e → ∃ d, ds[i]? = some d ∧ e = .tup [.int ((k + i : Nat) : Nat), d]
  | [], _, _, _, h => by simp [enumD] at h
  | d :: ds, k, 0, e, h => by simp [enumD] at h; subst h; exact ⟨d, rfl, rfl⟩
  | d :: ds, k, i + 1, e, h => by
    obtain ⟨d', h1, h2⟩ := enumD_get ds (k + 1) i e (by simpa [enumD] using h)
    refine ⟨d', by simpa using h1, ?_⟩
    rw [h2]
    congr 3
    omega
theorem ite_ok {K : PySem.W.Frag} {Fz : Addr → Prop} {H : Hp} {a : Addr} {ds : List D} {vs : List V} (q : H a = some (.lst vs) ∧ Fz a ∨ SqZ K Fz H a vs) (r : RepL K Fz H ds vs []) : ItOk K Fz H (Ite K a) (enumD 0 ds) := by
  have sq : ∀ {Fz2 : Addr → Prop} {H2 : Hp}, (∀ a, Fz a → Fz2 a) → (∀ a o, Fz a → H a = some o → H2 a = some o) → SqL K H2 a vs := fun {Fz2 H2} m k => by
    rcases q with ⟨q, z⟩ | q
    · exact .inl (.inl (k a _ z q))
    · exact (sqZ_keep m k q).sq
  have hl := r.length
  have hl2 := enumD_length 0 ds
  refine ⟨fun {Fz2 H2 i} m k hi => ⟨vs, vs[i]'(by omega), sq m k, by simp⟩, fun {Fz2 H2 i} m k hi => ⟨vs, sq m k, by omega⟩, fun {Fz2 H2 i d x H3 st σ fp} m k hd C y => ?_⟩
  obtain ⟨T, x, rfl, hT, rfl, hy⟩ := y
  obtain ⟨d', hd', rfl⟩ := enumD_get ds 0 i d hd
  obtain ⟨y, g, ey, ry, hg⟩ := r.get hd'
  have := hy vs (sq m k)
  rw [this] at ey
  cases ey
  cases g with
  | nil =>
    rw [Nat.zero_add]
    exact pair_new C hT (.int _) (ry.keep m k fun _ _ h => nomatch h)
  | cons b l => exact absurd (hg b (List.mem_cons_self ..)) (by simp)
theorem iteT_ok {K : PySem.W.Frag} {Fz : Addr → Prop} {H : Hp} {a : Addr} {ds : List D} {vs : List V} (q : H a = some (.tup vs)) (z : Fz a) (r : RepL K Fz H ds vs []) : ItOk K Fz H (IteT K a) (enumD 0 ds) := by
  have sq : ∀ {H2 : Hp}, (∀ a o, Fz a → H a = some o → H2 a = some o) → SqT K H2 a vs := fun {H2} k => .inl (.inl (k a _ z q))
  have hl := r.length
  have hl2 := enumD_length 0 ds
  refine ⟨fun {Fz2 H2 i} m k hi => ⟨vs, vs[i]'(by omega), sq k, by simp⟩, fun {Fz2 H2 i} m k hi => ⟨vs, sq k, by omega⟩, fun {Fz2 H2 i d x H3 st σ fp} m k hd C y => ?_⟩
  obtain ⟨T, x, rfl, hT, rfl, hy⟩ := y
  obtain ⟨d', hd', rfl⟩ := enumD_get ds 0 i d hd
  obtain ⟨y, g, ey, ry, hg⟩ := r.get hd'
  have := hy vs (sq k)
  rw [this] at ey
  cases ey
  cases g with
  | nil =>
    rw [Nat.zero_add]
    exact pair_new C hT (.int _) (ry.keep m k fun _ _ h => nomatch h)
  | cons b l => exact absurd (hg b (List.mem_cons_self ..)) (by simp)
/-- (a, b) for the items of two -/
def zipD : List D → List D → List D
  | x :: xs, y :: ys => .tup [x, y] :: zipD xs ys
  | _, _ => []
theorem zipD_get : ∀ (xs ys : List D) (i : Nat) (e : D), (zipD xs ys)[i]? = some e → ∃ a b, xs[i]? = some a ∧ ys[i]? = some b ∧ e = .tup [a, b]
  | [], _, _, _, h => by simp [zipD] at h
  | _ :: _, [], _, _, h => by simp [zipD] at h
  | x :: xs, y :: ys, 0, e, h => by simp [zipD] at h; subst h; exact ⟨x, y, rfl, rfl, rfl⟩
  | x :: xs, y :: ys, i + 1, e, h => by
    obtain ⟨a, b, h1, h2, h3⟩ := zipD_get xs ys i e (by simpa [zipD] using h)
    exact ⟨a, b, by simpa using h1, by simpa using h2, h3⟩
theorem zipD_length : ∀ (xs ys : List D), (zipD xs ys).length = min xs.length ys.length
  | [], ys => by simp [zipD]
  | x :: xs, [] => by simp [zipD]
  | x :: xs, y :: ys => by simp [zipD, zipD_length xs ys]
theorem itz_ok {K : PySem.W.Frag} {Fz : Addr → Prop} {H : Hp} {a b : Addr} {ds es : List D} {vs ws : List V} (q : H a = some (.lst vs)) (z : Fz a) (q' : H b = some (.lst ws)) (z' : Fz b) (r : RepL K Fz H ds vs []) (r' : RepL K Fz H es ws []) : ItOk K Fz H (Itz K a b) (zipD ds es) := by
  have sq : ∀ {H2 : Hp}, (∀ a o, Fz a → H a = some o → H2 a = some o) → SqL K H2 a vs := fun {H2} k => .inl (.inl (k a _ z q))
  have sq' : ∀ {H2 : Hp}, (∀ a o, Fz a → H a = some o → H2 a = some o) → SqL K H2 b ws := fun {H2} k => .inl (.inl (k b _ z' q'))
  have hl := r.length
  have hl' := r'.length
  have hl2 := zipD_length ds es
  refine ⟨fun {Fz2 H2 i} m k hi => ⟨vs, ws, vs[i]'(by omega), ws[i]'(by omega), sq k, sq' k, by simp, by simp⟩, fun {Fz2 H2 i} m k hi => ⟨vs, ws, sq k, sq' k, by omega⟩, fun {Fz2 H2 i d x H3 st σ fp} m k hd C y => ?_⟩
  obtain ⟨T, x, y, rfl, hT, rfl, hx, hy⟩ := y
  obtain ⟨d1, d2, h1, h2, rfl⟩ := zipD_get ds es i d hd
  obtain ⟨y1, g, ey, ry, hg⟩ := r.get h1
  obtain ⟨y2, g', ey', ry', hg'⟩ := r'.get h2
  rw [hx vs (sq k)] at ey
  rw [hy ws (sq' k)] at ey'
  cases ey
  cases ey'
  cases g with
  | nil =>
    cases g' with
    | nil => exact pair_new C hT (ry.keep m k fun _ _ h => nomatch h) (ry'.keep m k fun _ _ h => nomatch h)
    | cons b l => exact absurd (hg' b (List.mem_cons_self ..)) (by simp)
  | cons b l => exact absurd (hg b (List.mem_cons_self ..)) (by simp)
theorem itzT_ok {K : PySem.W.Frag} {Fz : Addr → Prop} {H : Hp} {a b : Addr} {ds es : List D} {vs ws : List V} (q : H a = some (.tup vs)) (z : Fz a) (q' : H b = some (.tup ws)) (z' : Fz b) (r : RepL K Fz H ds vs []) (r' : RepL K Fz H es ws []) : ItOk K Fz H (RZ.ItzT K a b) (zipD ds es) := by
  have sq : ∀ {H2 : Hp}, (∀ a o, Fz a → H a = some o → H2 a = some o) → SqT K H2 a vs := fun {H2} k => .inl (.inl (k a _ z q))
  have sq' : ∀ {H2 : Hp}, (∀ a o, Fz a → H a = some o → H2 a = some o) → SqT K H2 b ws := fun {H2} k => .inl (.inl (k b _ z' q'))
  have hl := r.length
  have hl' := r'.length
  have hl2 := zipD_length ds es
  refine ⟨fun {Fz2 H2 i} m k hi => ⟨vs, ws, vs[i]'(by omega), ws[i]'(by omega), sq k, sq' k, by simp, by simp⟩, fun {Fz2 H2 i} m k hi => ⟨vs, ws, sq k, sq' k, by omega⟩, fun {Fz2 H2 i d x H3 st σ fp} m k hd C y => ?_⟩
  obtain ⟨T, x, y, rfl, hT, rfl, hx, hy⟩ := y
  obtain ⟨d1, d2, h1, h2, rfl⟩ := zipD_get ds es i d hd
  obtain ⟨y1, g, ey, ry, hg⟩ := r.get h1
  obtain ⟨y2, g', ey', ry', hg'⟩ := r'.get h2
  rw [hx vs (sq k)] at ey
  rw [hy ws (sq' k)] at ey'
  cases ey
  cases ey'
  cases g with
  | nil =>
    cases g' with
    | nil => exact pair_new C hT (ry.keep m k fun _ _ h => nomatch h) (ry'.keep m k fun _ _ h => nomatch h)
    | cons b l => exact absurd (hg' b (List.mem_cons_self ..)) (by simp)
  | cons b l => exact absurd (hg b (List.mem_cons_self ..)) (by simp)
end Va
/-! Va15: for, list comprehensions -/
namespace Va
open PySem PySem.Spec PyProof.Rows L2

/-! ### the items of a datum that is walked: it is frozen -/
def mItems (m : M D) : M (List D) := fun st => match m st with
  | some (d, s) => match seqOf (frzA d) with
    | some (_, xs) => some (xs, s)
    | none => none
  | none => none
section
variable {K : PySem.W.Frag}
/-- the front datum is frozen, and is left -/
theorem Cfg.frz1 {Fz : Addr → Prop} {H : Hp} {d : D} {v : V} {s : S} {σ : List (Option V)} {fp : List Addr} (C : Cfg K Fz H (some d :: s) (some v :: σ) fp) :
    ∃ Fz' f, Cfg K Fz' H s σ f ∧ Rep K Fz' H (frzA d) v [] ∧ Go Fz H fp Fz' H f := by
  obtain ⟨F, f, C1, r, g⟩ := Cfg.frzTemps (ds := [d]) (vs := [v]) rfl C
  obtain ⟨y, e, r'⟩ := r.get0 (i := 0) (x := frzA d) rfl
  cases e
  exact ⟨F, f, C1, r', g⟩
end
theorem frz_imm : ∀ d : D, imm (frz d) = true
  | .lst true _ => by simp [frz, imm]
  | .lst false _ => by simp [frz, imm]
  | .dic true _ => by simp [frz, imm]
  | .dic false _ => by simp [frz, imm]
  | .non => rfl | .bl _ => rfl | .int _ => rfl | .str _ => rfl | .tup _ => rfl | .rol _ => rfl
theorem frzA_imm (d : D) : imm (frzA d) = true := by
  unfold frzA
  split
  · assumption
  · exact frz_imm d
section
variable {Γ : Gam} {Φ : GCx → Prop}
/-- a datum by its value -/
theorem si_e {tg e : Expr} {m : M D} (h : SE Γ Φ e m) : SI Γ Φ tg e (mItems m) := fun X o => by
  have P : PI X tg e (fun σ H R => iList X.K (rd X.K m) σ H R ∨ iTup X.K (rd X.K m) σ H R) := ⟨fun pins s σ H R I q => q.elim ((pi_list (h X o)).run pins s σ H R I) ((pi_tup (h X o)).run pins s σ H R I)⟩
  refine pi_imp P fun σ H R q => ?_
  obtain ⟨Fz, fp, st, C, ds, st', e, k⟩ := q
  unfold mItems at e
  split at e
  · rename_i d s hm
    split at e
    · rename_i b xs hq
      cases e
      have base : ∀ {v H' Fz' fp'}, Cfg X.K Fz' H' (some d :: st') (some v :: σ) fp' → Go Fz H fp Fz' H' fp' → ∃ Fz2 f2 , Cfg X.K Fz2 H' st' σ f2 ∧ Go Fz H fp Fz2 H' f2 ∧ Rep X.K Fz2 H' (frzA d) v [] := fun {v H' Fz' fp'} C1 g1 => by
        obtain ⟨F2, f2, C2, r2, g2⟩ := C1.frz1
        exact ⟨F2, f2, C2, g1.trans g2, r2⟩
      cases b with
      | true =>
        right
        refine ⟨Fz, fp, st, C, _, _, hm, fun v H' Fz' fp' C1 g1 => ?_⟩
        obtain ⟨F2, f2, C2, g2, r2⟩ := base C1 g1
        cases hd : frzA d <;> rw [hd] at hq r2 <;> simp [seqOf] at hq
        subst hq
        cases r2 with
        | tup q z r => exact ⟨_, rfl, ⟨_, .inl (.inl q)⟩, k _ H' F2 f2 C2 g2 (itt_ok q z r)⟩
      | false =>
        left
        refine ⟨Fz, fp, st, C, _, _, hm, fun v H' Fz' fp' C1 g1 => ?_⟩
        obtain ⟨F2, f2, C2, g2, r2⟩ := base C1 g1
        cases hd : frzA d <;> rw [hd] at hq r2 <;> simp [seqOf] at hq
        · subst hq
          cases r2 with
          | rol q r => exact ⟨_, rfl, ⟨_, q.sq⟩, k _ H' F2 f2 C2 g2 (itl_ok (.inr q) r)⟩
        · subst hq
          have hi := frzA_imm d
          rw [hd] at hi
          generalize hfp : ([] : List Addr) = ff at r2
          cases r2 with
          | lstF q z r => exact ⟨_, rfl, ⟨_, .inl (.inl q)⟩, k _ H' F2 f2 C2 g2 (itl_ok (.inl ⟨q, z⟩) r)⟩
          | lstO q r => simp [imm] at hi
    · cases e
  · cases e
/-- enumerate(e) -/
def mEnum (m : M D) : M (List D) := fun st => match mItems m st with
  | some (ds, s) => some (enumD 0 ds, s)
  | none => none
theorem si_enum {e : Expr} {m : M D} {p pos tpos : Pos} {elts : List Expr} {kk : Nat} (h : SE Γ Φ e m) (hb : ∀ g, Φ g → g.mg "enumerate" = none) (hg : gGl Γ.sc "enumerate" = true := by rfl) (ns : NoStar e := by intro _ _; rfl) (ns0 : ∀ env : Env, starEach ([] : List Expr) env = [] := by intro _; rfl) :
    SI Γ Φ (.Tuple elts kk tpos) (.Call (.Name "enumerate" p) [e] [] pos) (mEnum m) := fun X o => by
  have pa := pa_cons (h X o) (pa_nil (X := X)) (ns _ _)
  have P : PI X (.Tuple elts kk tpos) (.Call (.Name "enumerate" p) [e] [] pos) (fun σ H R => iEnum X.K (tCons (rd X.K m) tNil) σ H R ∨ iEnumT X.K (tCons (rd X.K m) tNil) σ H R) :=
    ⟨fun pins s σ H R I q => q.elim ((pi_enum (o.gl hg) (hb _ o.phi) pa (by rw [ns, ns0])).run pins s σ H R I) ((pi_enumT (o.gl hg) (hb _ o.phi) pa (ns _ _)).run pins s σ H R I)⟩
  refine pi_imp P fun σ H R q => ?_
  obtain ⟨Fz, fp, st, C, ds, st', e, k⟩ := q
  unfold mEnum at e
  split at e
  · rename_i ds' s' hm'
    cases e
    unfold mItems at hm'
    split at hm'
    · rename_i d s hm
      split at hm'
      · rename_i b xs hq
        cases hm'
        have base : ∀ {v H' Fz' fp'}, Cfg X.K Fz' H' (some d :: st') (some v :: σ) fp' → Go Fz H fp Fz' H' fp' → ∃ Fz2 f2 , Cfg X.K Fz2 H' st' σ f2 ∧ Go Fz H fp Fz2 H' f2 ∧ Rep X.K Fz2 H' (frzA d) v [] := fun {v H' Fz' fp'} C1 g1 => by
          obtain ⟨F2, f2, C2, r2, g2⟩ := C1.frz1
          exact ⟨F2, f2, C2, g1.trans g2, r2⟩
        cases b with
        | true =>
          right
          refine ⟨Fz, fp, st, C, _, _, hm, fun v H' Fz' fp' C1 g1 => ?_⟩
          obtain ⟨F2, f2, C2, g2, r2⟩ := base C1 g1
          cases hd : frzA d <;> rw [hd] at hq r2 <;> simp [seqOf] at hq
          subst hq
          cases r2 with
          | tup q z r => exact ⟨_, _, rfl, .inl (.inl q), k _ H' F2 f2 C2 g2 (iteT_ok q z r)⟩
        | false =>
          left
          refine ⟨Fz, fp, st, C, _, _, hm, fun v H' Fz' fp' C1 g1 => ?_⟩
          obtain ⟨F2, f2, C2, g2, r2⟩ := base C1 g1
          cases hd : frzA d <;> rw [hd] at hq r2 <;> simp [seqOf] at hq
          · subst hq
            cases r2 with
            | rol q r => exact ⟨_, _, rfl, q.sq, k _ H' F2 f2 C2 g2 (ite_ok (.inr q) r)⟩
          · subst hq
            have hi := frzA_imm d
            rw [hd] at hi
            generalize hfp : ([] : List Addr) = ff at r2
            cases r2 with
            | lstF q z r => exact ⟨_, _, rfl, .inl (.inl q), k _ H' F2 f2 C2 g2 (ite_ok (.inl ⟨q, z⟩) r)⟩
            | lstO q r => simp [imm] at hi
      · cases hm'
    · cases hm'
  · cases e
/-- range(a), range(a, b) -/
def mRg1 (m : M D) : M (List D) := fun st => match m st with
  | some (.int n, s) => match smallI n with
    | true => some (rgD 0 n, s)
    | false => none
  | _ => none
def mRg2 (m m' : M D) : M (List D) := fun st => match m st with
  | some (.int a, s) => match m' s with
    | some (.int b, s') => match smallI a && smallI b with
      | true => some (rgD a b, s')
      | false => none
    | _ => none
  | _ => none
theorem rgD_get {a b : Int} {i : Nat} {d : D} (h : (rgD a b)[i]? = some d) : d = .int (a + (i : Nat)) := by
  unfold rgD at h
  rw [List.getElem?_map] at h
  cases e : (List.range (b - a).toNat)[i]? with
  | none => rw [e] at h; cases h
  | some j =>
    rw [e] at h
    obtain ⟨h1, h2⟩ := List.getElem?_eq_some_iff.mp e
    rw [List.getElem_range] at h2
    cases h
    rw [h2]
theorem itr_ok {K : PySem.W.Frag} {Fz : Addr → Prop} {H : Hp} {a b : Int} : ItOk K Fz H (Itr a (b - a).toNat) (rgD a b) := by
  have hl : (rgD a b).length = (b - a).toNat := by unfold rgD; simp
  refine ⟨fun m k hi => by rw [hl] at hi; exact hi, fun m k hi => by rw [hl] at hi; exact hi, fun {Fz2 H2 i d x H3 st σ fp} m k hd C y => ?_⟩
  obtain ⟨rfl, rfl⟩ := y
  have := rgD_get hd
  subst this
  exact ⟨Fz2, C, .refl, .int _⟩
theorem si_rg1 {tg e : Expr} {m : M D} {p pos : Pos} (h : SE Γ Φ e m) (hb : ∀ g, Φ g → g.mg "range" = none) (hg : gGl Γ.sc "range" = true := by rfl) (ns : NoStar e := by intro _ _; rfl) : SI Γ Φ tg (.Call (.Name "range" p) [e] [] pos) (mRg1 m) := fun X o =>
  pi_imp (pi_range1 (o.gl hg) (hb _ o.phi) (pa_cons (h X o) pa_nil (ns _ _)) (by exact ns _ _)) fun σ H R q => by
    obtain ⟨Fz, fp, st, C, ds, st', e, k⟩ := q
    unfold mRg1 at e
    split at e
    · rename_i n s hm
      split at e
      · rename_i hs
        cases e
        refine ⟨Fz, fp, st, C, _, _, hm, fun v H' Fz' fp' C1 g1 => ?_⟩
        obtain ⟨v', f, e', r, _⟩ := C1.head
        cases e'
        obtain ⟨f2, C2, h2⟩ := C1.drop
        have hs' := smallI_ok hs
        have hk := k (Itr 0 (n - 0).toNat) H' Fz' f2 C2 (g1.sub h2) itr_ok
        rw [Int.sub_zero] at hk
        exact ⟨n, by rw [r.inti], hs'.1, hs'.2, hk⟩
      · cases e
    · cases e
theorem si_rg2 {tg e e' : Expr} {m m' : M D} {p pos : Pos} (h : SE Γ Φ e m) (h' : SE Γ Φ e' m') (hb : ∀ g, Φ g → g.mg "range" = none) (hg : gGl Γ.sc "range" = true := by rfl) (ns : NoStar e := by intro _ _; rfl) (ns' : NoStar e' := by intro _ _; rfl) (ns0 : ∀ env : Env, starEach ([] : List Expr) env = [] := by intro _; rfl) :
    SI Γ Φ tg (.Call (.Name "range" p) [e, e'] [] pos) (mRg2 m m') := fun X o =>
  pi_imp (pi_range2 (o.gl hg) (hb _ o.phi) (pa_cons (h X o) (pa_cons (h' X o) pa_nil (ns' _ _)) (ns _ _)) (by rw [ns, ns', ns0]) (by rw [ns', ns0])) fun σ H R q => by
    obtain ⟨Fz, fp, st, C, ds, st', e, k⟩ := q
    unfold mRg2 at e
    split at e
    · rename_i a s hm
      split at e
      · rename_i b s' hm'
        split at e
        · rename_i hs
          cases e
          simp only [Bool.and_eq_true] at hs
          have s1 := smallI_ok hs.1
          have s2 := smallI_ok hs.2
          refine ⟨Fz, fp, st, C, _, _, hm, fun v H' Fz' fp' C1 g1 => ?_⟩
          obtain ⟨v', f, e', r, _⟩ := C1.head
          have e2 := Option.some.inj e'
          subst e2
          refine rd.run (P := [some (.int a)]) (PV := [some v]) C1 rfl hm' fun w H2 Fz2 fp2 C2 g2 => ?_
          obtain ⟨w', f', e', r', _⟩ := C2.head
          cases e'
          obtain ⟨f3, C3, h3⟩ := C2.drop
          obtain ⟨f4, C4, h4⟩ := Cfg.drop (st := st') (σ := σ) (x := some (.int a)) (y := some v) C3
          exact ⟨a, b, by rw [r.inti, r'.inti], ⟨s1.1, s1.2, s2.1, s2.2⟩, k _ H2 Fz2 f4 C4 ((g1.trans g2).sub fun x h => h3 x (h4 x h)) itr_ok⟩
        · cases e
      · cases e
    · cases e
end

/-! ### for -/
def forL (t : Tgt) (b : M Fl) : List D → M Fl
  | [] => fun st => some (.nx, st)
  | d :: ds => fun st => match asgT t d st with
    | some s => match b s with
      | some (.nx, s') => forL t b ds s'
      | some (.ct, s') => forL t b ds s'
      | some (.bk, s') => some (.nx, s')
      | some (.ret d, s') => some (.ret d, s')
      | none => none
    | none => none
def mFor (mi : M (List D)) (t : Tgt) (b : M Fl) : M Fl := fun st => match mi st with
  | some (ds, s) => forL t b ds s
  | none => none
section
variable {Γ : Gam} {Φ : GCx → Prop} {RO : Nat → Bool}
theorem s_for {tg iter : Expr} {body : List Stmt} {mi : M (List D)} {t : Tgt} {mb : M Fl} {pos : Pos} (hi : SI Γ Φ tg iter mi) (ht : SG Γ Φ tg t) (hb : SS Γ Φ RO body mb) (hro : t.slots.all (fun i => !RO i) = true := by rfl) (hs : ∀ (env : Env) x, foldedSetIterable iter env x = pure x := by intro _ _; rfl) :
    ST1 Γ Φ RO (.For tg iter body [] pos) (mFor mi t mb) := fun X o hp => by
  have gok : GOk X.K t (tgG X.K t) := tgG_ok t
  refine ps_imp (ps_for hp o.calm (hi X o) (ht X o) (hb X o hp) (hs _)) fun D' σ0 H0 q => ?_
  obtain ⟨Fz0, fp0, st0, C0, fl, st', e0, k0⟩ := q
  unfold mFor at e0
  split at e0
  · rename_i ds s0 hm0
    refine ⟨Fz0, fp0, st0, C0, ds, s0, hm0, fun J H1 Fz1 fp1 C1 g1 it => ?_⟩
    refine ⟨fun i m σ H => ∃ Fz fp st, Cfg X.K Fz H st σ fp ∧ m + i = ds.length ∧ forL t mb (ds.drop i) st = some (fl, st') ∧ (∀ i, RO i = true → σ[i]? = σ0[i]?) ∧ Go Fz0 H0 fp0 Fz H fp ∧ Go Fz1 H1 fp1 Fz H fp,
      ⟨ds.length, Fz1, fp1, s0, C1, rfl, e0, fun _ _ => rfl, g1, .refl⟩, ?_⟩
    rintro i m σ H ⟨Fz, fp, st, C, hmi, e, ro, gg, gl⟩
    have zk : ∀ a o, Fz1 a → H1 a = some o → H a = some o := fun a o z e => gl.keep a o e fun q => C1.fz a q z
    by_cases hlt : i < ds.length
    · right
      refine ⟨it.go gl.fzm zk hlt, fun σ' H' => ∃ Fz fp st, Cfg X.K Fz H' st σ' fp ∧ forL t mb (ds.drop (i + 1)) st = some (fl, st') ∧ (∀ i, RO i = true → σ'[i]? = σ0[i]?) ∧ Go Fz0 H0 fp0 Fz H' fp ∧ Go Fz1 H1 fp1 Fz H' fp,
        fun σ' H' ⟨Fz, fp, st, C, e, ro, g, g'⟩ => ⟨m - 1, by omega, Fz, fp, st, C, by omega, e, ro, g, g'⟩, fun x H' y => ?_⟩
      have hd : ds[i]? = some ds[i] := List.getElem?_eq_getElem hlt
      rw [List.drop_eq_getElem_cons hlt] at e
      obtain ⟨Fz3, C3, g3, r3⟩ := it.yld gl.fzm zk hd C y
      unfold forL at e
      split at e
      · rename_i s ha
        refine gok ha C3 r3 fun σ' fp' C4 h4 hlen hns => ?_
        have ro4 : ∀ i, RO i = true → σ'[i]? = σ0[i]? := fun j hj => by
          rw [hns j fun hm => ?_]
          · exact ro j hj
          · rw [List.all_eq_true] at hro
            have := hro j hm
            rw [hj] at this; cases this
        have ga := (gg.trans g3).sub h4
        have gb := (gl.trans g3).sub h4
        split at e
        · rename_i s' hb'
          exact ⟨Fz3, fp', s, C4, .nx, s', hb', fun σ2 H2 Fz2 fp2 r2 g2 C2 => ⟨Fz2, fp2, s', C2, e, fun i hi => (r2 i hi).trans (ro4 i hi), ga.trans g2, gb.trans g2⟩⟩
        · rename_i s' hb'
          exact ⟨Fz3, fp', s, C4, .ct, s', hb', fun σ2 H2 Fz2 fp2 r2 g2 C2 => ⟨Fz2, fp2, s', C2, e, fun i hi => (r2 i hi).trans (ro4 i hi), ga.trans g2, gb.trans g2⟩⟩
        · rename_i s' hb'
          cases e
          exact ⟨Fz3, fp', s, C4, .bk, _, hb', fun σ2 H2 Fz2 fp2 r2 g2 C2 => k0 σ2 H2 Fz2 fp2 (fun i hi => (r2 i hi).trans (ro4 i hi)) (ga.trans g2) C2⟩
        · rename_i d s' hb'
          cases e
          exact ⟨Fz3, fp', s, C4, .ret d, _, hb', fun σ2 H2 Fz2 fp2 r2 g2 v C2 => k0 σ2 H2 Fz2 fp2 (fun i hi => (r2 i hi).trans (ro4 i hi)) (ga.trans g2) v C2⟩
        · cases e
      · cases e
    · left
      refine ⟨it.stop gl.fzm zk (by omega), ?_⟩
      rw [List.drop_eq_nil_of_le (by omega)] at e
      cases e
      exact k0 σ H Fz fp ro gg C
  · cases e0
end
end Va
/-! Va16: list comprehensions -/
namespace Va
open PySem PySem.Spec PyProof.Rows L2

def relS (scope sc : Scope) : Scope := relabel scope (envS sc)
theorem relabel_eq {scope : Scope} {env : Env} {sc : Scope} (h : env.scope = sc) : relabel scope env = relS scope sc := by
  have h2 : env.kindOf = (envS sc).kindOf := by funext x; unfold Env.kindOf; rw [h]; rfl
  unfold relS relabel
  rw [h2, h]
  rfl
/-- a comprehension's block -/
def Gam.blk (Γ : Gam) (scope : Scope) : Gam := { N := Γ.N, sc := relS scope Γ.sc, fnm := fun x => scope.names.lookup x == some .cell }
theorem On.blk {Γ : Gam} {Φ : GCx → Prop} {X : Cx} (o : On Γ Φ X) {scope : Scope} (hk : (relS scope Γ.sc).kind = .function) (s : Shared) (H : Hp) (C : Addr) (cl : List (Str × Addr)) (fp : List Addr) : On (Γ.blk scope) Φ (X.blk s H scope (compEnvC scope cl C X.env) fp) where
  N := o.N
  sc := relabel_eq o.sc
  nd := o.nd
  calm := o.calm
  kind := by
    show (relabel scope X.env).kind = .function
    rw [relabel_eq o.sc]; exact hk
  fn := fun x h => h
  hu := o.hu
  phi := o.phi

/-! ### the block's own slots are hidden -/
def wipeS (s : S) : List Nat → S
  | [] => s
  | v :: vs => (wipeS s vs).set v none
/-- the slots as they were ahead of the block -/
def backS (orig : S) (s : S) : List Nat → S
  | [] => s
  | v :: vs => (backS orig s vs).set v (orig[v]?.getD none)
def backT (orig : L2.St) (σ : L2.St) : List Nat → L2.St
  | [] => σ
  | v :: vs => (backT orig σ vs).set v (orig[v]?.getD none)
def ownOk (s : S) (own : List Nat) : Bool := own.all fun v => match s[v]? with
  | some (some d) => imm d
  | _ => true
section
variable {K : PySem.W.Frag} {Fz : Addr → Prop} {H : Hp} {s : S} {σ : L2.St} {fp : List Addr}
theorem Cfg.unset {i : Nat} {y : Option V} (C : Cfg K Fz H s σ fp) : ∃ fp', Cfg K Fz H (s.set i none) (σ.set i y) fp' ∧ ∀ a ∈ fp', a ∈ fp := by
  by_cases hi : i < s.length
  · obtain ⟨R, nd, fz, ft⟩ := C
    obtain ⟨y0, f1, g1, ey, ro, p, put⟩ := R.at (i := i) (List.getElem?_eq_getElem hi)
    obtain ⟨fp', R', p'⟩ := put (Fz' := Fz) (H' := H) (fun {e w kk} _ ro => ro) (x' := none) (y' := y) .skip
    have nd1 := p.nodup_iff.mp nd
    have sub : ∀ a ∈ fp', a ∈ fp := fun a h => p.mem_iff.mpr (List.mem_append_right _ (by simpa using p'.mem_iff.mp h))
    exact ⟨fp', ⟨R', p'.nodup_iff.mpr (by simpa using (List.nodup_append.mp nd1).2.1), fun a h => fz a (sub a h), ft⟩, sub⟩
  · have hl := C.rep.length
    rw [List.set_eq_of_length_le (by omega), List.set_eq_of_length_le (by omega)]
    exact ⟨fp, C, fun _ h => h⟩
theorem Cfg.wipe (C : Cfg K Fz H s σ fp) : ∀ vs : List Nat, ∃ fp', Cfg K Fz H (wipeS s vs) (L2.wipe σ vs) fp' ∧ ∀ a ∈ fp', a ∈ fp
  | [] => ⟨fp, C, fun _ h => h⟩
  | v :: vs => by
    obtain ⟨f1, C1, h1⟩ := C.wipe vs
    obtain ⟨f2, C2, h2⟩ := C1.unset (i := v) (y := none)
    exact ⟨f2, C2, fun a h => h1 a (h2 a h)⟩
theorem backT_back {σ : L2.St} : ∀ vs : List Nat, backT σ (L2.wipe σ vs) vs = σ
  | [] => rfl
  | v :: vs => by
    have ih := backT_back (σ := σ) vs
    have hset : ∀ (vs : List Nat) (τ : L2.St) (w : Nat), backT σ (τ.set w none) vs = (backT σ τ vs).set w none ∨ ∃ x, backT σ (τ.set w none) vs = (backT σ τ vs).set w x := fun vs => by
      induction vs with
      | nil => intro τ w; exact .inl rfl
      | cons u us ih =>
        intro τ w
        right
        by_cases e : u = w
        · subst e
          rcases ih τ u with h | ⟨x, h⟩
          · exact ⟨_, by unfold backT; rw [h, List.set_set]; exact (List.set_set ..).symm⟩
          · exact ⟨_, by unfold backT; rw [h, List.set_set]; exact (List.set_set ..).symm⟩
        · rcases ih τ w with h | ⟨x, h⟩
          · exact ⟨none, by unfold backT; rw [h, List.set_comm _ _ (Ne.symm e)]⟩
          · exact ⟨x, by unfold backT; rw [h, List.set_comm _ _ (Ne.symm e)]⟩
    have fin : ∀ x, (σ.set v x).set v (σ[v]?.getD none) = σ := fun x => by
      rw [List.set_set]
      by_cases hv : v < σ.length
      · exact set_same (by rw [List.getElem?_eq_getElem hv]; rfl)
      · exact List.set_eq_of_length_le (by omega)
    show (backT σ ((L2.wipe σ vs).set v none) vs).set v (σ[v]?.getD none) = σ
    rcases hset vs (L2.wipe σ vs) v with h | ⟨x, h⟩
    · rw [h, ih]; exact fin _
    · rw [h, ih]; exact fin _
/-- what was hidden comes back -/
theorem Cfg.back {Fz0 : Addr → Prop} {H0 : Hp} {s0 : S} {σ0 : L2.St} {fp0 : List Addr} (C0 : Cfg K Fz0 H0 s0 σ0 fp0) (m : ∀ a, Fz0 a → Fz a) (k : ∀ a o, Fz0 a → H0 a = some o → H a = some o) (C : Cfg K Fz H s σ fp) : ∀ vs : List Nat, ownOk s0 vs = true → ∃ fp', Cfg K Fz H (backS s0 s vs) (backT σ0 σ vs) fp' ∧ ∀ a ∈ fp', a ∈ fp
  | [], _ => ⟨fp, C, fun _ h => h⟩
  | v :: vs, ok => by
    simp only [ownOk, List.all_cons, Bool.and_eq_true] at ok
    obtain ⟨f1, C1, h1⟩ := C0.back m k C vs ok.2
    have ok1 := ok.1
    unfold backS backT
    cases e : s0[v]? with
    | none =>
      obtain ⟨f2, C2, h2⟩ := C1.unset (i := v) (y := σ0[v]?.getD none)
      exact ⟨f2, C2, fun a h => h1 a (h2 a h)⟩
    | some od =>
      cases od with
      | none =>
        obtain ⟨f2, C2, h2⟩ := C1.unset (i := v) (y := σ0[v]?.getD none)
        exact ⟨f2, C2, fun a h => h1 a (h2 a h)⟩
      | some d =>
        rw [e] at ok1
        obtain ⟨w, f, ew, rw', _⟩ := C0.get e
        have := rw'.imm ok1
        subst this
        rw [ew]
        obtain ⟨f2, C2, h2⟩ := store0 (i := v) C1 (rw'.keep m k fun _ _ h => nomatch h)
        exact ⟨f2, C2, fun a h => h1 a (h2 a h)⟩
/-- a datum goes to the end of an owned list -/
theorem Cfg.push {d : D} {xs : List D} {v : V} {D0 : Addr} (C : Cfg K Fz H (some d :: some (.lst true xs) :: s) (some v :: some (.ref D0) :: σ) fp) : ∃ acc, H D0 = some (.lst acc) ∧ acc.length = xs.length ∧
    ∃ fp', Cfg K Fz (upd H D0 (.lst (acc ++ [v]))) (some (.lst true (xs ++ [d])) :: s) (some (.ref D0) :: σ) fp' ∧ Go Fz H fp Fz (upd H D0 (.lst (acc ++ [v]))) fp' := by
  obtain ⟨R, nd, fz, ft⟩ := C
  cases R with
  | @cons _ _ f1 g1 _ _ r1 rr =>
    cases rr with
    | @cons _ _ f2 g2 _ _ r2 rs =>
      cases r1 with
      | som rd =>
        cases r2 with
        | som rl =>
          cases rl with
          | @lstO _ _ acc f3 q r3 =>
            have nd1 := List.nodup_append.mp nd
            have nd2 := List.nodup_append.mp nd1.2.1
            have nd3 := List.nodup_cons.mp nd2.1
            have k1 : ∀ b o, b ≠ D0 → H b = some o → upd H D0 (.lst (acc ++ [v])) b = some o := fun b o hb e => by rw [upd_ne hb]; exact e
            have nz : ∀ a, Fz a → a ≠ D0 := fun a z e => fz D0 (List.mem_append_right _ (List.mem_append_left _ (List.mem_cons_self ..))) (e ▸ z)
            have kz : ∀ a o, Fz a → H a = some o → upd H D0 (.lst (acc ++ [v])) a = some o := fun a o z e => k1 a o (nz a z) e
            have n1 : ∀ a ∈ f1, a ≠ D0 := fun a h e => nd1.2.2 a h D0 (List.mem_append_left _ (List.mem_cons_self ..)) e
            have n3 : ∀ a ∈ f3, a ≠ D0 := fun a h e => nd3.1 (e ▸ h)
            have n2 : ∀ a ∈ g2, a ≠ D0 := fun a h e => nd2.2.2 D0 (List.mem_cons_self ..) a h e.symm
            have p : (D0 :: (f3 ++ (f1 ++ [])) ++ g2).Perm (f1 ++ (D0 :: f3 ++ g2)) := by
              rw [List.append_nil]
              refine ((List.perm_append_comm (l₁ := f3) (l₂ := f1)).cons D0 |>.append_right g2).trans ?_
              show (D0 :: ((f1 ++ f3) ++ g2)).Perm (f1 ++ (D0 :: (f3 ++ g2)))
              rw [List.append_assoc]
              exact List.perm_middle.symm
            have R' : RepS K Fz (upd H D0 (.lst (acc ++ [v]))) (some (.lst true (xs ++ [d])) :: s) (some (.ref D0) :: σ) (D0 :: (f3 ++ (f1 ++ [])) ++ g2) :=
              .cons (.som (.lstO upd_same ((r3.keep (fun _ h => h) kz fun a o h e => k1 a o (n3 a h) e).app (.cons (rd.keep (fun _ h => h) kz fun a o h e => k1 a o (n1 a h) e) .nil)))) (rs.keep (fun _ h => h) kz fun a o h e => k1 a o (n2 a h) e)
            have mem : D0 ∈ f1 ++ (D0 :: f3 ++ g2) := List.mem_append_right _ (List.mem_append_left _ (List.mem_cons_self ..))
            refine ⟨acc, q, (RepL.length r3).symm, _, ⟨R', p.nodup_iff.mpr nd, fun a h => fz a (p.mem_iff.mp h), fun a z e => ?_⟩, ⟨fun a o e n => k1 a o (fun ea => n (ea ▸ mem)) e, fun a e => ?_, fun _ h => h, fun _ h => .inl h, fun a h => .inl (p.mem_iff.mp h)⟩⟩
            · rw [upd_ne (nz a z)] at e; exact ft a z e
            · by_cases ea : a = D0
              · subst ea; rw [upd_same] at e; cases e
              · rw [upd_ne ea] at e; exact e
end

/-! ### the comprehension -/
def lcL (t : Tgt) (mt : M Bool) (me : M D) (own : List Nat) : List D → M (List D)
  | [] => fun st => some ([], st)
  | d :: ds => fun st => match asgT t d st with
    | some s1 => match mt s1 with
      | some (true, s2) => match me s2 with
        | some (y, s3) => match lcL t mt me own ds (wipeS s3 own) with
          | some (out, s4) => some (y :: out, s4)
          | none => none
        | none => none
      | some (false, s2) => lcL t mt me own ds (wipeS s2 own)
      | none => none
    | none => none
def mLc (mi : M (List D)) (t : Tgt) (mt : M Bool) (me : M D) (own : List Nat) : M D := fun st => match mi st with
  | some (ds, s) => match ownOk s own && Nat.ble ds.length LN with
    | true => match lcL t mt me own ds (wipeS s own) with
      | some (out, s') => some (.lst true out, backS s s' own)
      | none => none
    | false => none
  | none => none
def mYes : M Bool := fun st => some (true, st)
def STs (Γ : Gam) (Φ : GCx → Prop) (ifs : List Expr) (m : M Bool) : Prop := ∀ X, On Γ Φ X → PTs X ifs (rdT X.K m)
section
variable {Γ : Gam} {Φ : GCx → Prop}
theorem sts_nil : STs Γ Φ [] mYes := fun X o => ⟨fun pins s σ H Q I q => pts_nil.run pins s σ H Q I (by
  obtain ⟨Fz, fp, st, C, b, st', e, k⟩ := q
  cases e
  exact k H Fz fp C .refl)⟩
theorem sts_one {c : Expr} {m : M Bool} (h : ST Γ Φ c m) : STs Γ Φ [c] m := fun X o => pts_one (h X o)
theorem cfg_single {K : PySem.W.Frag} {Fz H s σ fp s'} {x : Option D} {y : Option V} {t : Tgt} {d : D} {v : V} {Q : L2.St → Hp → Prop} (gok : GOk K t (tgG K t)) (C : Cfg K Fz H (x :: s) (y :: σ) fp) (ha : asgT t d s = some s') (r : Rep K Fz H d v [])
    (k : ∀ σ' fp', Cfg K Fz H (x :: s') (y :: σ') fp' → (∀ a ∈ fp', a ∈ fp) → σ'.length = σ.length → (∀ i, i ∉ t.slots → σ'[i]? = σ[i]?) → Q σ' H) : tgG K t v σ H Q := by
  obtain ⟨fP, f0, C0, fr⟩ := Cfg.frame (P := [x]) (PV := [y]) C rfl
  refine gok ha C0 r fun σ1 f1 C1 h1 hl hn => ?_
  obtain ⟨f2, C2, g2, _⟩ := fr C1 (Go.refl.sub h1)
  obtain ⟨R0, nd0, fz0, ft0⟩ := C
  exact k σ1 f2 C2 (fun a h => (g2.fpn a h).elim id fun z => absurd z (C2.there a h)) hl hn
theorem wipe_get : ∀ (own : List Nat) (τ : L2.St) (i : Nat), (L2.wipe τ own)[i]? = if i ∈ own then (if i < τ.length then some none else none) else τ[i]? := fun own => by
  induction own with
  | nil => intro τ i; simp [L2.wipe]
  | cons v vs ih =>
    intro τ i
    unfold L2.wipe
    rw [List.getElem?_set]
    have hlw := wipe_length τ vs
    by_cases e : v = i
    · subst e
      simp only [if_true, List.mem_cons, true_or, hlw]
    · rw [if_neg e, ih]
      have : (i ∈ v :: vs) ↔ i ∈ vs := by simp [List.mem_cons, Ne.symm e]
      simp only [this]
theorem wipe_of {t : Tgt} {own : List Nat} {σ σ' : L2.St} (hs : t.slots.all (fun i => own.any (· == i)) = true) (hl : σ'.length = (L2.wipe σ own).length) (hn : ∀ i, i ∉ t.slots → σ'[i]? = (L2.wipe σ own)[i]?) : L2.wipe σ' own = L2.wipe σ own := by
  rw [wipe_length] at hl
  apply List.ext_getElem?
  intro i
  rw [wipe_get, wipe_get, hl]
  by_cases h : i ∈ own
  · rw [if_pos h, if_pos h]
  · rw [if_neg h, if_neg h]
    have := hn i fun hm => h (by
      rw [List.all_eq_true] at hs
      have := hs i hm
      rw [List.any_eq_true] at this
      obtain ⟨j, hj, e⟩ := this
      have := eq_of_beq e
      subst this
      exact hj)
    rw [this, wipe_get, if_neg h]
theorem Cfg.wipe1 {K : PySem.W.Frag} {Fz H s σ fp} {x : Option D} {y : Option V} (C : Cfg K Fz H (x :: s) (y :: σ) fp) (vs : List Nat) : ∃ fp', Cfg K Fz H (x :: wipeS s vs) (y :: L2.wipe σ vs) fp' ∧ ∀ a ∈ fp', a ∈ fp := by
  obtain ⟨fP, f0, C0, fr⟩ := Cfg.frame (P := [x]) (PV := [y]) C rfl
  obtain ⟨f1, C1, h1⟩ := C0.wipe vs
  obtain ⟨f2, C2, g2, _⟩ := fr C1 (Go.refl.sub h1)
  exact ⟨f2, C2, fun a h => (g2.fpn a h).elim id fun z => absurd z (C2.there a h)⟩
/-- the turns of a comprehension -/
theorem lc_reads {K : PySem.W.Frag} {mi : M (List D)} {t : Tgt} {mt : M Bool} {me : M D} {own : List Nat} (hs : t.slots.all (fun i => own.any (· == i)) = true) {σ0 : L2.St} {H0 : Hp} {Q : VK} (q : rd K (mLc mi t mt me own) σ0 H0 Q) :
    tLc (rdI K mi) (tgG K t) (rdT K mt) (rd K me) own σ0 H0 Q := by
  obtain ⟨Fz0, fp0, st0, C0, dz, st', e0, k0⟩ := q
  unfold mLc at e0
  split at e0
  · rename_i ds s0 hm0
    split at e0
    · rename_i hok
      simp only [Bool.and_eq_true] at hok
      split at e0
      · rename_i out s' hL
        cases e0
        refine ⟨Fz0, fp0, st0, C0, ds, s0, hm0, fun J H1 Fz1 fp1 C1 g1 it D0 hD0 => ?_⟩
        have hlen : ds.length ≤ sizeLine := by rw [← LN_eq]; exact Nat.le_of_ble_eq_true hok.2
        -- the new list
        obtain ⟨fw, Cw, hw⟩ := C1.wipe own
        have start : ∃ Fz fp, Cfg K Fz (upd H1 D0 (.lst [])) (some (.lst true []) :: wipeS s0 own) (some (.ref D0) :: L2.wipe σ0 own) fp ∧ Go Fz1 H1 fp1 Fz (upd H1 D0 (.lst [])) fp := by
          have := fin_lst (K := K) (Fz := Fz1) (H := H1) (fp := fp1) (σ := L2.wipe σ0 own) (zs := []) (s := wipeS s0 own) (T := []) (TV := []) (vs := []) (Q := fun v H' => v = .ref D0 ∧ H' = upd H1 D0 (.lst []) → ∃ Fz fp, Cfg K Fz (upd H1 D0 (.lst [])) (some (.lst true []) :: wipeS s0 own) (some (.ref D0) :: L2.wipe σ0 own) fp ∧ Go Fz1 H1 fp1 Fz (upd H1 D0 (.lst [])) fp)
            (fun v H' Fz' fp' C g ⟨e1, e2⟩ => by subst e1 e2; exact ⟨Fz', fp', C, g⟩) rfl Cw (Go.refl.sub hw) .nil D0 hD0
          exact this ⟨rfl, rfl⟩
        obtain ⟨FzS, fpS, CS, gS⟩ := start
        refine ⟨fun i m H => ∃ Fz fp st acc rest, Cfg K Fz H (some (.lst true acc) :: st) (some (.ref D0) :: L2.wipe σ0 own) fp ∧ m + i = ds.length ∧ acc.length ≤ i ∧ lcL t mt me own (ds.drop i) st = some (rest, s') ∧ acc ++ rest = out ∧ Go Fz1 H1 fp1 Fz H fp,
          ⟨ds.length, FzS, fpS, wipeS s0 own, [], out, CS, rfl, Nat.le_refl _, hL, rfl, gS⟩, ?_⟩
        rintro i m H ⟨Fz, fp, st, acc, rest, C, hmi, hacc, e, hout, gl⟩
        have zk : ∀ a o, Fz1 a → H1 a = some o → H a = some o := fun a o z e => gl.keep a o e fun q => C1.fz a q z
        by_cases hlt : i < ds.length
        · right
          refine ⟨it.go gl.fzm zk hlt, fun H' => ∃ Fz fp st acc rest, Cfg K Fz H' (some (.lst true acc) :: st) (some (.ref D0) :: L2.wipe σ0 own) fp ∧ acc.length ≤ i + 1 ∧ lcL t mt me own (ds.drop (i + 1)) st = some (rest, s') ∧ acc ++ rest = out ∧ Go Fz1 H1 fp1 Fz H' fp,
            fun H' ⟨Fz, fp, st, acc, rest, C, h1, h2, h3, h4⟩ => ⟨m - 1, by omega, Fz, fp, st, acc, rest, C, by omega, h1, h2, h3, h4⟩, fun x H' y => ?_⟩
          have hd : ds[i]? = some ds[i] := List.getElem?_eq_getElem hlt
          rw [List.drop_eq_getElem_cons hlt] at e
          obtain ⟨Fz3, C3, g3, r3⟩ := it.yld gl.fzm zk hd C y
          unfold lcL at e
          split at e
          · rename_i s1 ha
            refine cfg_single (tgG_ok t) C3 ha r3 fun σ2 f2 C4 h4 hl4 hn4 => ⟨wipe_of hs hl4 hn4, ?_⟩
            have hw2 := wipe_of hs hl4 hn4
            have ga := (gl.trans g3).sub h4
            split at e
            · rename_i s2 hb
              refine rdT.run (P := [some (.lst true acc)]) (PV := [some (.ref D0)]) C4 rfl hb fun H4 Fz4 f4 C5 g5 => iteT ?_
              split at e
              · rename_i y s3 hy
                refine rd.run (P := [some (.lst true acc)]) (PV := [some (.ref D0)]) C5 rfl hy fun yv H5 Fz5 f5 C6 g6 => ?_
                obtain ⟨av, hav, hla, f6, C7, g7⟩ := Cfg.push C6
                split at e
                · rename_i out' s4 hr
                  cases e
                  obtain ⟨f8, C8, h8⟩ := Cfg.wipe1 (s := s3) (σ := σ2) C7 own
                  rw [hw2] at C8
                  exact ⟨av, hav, by omega, Fz5, f8, wipeS s3 own, acc ++ [y], out', C8, by simp; omega, hr, by simpa using hout, (((ga.trans g5).trans g6).trans g7).sub h8⟩
                · cases e
              · cases e
            · rename_i s2 hb
              refine rdT.run (P := [some (.lst true acc)]) (PV := [some (.ref D0)]) C4 rfl hb fun H4 Fz4 f4 C5 g5 => iteF ?_
              obtain ⟨f8, C8, h8⟩ := Cfg.wipe1 (s := s2) (σ := σ2) C5 own
              rw [hw2] at C8
              exact ⟨Fz4, f8, wipeS s2 own, acc, rest, C8, by omega, e, hout, (ga.trans g5).sub h8⟩
            · cases e
          · cases e
        · left
          refine ⟨it.stop gl.fzm zk (by omega), ?_⟩
          rw [List.drop_eq_nil_of_le (by omega)] at e
          cases e
          rw [List.append_nil] at hout
          subst hout
          obtain ⟨fP, f0, C0', fr⟩ := Cfg.frame (P := [some (.lst true acc)]) (PV := [some (.ref D0)]) C rfl
          obtain ⟨f1, Cb, h1⟩ := C1.back gl.fzm zk C0' own hok.1
          rw [backT_back] at Cb
          obtain ⟨f2, C2, g2, _⟩ := fr Cb (Go.refl.sub h1)
          exact k0 (.ref D0) H Fz f2 C2 ((g1.trans gl).trans g2)
      · cases e0
    · cases e0
  · cases e0
/-- [e for t in it if c] -/
theorem se_lc {elt tg iter : Expr} {ifs : List Expr} {scope : Scope} {own : List (Str × Nat)} {pos : Pos} {mi : M (List D)} {t : Tgt} {mt : M Bool} {me : M D} (ok : blkC Γ.N Γ.sc scope own = true) (hi : SI Γ Φ tg iter mi) (hg : SG (Γ.blk scope) Φ tg t) (ht : STs (Γ.blk scope) Φ ifs mt) (he : SE (Γ.blk scope) Φ elt me)
    (hk : (relS scope Γ.sc).kind = .function := by rfl) (hs : t.slots.all (fun i => (own.map (·.2)).any (· == i)) = true := by rfl) (hf : ∀ (env : Env) x, foldedSetIterable iter env x = pure x := by intro _ _; rfl) :
    SE Γ Φ (.ListComp elt [⟨tg, iter, ifs, 0⟩] scope pos) (mLc mi t mt me (own.map (·.2))) := fun X o =>
  pe_imp (pe_lc (own := own) (g := tgG X.K t) (tt := rdT X.K mt) (te := rd X.K me) o.calm o.nd (hi X o) (blkOk_by (by rw [o.N, o.sc]; exact ok)) (fun s H C cl fp => hg _ (o.blk hk s H C cl fp)) (fun s H C cl fp => ht _ (o.blk hk s H C cl fp)) (fun s H C cl fp => he _ (o.blk hk s H C cl fp)) (hf _)) fun σ H Q q => lc_reads hs q
/-- x = [..] on one line -/
theorem s_setLc {RO : Nat → Bool} (i : Nat) {y : Str} {py spos : Pos} {elt tg iter : Expr} {ifs : List Expr} {scope : Scope} {own : List (Str × Nat)} {pos : Pos} {mi : M (List D)} {t : Tgt} {mt : M Bool} {me : M D} (ok : blkC Γ.N Γ.sc scope own = true) (hi : SI Γ Φ tg iter mi) (hg : SG (Γ.blk scope) Φ tg t) (ht : STs (Γ.blk scope) Φ ifs mt) (he : SE (Γ.blk scope) Φ elt me)
    (hN : Γ.N[i]? = some y := by rfl) (hyl : Γ.sc.names.lookup y = some .local := by rfl) (hr : RO i = false := by rfl) (hsw : swapsWith (.ListComp elt [⟨tg, iter, ifs, 0⟩] scope pos) (some (.Name y py)) spos.line (envS Γ.sc) = pure true := by rfl)
    (hk : (relS scope Γ.sc).kind = .function := by rfl) (hs : t.slots.all (fun i => (own.map (·.2)).any (· == i)) = true := by rfl) (hf : ∀ (env : Env) x, foldedSetIterable iter env x = pure x := by intro _ _; rfl) :
    ST1 Γ Φ RO (.Assign [.Name y py] (.ListComp elt [⟨tg, iter, ifs, 0⟩] scope pos) spos) (mSet i (mLc mi t mt me (own.map (·.2)))) := fun X o hp => by
  refine ps_imp (ps_setLc (own := own) (g := tgG X.K t) (tt := rdT X.K mt) (te := rd X.K me) o.calm o.nd (o.slot hN) (by rw [o.sc]; exact hyl) ((swp_scope (env' := envS Γ.sc) o.sc).trans hsw) (hi X o) (blkOk_by (by rw [o.N, o.sc]; exact ok)) (fun s H C cl fp => hg _ (o.blk hk s H C cl fp)) (fun s H C cl fp => ht _ (o.blk hk s H C cl fp)) (fun s H C cl fp => he _ (o.blk hk s H C cl fp)) (hf _)) fun D' σ H q => ?_
  obtain ⟨Fz, fp, st, C, fl, st', e, k⟩ := q
  unfold mSet at e
  split at e
  · rename_i d s hm
    cases e
    refine lc_reads hs ⟨Fz, fp, st, C, _, _, hm, fun v H1 Fz1 fp1 C1 g1 => ?_⟩
    obtain ⟨f2, C2, h2⟩ := C1.store (i := i)
    exact k _ H1 Fz1 f2 (ro_set hr) (g1.sub h2) C2
  · cases e
end
end Va
/-! Va17: in-place changes; defs -/
namespace Va
open PySem PySem.Spec PyProof.Rows L2

/-! ### changes in place -/
section
variable {K : PySem.W.Frag} {Fz : Addr → Prop} {H : Hp} {s : S} {σ : L2.St} {fp : List Addr}
theorem RepL.pick : ∀ {xs vs f} {k : Nat} {x : D}, RepL K Fz H xs vs f → xs[k]? = some x → ∃ y g r, vs[k]? = some y ∧ Rep K Fz H x y g ∧ f.Perm (g ++ r) ∧ RepL K Fz H (xs.eraseIdx k) (vs.eraseIdx k) r ∧
    ∀ {d w f'}, Rep K Fz H d w f' → ∃ h, RepL K Fz H (xs.set k d) (vs.set k w) h ∧ h.Perm (f' ++ r)
  | [], _, _, _, _, _, h => by simp at h
  | _ :: _, _, _, 0, _, .cons (f := f1) (g := f2) r s, h => by
    simp at h; subst h
    exact ⟨_, f1, f2, rfl, r, .refl _, s, fun r' => ⟨_, .cons r' s, .refl _⟩⟩
  | _ :: _, _, _, k + 1, _, .cons (f := f1) (g := f2) r s, h => by
    obtain ⟨y, g, r2, e, ry, p, re, rs⟩ := RepL.pick (k := k) s (by simpa using h)
    have mid : ∀ (a b c : List Addr), (a ++ (b ++ c)).Perm (b ++ (a ++ c)) := fun a b c => by
      rw [← List.append_assoc, ← List.append_assoc]; exact (List.perm_append_comm).append_right c
    refine ⟨y, g, f1 ++ r2, by simpa using e, ry, (p.append_left f1).trans (mid _ _ _), .cons r re, fun {d w f'} r' => ?_⟩
    obtain ⟨h2, r3, p3⟩ := rs r'
    exact ⟨f1 ++ h2, .cons r r3, (p3.append_left f1).trans (mid _ _ _)⟩
/-- what stands at the front, an owned list, and the rest: the parts of the state -/
theorem Cfg.parts {xs : List D} {D0 : Addr} (C : Cfg K Fz H (some (.lst true xs) :: s) (some (.ref D0) :: σ) fp) : ∃ acc f g, H D0 = some (.lst acc) ∧ RepL K Fz H xs acc f ∧ RepS K Fz H s σ g ∧ fp = D0 :: f ++ g ∧ D0 ∉ f ∧ D0 ∉ g ∧ (f ++ g).Nodup ∧ ¬ Fz D0 ∧ (∀ a ∈ f ++ g, ¬ Fz a) := by
  obtain ⟨R, nd, fz, ft⟩ := C
  cases R with
  | @cons _ _ f1 g _ _ r rs =>
    cases r with
    | som r =>
      cases r with
      | @lstO _ _ acc f q rl =>
        have h1 := List.nodup_cons.mp (show (D0 :: (f ++ g)).Nodup from nd)
        exact ⟨acc, f, g, q, rl, rs, rfl, fun h => h1.1 (List.mem_append_left _ h), fun h => h1.1 (List.mem_append_right _ h), h1.2, fz D0 (List.mem_cons_self ..), fun a h => fz a (List.mem_cons_of_mem _ h)⟩
/-- the state behind a write of the object at D0 -/
theorem Cfg.wrote {f g h : List Addr} {D0 : Addr} {o : HO} {P' : S} {PV' : List (Option V)} (ft : ∀ a, Fz a → H a ≠ none) (hd : H D0 ≠ none) (rs : RepS K Fz H s σ g) (n1 : D0 ∉ f) (n2 : D0 ∉ g) (nd : (f ++ g).Nodup) (z0 : ¬ Fz D0) (zf : ∀ a ∈ f ++ g, ¬ Fz a)
    (RP : RepS K Fz (upd H D0 o) P' PV' h) {r : List Addr} (hp : (h ++ r).Perm (D0 :: f)) : ∃ fp', Cfg K Fz (upd H D0 o) (P' ++ s) (PV' ++ σ) fp' ∧ Go Fz H (D0 :: f ++ g) Fz (upd H D0 o) fp' := by
  have kb : ∀ {b u}, b ≠ D0 → H b = some u → upd H D0 o b = some u := fun {b u} hb e => by rw [upd_ne hb]; exact e
  have nd0 : (D0 :: (f ++ g)).Nodup := List.nodup_cons.mpr ⟨fun h => (List.mem_append.mp h).elim n1 n2, nd⟩
  have nd2 : (h ++ r ++ g).Nodup := by
    have : (h ++ r ++ g).Perm (D0 :: (f ++ g)) := by simpa using hp.append_right g
    exact this.nodup_iff.mpr nd0
  have sub : ∀ a ∈ h ++ g, a ∈ D0 :: f ++ g := fun a ha => by
    rcases List.mem_append.mp ha with q | q
    · exact List.mem_append_left _ (hp.mem_iff.mp (List.mem_append_left _ q))
    · exact List.mem_append_right _ q
  have za : ∀ a, Fz a → a ≠ D0 := fun a z e => z0 (e ▸ z)
  refine ⟨h ++ g, ⟨RP.app (rs.keep (fun _ h => h) (fun a u z e => kb (za a z) e) fun a u ha e => kb (fun ea => n2 (ea ▸ ha)) e), ?_, fun a ha z => ?_, fun a z e => ?_⟩, ⟨fun a u e n => kb (fun ea => n (by rw [ea]; exact List.mem_append_left _ (List.mem_cons_self ..))) e, fun a e => ?_, fun _ h => h, fun _ h => .inl h, fun a ha => .inl (sub a ha)⟩⟩
  · have h1 := List.nodup_append.mp nd2
    have h2 := List.nodup_append.mp h1.1
    exact List.nodup_append.mpr ⟨h2.1, h1.2.1, fun a ha b hb => h1.2.2 a (List.mem_append_left _ ha) b hb⟩
  · rcases List.mem_append.mp (sub a ha) with q | q
    · rcases List.mem_cons.mp q with q | q
      · rw [q] at z; exact z0 z
      · exact zf a (List.mem_append_left _ q) z
    · exact zf a (List.mem_append_right _ q) z
  · rw [upd_ne (za a z)] at e; exact ft a z e
  · by_cases ea : a = D0
    · subst ea; rw [upd_same] at e; cases e
    · rw [upd_ne ea] at e; exact e
theorem Cfg.erase {xs : List D} {D0 : Addr} {k : Nat} {x : D} (C : Cfg K Fz H (some (.lst true xs) :: s) (some (.ref D0) :: σ) fp) (hk : xs[k]? = some x) : ∃ acc y, H D0 = some (.lst acc) ∧ acc.length = xs.length ∧ acc[k]? = some y ∧
    ∃ fp', Cfg K Fz (upd H D0 (.lst (acc.eraseIdx k))) (some x :: some (.lst true (xs.eraseIdx k)) :: s) (some y :: some (.ref D0) :: σ) fp' ∧ Go Fz H fp Fz (upd H D0 (.lst (acc.eraseIdx k))) fp' := by
  obtain ⟨acc, f, g, q, rl, rs, rfl, n1, n2, nd, z0, zf⟩ := C.parts
  obtain ⟨y, g1, r1, ey, ry, p, re, _⟩ := rl.pick hk
  have n1' : ∀ a ∈ g1 ++ r1, a ≠ D0 := fun a h e => n1 (e ▸ p.mem_iff.mpr h)
  have kb : ∀ {b u}, b ≠ D0 → H b = some u → upd H D0 (.lst (acc.eraseIdx k)) b = some u := fun {b u} hb e => by rw [upd_ne hb]; exact e
  have kz : ∀ a u, Fz a → H a = some u → upd H D0 (.lst (acc.eraseIdx k)) a = some u := fun a u z e => kb (fun ea => z0 (ea ▸ z)) e
  obtain ⟨fp', C', G'⟩ := Cfg.wrote (o := .lst (acc.eraseIdx k)) (P' := [some x, some (.lst true (xs.eraseIdx k))]) (PV' := [some y, some (.ref D0)]) C.ft (by rw [q]; exact Option.some_ne_none _) rs n1 n2 nd z0 zf
    (RepS.cons (.som (ry.keep (fun _ h => h) kz fun a u h e => kb (n1' a (List.mem_append_left _ h)) e)) (RepS.cons (.som (.lstO upd_same (re.keep (fun _ h => h) kz fun a u h e => kb (n1' a (List.mem_append_right _ h)) e))) .nil)) (r := []) (by
      simp only [List.append_nil]
      exact (List.perm_middle).trans (p.symm.cons D0))
  exact ⟨acc, y, q, (rl.length).symm, ey, fp', C', G'⟩
theorem Cfg.setAt {xs : List D} {D0 : Addr} {k : Nat} {x d : D} {v : V} (C : Cfg K Fz H (some (.lst true xs) :: some d :: s) (some (.ref D0) :: some v :: σ) fp) (hk : xs[k]? = some x) : ∃ acc, H D0 = some (.lst acc) ∧ acc.length = xs.length ∧
    ∃ fp', Cfg K Fz (upd H D0 (.lst (acc.set k v))) (some (.lst true (xs.set k d)) :: s) (some (.ref D0) :: σ) fp' ∧ Go Fz H fp Fz (upd H D0 (.lst (acc.set k v))) fp' := by
  obtain ⟨acc, f, g, q, rl, rs, rfl, n1, n2, nd, z0, zf⟩ := C.parts
  cases rs with
  | @cons _ _ fd g2 _ _ rd rs =>
    cases rd with
    | som rd =>
      obtain ⟨y, g1, r1, ey, ry, p, re, st⟩ := rl.pick hk
      have kb : ∀ {b u}, b ≠ D0 → H b = some u → upd H D0 (.lst (acc.set k v)) b = some u := fun {b u} hb e => by rw [upd_ne hb]; exact e
      have kz : ∀ a u, Fz a → H a = some u → upd H D0 (.lst (acc.set k v)) a = some u := fun a u z e => kb (fun ea => z0 (ea ▸ z)) e
      obtain ⟨h, r3, p3⟩ := st rd
      have nh : ∀ a ∈ h, a ≠ D0 := fun a ha e => by
        rcases List.mem_append.mp (p3.mem_iff.mp ha) with z | z
        · exact n2 (e ▸ List.mem_append_left _ z)
        · exact n1 (e ▸ p.mem_iff.mpr (List.mem_append_right _ z))
      have eq1 : (f ++ (fd ++ g2)) = (f ++ fd) ++ g2 := (List.append_assoc ..).symm
      obtain ⟨fp', C', G'⟩ := Cfg.wrote (f := f ++ fd) (g := g2) (o := .lst (acc.set k v)) (P' := [some (.lst true (xs.set k d))]) (PV' := [some (.ref D0)]) C.ft (by rw [q]; exact Option.some_ne_none _) rs
        (fun z => (List.mem_append.mp z).elim n1 fun z => n2 (List.mem_append_left _ z)) (fun z => n2 (List.mem_append_right _ z)) (by rw [← eq1]; exact nd) z0 (fun a z => zf a (by rw [eq1]; exact z))
        (RepS.cons (.som (.lstO upd_same (r3.keep (fun _ h => h) kz fun a u h e => kb (nh a h) e))) .nil) (r := g1) (by
          simp only [List.append_nil]
          refine List.Perm.cons D0 ?_
          refine (p3.append_right g1).trans ?_
          refine List.Perm.trans ?_ ((p.append_right fd).symm)
          rw [List.append_assoc]
          exact (List.perm_append_comm).trans (by simpa using (List.perm_append_comm (l₁ := r1) (l₂ := g1)).append_right fd))
      refine ⟨acc, q, (rl.length).symm, fp', C', ?_⟩
      have : D0 :: f ++ (fd ++ g2) = D0 :: (f ++ fd) ++ g2 := by simp
      rw [this]
      exact G'
/-- a slot's owned datum comes to the front, behind some temporaries -/
theorem Cfg.takeP {P : S} {PV : List (Option V)} {i : Nat} {d : D} (hl : P.length = PV.length) (C : Cfg K Fz H (P ++ s) (PV ++ σ) fp) (h : s[i]? = some (some d)) (hi : imm d = false) : ∃ v fp', σ[i]? = some (some v) ∧ Cfg K Fz H (some d :: (P ++ s.set i none)) (some v :: (PV ++ σ)) fp' ∧ ∀ a ∈ fp', a ∈ fp := by
  obtain ⟨fP, f0, C0, fr⟩ := C.frame hl
  obtain ⟨v, f1, e, C1, h1⟩ := C0.take (i := i) (d := d) (st' := s.set i none) (by unfold mTake; rw [h]; simp [hi])
  obtain ⟨f2, C2, g2, _⟩ := fr C1 (Go.refl.sub h1)
  obtain ⟨f3, C3, p3⟩ := C2.float hl
  exact ⟨v, f3, e, C3, fun a ha => (g2.fpn a (p3.mem_iff.mp ha)).elim id fun z => absurd z (C3.there a ha)⟩
end

/-! ### methods of lists -/
def isLst (i : Nat) (st : S) : Bool := match st[i]? with
  | some (some (.lst _ _)) => true
  | _ => false
/-- x.append(e) -/
def mApp (i : Nat) (m : M D) : M D := fun st => match isLst i st with
  | true => match m st with
    | some (d, s) => match s[i]? with
      | some (some (.lst true xs)) => match Nat.blt xs.length LN with
        | true => some (.non, s.set i (some (.lst true (xs ++ [d]))))
        | false => none
      | _ => none
    | none => none
  | false => none
/-- x.pop() -/
def mPop (i : Nat) : M D := fun st => match st[i]? with
  | some (some (.lst true xs)) => match xs[xs.length - 1]? with
    | some y => some (y, st.set i (some (.lst true (xs.eraseIdx (xs.length - 1)))))
    | none => none
  | _ => none
/-- x.pop(e) -/
def mPopAt (i : Nat) (m : M D) : M D := fun st => match isLst i st with
  | true => match m st with
    | some (.int j, s) => match s[i]? with
      | some (some (.lst true xs)) => match smallI j with
        | true => match seqIndex? j xs.length with
          | some k => match xs[k]? with
            | some y => some (y, s.set i (some (.lst true (xs.eraseIdx k))))
            | none => none
          | none => none
        | false => none
      | _ => none
    | _ => none
  | false => none
theorem isLst_ty {K : PySem.W.Frag} {Fz H st σ fp i} (C : Cfg K Fz H st σ fp) (h : isLst i st = true) : ∃ a, σ[i]? = some (some (.ref a)) ∧ tyV K "list" (.ref a) H := by
  unfold isLst at h
  split at h
  · rename_i o xs hd
    obtain ⟨v, f, e, r, _⟩ := C.get hd
    obtain ⟨a, vs, f', rfl, q, _, _⟩ := r.lst
    exact ⟨a, e, .inl ⟨rfl, vs, .inl (.inl q)⟩⟩
  · cases h
theorem set_set_none {s : S} {i : Nat} {x y : Option D} : (s.set i x).set i y = s.set i y := List.set_set ..
section
variable {Γ : Gam} {Φ : GCx → Prop}
theorem se_app (i : Nat) {x : Str} {p apos cpos : Pos} {e : Expr} {m : M D} (h : SE Γ Φ e m) (hN : Γ.N[i]? = some x := by rfl) (hv : gVis Γ.sc x = true := by rfl) (hd : (x == ("__debug__" : Str)) = false := by decide) (hcd : (x == ("__classdict__" : Str)) = false := by decide) (ns : NoStar e := by intro _ _; rfl)
    (hbase : ∀ env : Env, attributeBase (.Name x p) "append" env (eval (.Name x p) env) = eval (.Name x p) env := by intro _; rfl)
    (hfew : ∀ env : Env, ((backTo cpos (starEach [e] env)).all (fun x => !x.1) && (backToKw cpos (keywordEach [] env)).all (fun x => x.1.isSome) && decide ([e].length + ([] : List Keyword).length + (if ([] : List Keyword).isEmpty then 0 else 1) < 30)) = true := by intro _; rfl)
    (hline : (apos.endLine == cpos.line) = true := by rfl) (hpl : ∀ env : Env, (backTo cpos (starEach ([] : List Expr) env)).any (·.1) = false := by intro _; rfl) :
    SE Γ Φ (.Call (.Attribute (.Name x p) "append" apos) [e] [] cpos) (mApp i m) := fun X o =>
  pe_imp (pe_bm PySem.F.plainAttrs_list PySem.F.slot_list_append PySem.F.type_list_append mt_append (pe_var (o.slot hN) (o.vis hv) hd hcd) (pa_cons (h X o) pa_nil (ns _ _)) (hbase _) (hfew _) hline (ns _ _) (hpl _)) fun σ H Q q => by
    obtain ⟨Fz, fp, st, C, d', st', e, k⟩ := q
    unfold mApp at e
    split at e
    · rename_i hL
      split at e
      · rename_i d s hm
        split at e
        · rename_i xs hx
          split at e
          · rename_i hz
            cases e
            obtain ⟨a, ea, ty⟩ := isLst_ty C hL
            refine ⟨_, ea, ty, ?_⟩
            refine rd.run (P := []) (PV := []) C rfl hm fun v H1 Fz1 fp1 C1 g1 => ?_
            obtain ⟨w, f2, ew, C2, h2⟩ := Cfg.takeP (P := [some d]) (PV := [some v]) (s := s) (σ := σ) rfl C1 hx rfl
            rw [ea] at ew
            cases ew
            obtain ⟨f3, C3, p3⟩ := Cfg.float (x := some d) (y := some v) (P := [some (.lst true xs)]) (PV := [some (.ref a)]) rfl C2
            obtain ⟨acc, hacc, hla, f4, C4, g4⟩ := Cfg.push C3
            obtain ⟨f5, C5, h5⟩ := Cfg.putback (P := []) (PV := []) (st := s.set i none) (σ := σ) (i := i) rfl C4 ea
            have hz' : acc.length < sizeLine := by rw [hla, ← LN_eq]; exact Nat.blt_eq.mp hz
            have C5 : Cfg X.K Fz1 _ ((s.set i none).set i (some (.lst true (xs ++ [d])))) σ f5 := C5
            rw [set_set_none] at C5
            refine ⟨a, acc, v, rfl, rfl, hacc, hz', k .non _ Fz1 f5 (Cfg.atom C5 .non) ?_⟩
            refine (g1.trans ((g4.frame (fun b hb => ?_) fun b hb => .inl hb).sub h5))
            exact h2 b (p3.mem_iff.mp hb)
          · cases e
        · cases e
      · cases e
    · cases e
theorem se_pop (i : Nat) {x : Str} {p apos cpos : Pos} (hN : Γ.N[i]? = some x := by rfl) (hv : gVis Γ.sc x = true := by rfl) (hd : (x == ("__debug__" : Str)) = false := by decide) (hcd : (x == ("__classdict__" : Str)) = false := by decide)
    (hbase : ∀ env : Env, attributeBase (.Name x p) "pop" env (eval (.Name x p) env) = eval (.Name x p) env := by intro _; rfl) (hline : (apos.endLine == cpos.line) = true := by rfl) :
    SE Γ Φ (.Call (.Attribute (.Name x p) "pop" apos) [] [] cpos) (mPop i) := fun X o =>
  pe_imp (pe_bm0 PySem.F.plainAttrs_list PySem.F.slot_list_pop PySem.F.type_list_pop mt_pop (pe_var (o.slot hN) (o.vis hv) hd hcd) (hbase _) hline) fun σ H Q q => by
    obtain ⟨Fz, fp, st, C, d', st', e, k⟩ := q
    unfold mPop at e
    split at e
    · rename_i xs hx
      split at e
      · rename_i y hy
        cases e
        obtain ⟨w, f2, ew, C2, h2⟩ := Cfg.takeP (P := []) (PV := []) (s := st) (σ := σ) rfl C hx rfl
        obtain ⟨v0, f0, e0, r0, _⟩ := C.get hx
        obtain ⟨a, vs, f', rfl, q0, _, _⟩ := r0.lst
        rw [e0] at ew
        cases ew
        obtain ⟨acc, yv, hacc, hla, hyv, f4, C4, g4⟩ := Cfg.erase C2 hy
        obtain ⟨f5, C5, p5⟩ := Cfg.float (x := some (.lst true (xs.eraseIdx (xs.length - 1)))) (y := some (.ref a)) (P := [some d']) (PV := [some yv]) rfl C4
        obtain ⟨f6, C6, h6⟩ := Cfg.putback (P := [some d']) (PV := [some yv]) (st := st.set i none) (σ := σ) (i := i) rfl C5 e0
        rw [set_set_none] at C6
        refine ⟨_, e0, .inl ⟨rfl, acc, .inl (.inl hacc)⟩, a, acc, yv, rfl, rfl, hacc, by rw [hla]; exact hyv, ?_⟩
        have hdl : acc.dropLast = acc.eraseIdx (xs.length - 1) := by rw [← hla]; exact (List.eraseIdx_length_sub_one ..).symm
        rw [hdl]
        exact k yv _ Fz f6 C6 ((g4.frame h2 fun b hb => .inl hb).sub fun b hb => p5.mem_iff.mp (h6 b hb))
      · cases e
    · cases e
theorem se_popAt (i : Nat) {x : Str} {p apos cpos : Pos} {e : Expr} {m : M D} (h : SE Γ Φ e m) (hN : Γ.N[i]? = some x := by rfl) (hv : gVis Γ.sc x = true := by rfl) (hd : (x == ("__debug__" : Str)) = false := by decide) (hcd : (x == ("__classdict__" : Str)) = false := by decide) (ns : NoStar e := by intro _ _; rfl)
    (hbase : ∀ env : Env, attributeBase (.Name x p) "pop" env (eval (.Name x p) env) = eval (.Name x p) env := by intro _; rfl)
    (hfew : ∀ env : Env, ((backTo cpos (starEach [e] env)).all (fun x => !x.1) && (backToKw cpos (keywordEach [] env)).all (fun x => x.1.isSome) && decide ([e].length + ([] : List Keyword).length + (if ([] : List Keyword).isEmpty then 0 else 1) < 30)) = true := by intro _; rfl)
    (hline : (apos.endLine == cpos.line) = true := by rfl) (hpl : ∀ env : Env, (backTo cpos (starEach ([] : List Expr) env)).any (·.1) = false := by intro _; rfl) :
    SE Γ Φ (.Call (.Attribute (.Name x p) "pop" apos) [e] [] cpos) (mPopAt i m) := fun X o =>
  pe_imp (pe_bm PySem.F.plainAttrs_list PySem.F.slot_list_pop PySem.F.type_list_pop mt_popAt (pe_var (o.slot hN) (o.vis hv) hd hcd) (pa_cons (h X o) pa_nil (ns _ _)) (hbase _) (hfew _) hline (ns _ _) (hpl _)) fun σ H Q q => by
    obtain ⟨Fz, fp, st, C, d', st', e, k⟩ := q
    unfold mPopAt at e
    split at e
    · rename_i hL
      split at e
      · rename_i j s hm
        split at e
        · rename_i xs hx
          split at e
          · rename_i hj
            split at e
            · rename_i kk hk
              split at e
              · rename_i y hy
                cases e
                obtain ⟨a, ea, ty⟩ := isLst_ty C hL
                refine ⟨_, ea, ty, ?_⟩
                refine rd.run (P := []) (PV := []) C rfl hm fun v H1 Fz1 fp1 C1 g1 => ?_
                obtain ⟨v', fv, ev, rv, _⟩ := C1.head
                cases ev
                obtain ⟨f1', C1', h1'⟩ := C1.drop
                obtain ⟨w, f2, ew, C2, h2⟩ := Cfg.takeP (P := []) (PV := []) (s := s) (σ := σ) rfl C1' hx rfl
                rw [ea] at ew
                cases ew
                obtain ⟨acc, yv, hacc, hla, hyv, f4, C4, g4⟩ := Cfg.erase C2 hy
                obtain ⟨f5, C5, p5⟩ := Cfg.float (x := some (.lst true (xs.eraseIdx kk))) (y := some (.ref a)) (P := [some d']) (PV := [some yv]) rfl C4
                obtain ⟨f6, C6, h6⟩ := Cfg.putback (P := [some d']) (PV := [some yv]) (st := s.set i none) (σ := σ) (i := i) rfl C5 ea
                rw [set_set_none] at C6
                have hs := smallI_ok hj
                refine ⟨a, acc, j, kk, yv, rfl, by rw [rv.inti], hacc, by omega, by omega, by rw [hla]; exact hk, hyv, k yv _ Fz1 f6 C6 ?_⟩
                exact g1.trans (((g4.frame h2 fun b hb => .inl hb).frame h1' fun b hb => .inl hb).sub fun b hb => p5.mem_iff.mp (h6 b hb))
              · cases e
            · cases e
          · cases e
        · cases e
      · cases e
    · cases e
end
end Va
/-! Va18: stores by index and key; dicts made -/
namespace Va
open PySem PySem.Spec PyProof.Rows L2

def hasD : List (D × D) → D → Bool
  | [], _ => false
  | (a, _) :: r, k => match keyEq a k with
    | true => true
    | false => hasD r k
def swapD : List (D × D) → D → D → List (D × D)
  | [], _, _ => []
  | (a, y) :: r, k, x => match keyEq a k with
    | true => (a, x) :: swapD r k x
    | false => (a, y) :: swapD r k x
def putD (kvs : List (D × D)) (k x : D) : List (D × D) := match hasD kvs k with
  | true => swapD kvs k x
  | false => kvs ++ [(k, x)]
section
variable {K : PySem.W.Frag} {Fz : Addr → Prop} {H : Hp} {s : S} {σ : L2.St} {fp : List Addr}
theorem RepK.has : ∀ {kvs ws f}, RepK K Fz H kvs ws f → ∀ {k kk}, keyD k = some kk → hasD kvs k = (ws.any fun kv => decide (kv.1 = kk))
  | _, _, _, .nil, _, _, _ => rfl
  | _, _, _, .cons (k := a) (kk := ka) e r s, k, kk, hk => by
    have h2 := keyEq_iff e hk
    rw [List.any_cons]
    unfold hasD
    rw [h2, RepK.has s hk]
    cases decide (ka = kk) <;> rfl
theorem RepK.swap : ∀ {kvs ws f}, RepK K Fz H kvs ws f → ∀ {k kk x w}, keyD k = some kk → Rep K Fz H x w [] → ∃ h r, RepK K Fz H (swapD kvs k x) (ws.map fun kv => if kv.1 = kk then (kv.1, w) else kv) h ∧ (h ++ r).Perm f
  | _, _, _, .nil, k, kk, x, w, hk, rx => ⟨[], [], .nil, .refl _⟩
  | _, _, _, .cons (k := a) (kk := ka) (f := f1) (g := f2) e r s, k, kk, x, w, hk, rx => by
    have h2 := keyEq_iff e hk
    obtain ⟨h, r', rk, p⟩ := RepK.swap s hk rx
    rw [List.map_cons]
    unfold swapD
    by_cases q : ka = kk
    · rw [h2, decide_eq_true q, if_pos q]
      refine ⟨[] ++ h, r' ++ f1, .cons e rx rk, ?_⟩
      rw [List.nil_append, ← List.append_assoc]
      exact (p.append_right f1).trans List.perm_append_comm
    · rw [h2, decide_eq_false q, if_neg q]
      refine ⟨f1 ++ h, r', .cons e r rk, ?_⟩
      rw [List.append_assoc]
      exact p.append_left f1
theorem RepK.app : ∀ {kvs ws f kvs2 ws2 g}, RepK K Fz H kvs ws f → RepK K Fz H kvs2 ws2 g → RepK K Fz H (kvs ++ kvs2) (ws ++ ws2) (f ++ g)
  | _, _, _, _, _, _, .nil, h => h
  | _, _, _, _, _, _, .cons e r s, h => by rw [List.append_assoc]; exact .cons e r (RepK.app s h)
theorem RepK.put {kvs ws f} (h : RepK K Fz H kvs ws f) {k kk x w} (hk : keyD k = some kk) (rx : Rep K Fz H x w []) : ∃ h r, RepK K Fz H (putD kvs k x) (putK ws kk w) h ∧ (h ++ r).Perm f := by
  unfold putD putK
  rw [h.has hk]
  cases ws.any fun kv => decide (kv.1 = kk) with
  | true => exact h.swap hk rx
  | false => exact ⟨f ++ ([] ++ []), [], h.app (.cons hk rx .nil), by simp⟩
theorem Cfg.partsD {xs : List (D × D)} {D0 : Addr} (C : Cfg K Fz H (some (.dic true xs) :: s) (some (.ref D0) :: σ) fp) : ∃ acc f g, H D0 = some (.dK acc) ∧ RepK K Fz H xs acc f ∧ RepS K Fz H s σ g ∧ fp = D0 :: f ++ g ∧ D0 ∉ f ∧ D0 ∉ g ∧ (f ++ g).Nodup ∧ ¬ Fz D0 ∧ (∀ a ∈ f ++ g, ¬ Fz a) := by
  obtain ⟨R, nd, fz, ft⟩ := C
  cases R with
  | @cons _ _ f1 g _ _ r rs =>
    cases r with
    | som r =>
      cases r with
      | @dicO _ _ acc f q rl =>
        have h1 := List.nodup_cons.mp (show (D0 :: (f ++ g)).Nodup from nd)
        exact ⟨acc, f, g, q, rl, rs, rfl, fun h => h1.1 (List.mem_append_left _ h), fun h => h1.1 (List.mem_append_right _ h), h1.2, fz D0 (List.mem_cons_self ..), fun a h => fz a (List.mem_cons_of_mem _ h)⟩
/-- d[k] = v at the front -/
theorem Cfg.putKey {xs : List (D × D)} {D0 : Addr} {k x : D} {kk : Key} {w : V} (C : Cfg K Fz H (some (.dic true xs) :: s) (some (.ref D0) :: σ) fp) (hk : keyD k = some kk) (rx : Rep K Fz H x w []) : ∃ acc, H D0 = some (.dK acc) ∧ acc.length = xs.length ∧
    ∃ fp', Cfg K Fz (upd H D0 (.dK (putK acc kk w))) (some (.dic true (putD xs k x)) :: s) (some (.ref D0) :: σ) fp' ∧ Go Fz H fp Fz (upd H D0 (.dK (putK acc kk w))) fp' := by
  obtain ⟨acc, f, g, q, rl, rs, rfl, n1, n2, nd, z0, zf⟩ := C.partsD
  obtain ⟨h, r, rk, p⟩ := rl.put hk rx
  have nh : ∀ a ∈ h, a ≠ D0 := fun a ha e => n1 (e ▸ p.mem_iff.mp (List.mem_append_left _ ha))
  have kb : ∀ {b u}, b ≠ D0 → H b = some u → upd H D0 (.dK (putK acc kk w)) b = some u := fun {b u} hb e => by rw [upd_ne hb]; exact e
  have kz : ∀ a u, Fz a → H a = some u → upd H D0 (.dK (putK acc kk w)) a = some u := fun a u z e => kb (fun ea => z0 (ea ▸ z)) e
  obtain ⟨fp', C', G'⟩ := Cfg.wrote (o := .dK (putK acc kk w)) (P' := [some (.dic true (putD xs k x))]) (PV' := [some (.ref D0)]) C.ft (by rw [q]; exact Option.some_ne_none _) rs n1 n2 nd z0 zf
    (RepS.cons (.som (.dicO upd_same (rk.keep (fun _ h => h) kz fun a u h e => kb (nh a h) e))) .nil) (r := r) (by simpa using p.cons D0)
  exact ⟨acc, q, rl.length.symm, fp', C', G'⟩
end

/-! ### x[e] = v -/
def rPut : TSet := fun o i v H Q => rSetL o i v H Q ∨ rSetD o i v H Q
theorem set_or {X : Cx} (hu : X.A.units + 1 < cLine) : PSet X rPut := fun pins s σ H o i v ov iv u Q I r1 r2 r3 h => h.elim (set_list pins s σ H o i v ov iv u Q I r1 r2 r3) (set_dict hu pins s σ H o i v ov iv u Q I r1 r2 r3)
def storeAt (i : Nat) (k d : D) (s : S) : Option S := match s[i]? with
  | some (some (.lst true xs)) => match k with
    | .int j => match ixN xs.length j with
      | some j => some (s.set i (some (.lst true (xs.set j d))))
      | none => none
    | _ => none
  | some (some (.dic true kvs)) => match keyD k with
    | some _ => match imm d && Nat.blt kvs.length LN with
      | true => some (s.set i (some (.dic true (putD kvs k d))))
      | false => none
    | none => none
  | _ => none
def isBox (i : Nat) (st : S) : Bool := match st[i]? with
  | some (some _) => true
  | _ => false
def mStore (i : Nat) (mk mv : M D) : M Fl := fun st => match mv st with
  | some (d, s1) => match isBox i s1 with
    | true => match mk s1 with
      | some (k, s2) => match storeAt i k d s2 with
        | some s3 => some (.nx, s3)
        | none => none
      | none => none
    | false => none
  | none => none
section
variable {Γ : Gam} {Φ : GCx → Prop} {RO : Nat → Bool}
theorem s_store (i : Nat) {x : Str} {ek ev : Expr} {mk mv : M D} {p p2 pos : Pos} (hv : SE Γ Φ ev mv) (hk : SE Γ Φ ek mk) (hN : Γ.N[i]? = some x := by rfl) (hvis : gVis Γ.sc x = true := by rfl) (hd : (x == ("__debug__" : Str)) = false := by decide) (hcd : (x == ("__classdict__" : Str)) = false := by decide)
    (hs : ∀ env : Env, swapsWithSole [.Subscript (.Name x p) ek p2] ev pos.line env = pure false := by intro _; rfl) (hw : ∀ env : Env, swappedStores [.Subscript (.Name x p) ek p2] ev env = pure none := by intro _; rfl) (h1 : ∀ env : Env, (assignEach [.Subscript (.Name x p) ek p2] env).map (·.2) = [assign (.Subscript (.Name x p) ek p2) env] := by intro _; rfl)
    (ha : ∀ (env : Env) v, assign (.Subscript (.Name x p) ek p2) env v = (do
      let ov ← holding [v] (eval (.Name x p) env)
      let iv ← holding [v, ov] (eval ek env)
      standAt p2
      holding [v, ov, iv] (setItem ov iv v)
      release [v, ov, iv] []) := by intro _ _; rfl) :
    ST1 Γ Φ RO (.Assign [.Subscript (.Name x p) ek p2] ev pos) (mStore i mk mv) := fun X o hp =>
  ps_imp (ps_asg (hv X o) (pg_sub (pe_var (o.slot hN) (o.vis hvis) hd hcd) (hk X o) (set_or (by have := o.hu; omega)) (ha _)) (hs _) (hw _) (h1 _)) fun D' σ H q => by
    obtain ⟨Fz, fp, st, C, fl, st', e, kk⟩ := q
    unfold mStore at e
    split at e
    · rename_i d s1 hm
      split at e
      · rename_i hbx
        split at e
        · rename_i k s2 hm2
          split at e
          · rename_i s3 h3
            cases e
            refine ⟨Fz, fp, st, C, _, _, hm, fun v H1 Fz1 fp1 C1 g1 => ?_⟩
            -- the container
            obtain ⟨w, hw⟩ : ∃ w : V, σ[i]? = some (some w) := by
              unfold isBox at hbx
              split at hbx
              · rename_i dd hdd
                obtain ⟨f, C2, _⟩ := C1.drop
                obtain ⟨w, _, e, _⟩ := C2.get hdd
                exact ⟨w, e⟩
              · cases hbx
            refine ⟨w, hw, ?_⟩
            refine rd.run (P := [some d]) (PV := [some v]) C1 rfl hm2 fun u H2 Fz2 fp2 C2 g2 => ?_
            obtain ⟨u', fu, eu, ru, _⟩ := C2.head
            cases eu
            obtain ⟨fc, Cc, hc⟩ := C2.drop
            have Cc : Cfg X.K Fz2 H2 (some d :: s2) (some v :: σ) fc := Cc
            have G := (g1.trans g2).sub hc
            unfold storeAt at h3
            split at h3
            · rename_i xs hx
              split at h3
              · rename_i j
                split at h3
                · rename_i jj hj
                  cases h3
                  left
                  obtain ⟨w', f4, ew, C4, h4⟩ := Cfg.takeP (P := [some d]) (PV := [some v]) (s := s2) (σ := σ) rfl Cc hx rfl
                  rw [hw] at ew
                  cases ew
                  have hjl : jj < xs.length := (ixN_seq hj).2.1
                  obtain ⟨fdr, Cdr, _⟩ := Cc.drop
                  obtain ⟨v0, f0, e0, r0, _⟩ := Cdr.get hx
                  rw [hw] at e0
                  cases e0
                  obtain ⟨a, vs, f', rfl, q0, _, _⟩ := r0.lst
                  obtain ⟨acc, hacc, hla, f5, C5, g5⟩ := Cfg.setAt (k := jj) (x := xs[jj]) C4 (List.getElem?_eq_getElem hjl)
                  obtain ⟨f6, C6, h6⟩ := Cfg.putback (P := []) (PV := []) (st := s2.set i none) (σ := σ) (i := i) rfl C5 hw
                  have C6 : Cfg X.K Fz2 _ ((s2.set i none).set i (some (.lst true (xs.set jj d)))) σ f6 := C6
                  rw [set_set_none] at C6
                  refine ⟨a, acc, j, jj, rfl, ru.inti, hacc, by rw [hla]; exact hj, ?_⟩
                  exact kk σ _ Fz2 f6 (fun _ _ => rfl) (G.trans ((g5.frame h4 fun b hb => .inl hb).sub h6)) C6
                · cases h3
              · cases h3
            · rename_i kvs hx
              split at h3
              · rename_i key hkey
                split at h3
                · rename_i hi
                  cases h3
                  right
                  simp only [Bool.and_eq_true] at hi
                  obtain ⟨w', f4, ew, C4, h4⟩ := Cfg.takeP (P := [some d]) (PV := [some v]) (s := s2) (σ := σ) rfl Cc hx rfl
                  rw [hw] at ew
                  cases ew
                  obtain ⟨fdr, Cdr, _⟩ := Cc.drop
                  obtain ⟨v0, f0, e0, r0, _⟩ := Cdr.get hx
                  rw [hw] at e0
                  cases e0
                  obtain ⟨a, ws, f', rfl, q0, _, _⟩ := r0.dic
                  obtain ⟨v1, f1, e1, r1, _⟩ := Cc.head
                  cases e1
                  have hf1 := r1.imm hi.1
                  subst hf1
                  obtain ⟨f4', C4', h4'⟩ := Cfg.drop (Cfg.float (P := [some (.dic true kvs)]) (PV := [some (.ref a)]) (x := some d) (y := some v) rfl C4).choose_spec.1
                  have p4 := (Cfg.float (P := [some (.dic true kvs)]) (PV := [some (.ref a)]) (x := some d) (y := some v) rfl C4).choose_spec.2
                  obtain ⟨acc, hacc, hla, f5, C5, g5⟩ := Cfg.putKey C4' hkey r1
                  obtain ⟨f6, C6, h6⟩ := Cfg.putback (P := []) (PV := []) (st := s2.set i none) (σ := σ) (i := i) rfl C5 hw
                  have C6 : Cfg X.K Fz2 _ ((s2.set i none).set i (some (.dic true (putD kvs k d)))) σ f6 := C6
                  rw [set_set_none] at C6
                  have ek := keyD_v hkey ru
                  subst ek
                  refine ⟨a, _, rfl, DPut.k hacc (by rw [hla, ← LN_eq]; exact Nat.blt_eq.mp hi.2), ?_⟩
                  exact kk σ _ Fz2 f6 (fun _ _ => rfl) (G.trans (((g5.frame (fun b hb => h4' b hb) fun b hb => .inl hb).frame (fun b hb => h4 b (p4.mem_iff.mp hb)) fun b hb => .inl hb).sub h6)) C6
                · cases h3
              · cases h3
            · cases h3
          · cases e
        · cases e
      · cases e
    · cases e
end
end Va
/-! Va19: an item's append; dicts made -/
namespace Va
open PySem PySem.Spec PyProof.Rows L2

/-! ### x[e].append(y), y a name or an atom -/
inductive Atm where
  | v (i : Nat) | c (d : D) (w : V)
def Atm.get : Atm → S → Option D
  | .v i, s => match s[i]? with
    | some (some d) => match imm d with
      | true => some d
      | false => none
    | _ => none
  | .c d _, _ => some d
def rdAt (K : PySem.W.Frag) : Atm → TE
  | .v i => tVar i
  | .c _ w => tC w
structure SAt (Γ : Gam) (Φ : GCx → Prop) (e : Expr) (a : Atm) : Prop where
  pe : ∀ X, On Γ Φ X → PE X e (rdAt X.K a)
  ok : ∀ (d : D) (w : V), a = .c d w → ∀ K Fz H, Rep K Fz H d w []
def mApp2 (i : Nat) (mk : M D) (a : Atm) : M D := fun st => match isLst i st with
  | true => match mk st with
    | some (.int j, s) => match s[i]?, a.get s with
      | some (some (.lst true xs)), some d => match ixN xs.length j with
        | some j => match xs[j]? with
          | some (.lst true ys) => match Nat.blt ys.length LN with
            | true => some (.non, s.set i (some (.lst true (xs.set j (.lst true (ys ++ [d]))))))
            | false => none
          | _ => none
        | none => none
      | _, _ => none
    | _ => none
  | false => none
section
variable {Γ : Gam} {Φ : GCx → Prop}
theorem sat_v (i : Nat) {x : Str} {pos : Pos} (hN : Γ.N[i]? = some x := by rfl) (hv : gVis Γ.sc x = true := by rfl) (hd : (x == ("__debug__" : Str)) = false := by decide) (hcd : (x == ("__classdict__" : Str)) = false := by decide) : SAt Γ Φ (.Name x pos) (.v i) :=
  ⟨fun X o => pe_var (o.slot hN) (o.vis hv) hd hcd, fun _ _ h => nomatch h⟩
theorem sat_int {i j pos} : SAt Γ Φ (.Constant (.int i) j pos) (.c (.int i) (.int i)) := ⟨fun _ _ => pe_int, fun _ _ h _ _ _ => by cases h; exact .int i⟩
/-- an inner list of the front list is longer by one -/
theorem Cfg.pushIn {K : PySem.W.Frag} {Fz : Addr → Prop} {H : Hp} {s : S} {σ : L2.St} {fp : List Addr} {xs ys : List D} {D0 : Addr} {j : Nat} {d : D} {w : V} (C : Cfg K Fz H (some (.lst true xs) :: s) (some (.ref D0) :: σ) fp) (hj : xs[j]? = some (.lst true ys)) (rd : Rep K Fz H d w []) :
    ∃ acc b inner, H D0 = some (.lst acc) ∧ acc.length = xs.length ∧ acc[j]? = some (.ref b) ∧ H b = some (.lst inner) ∧ inner.length = ys.length ∧ ∃ fp', Cfg K Fz (upd H b (.lst (inner ++ [w]))) (some (.lst true (xs.set j (.lst true (ys ++ [d])))) :: s) (some (.ref D0) :: σ) fp' ∧ Go Fz H fp Fz (upd H b (.lst (inner ++ [w]))) fp' := by
  obtain ⟨acc, f, g, q, rl, rs, rfl, n1, n2, nd, z0, zf⟩ := C.parts
  obtain ⟨y, g1, r1, ey, ry, p, _, st⟩ := rl.pick hj
  cases ry with
  | @lstO b _ inner fi qb rb =>
    have hb : b ∈ f := p.mem_iff.mpr (List.mem_append_left _ (List.mem_cons_self ..))
    have nbD : D0 ≠ b := fun e => n1 (e ▸ hb)
    have ndf := (List.nodup_append.mp nd)
    have ndp := (p.nodup_iff.mp ndf.1)
    have zb : ¬ Fz b := zf b (List.mem_append_left _ hb)
    have kb : ∀ {c u}, c ≠ b → H c = some u → upd H b (.lst (inner ++ [w])) c = some u := fun {c u} hc e => by rw [upd_ne hc]; exact e
    have kz : ∀ a u, Fz a → H a = some u → upd H b (.lst (inner ++ [w])) a = some u := fun a u z e => kb (fun ea => zb (ea ▸ z)) e
    have nfi : ∀ a ∈ fi, a ≠ b := fun a h e => (List.nodup_cons.mp (List.nodup_append.mp ndp).1).1 (e ▸ h)
    have nr1 : ∀ a ∈ r1, a ≠ b := fun a h e => (List.nodup_append.mp ndp).2.2 b (List.mem_cons_self ..) a h e.symm
    -- the list of the others, with the new inner one
    have R2 : ∃ h, RepL K Fz (upd H b (.lst (inner ++ [w]))) (xs.set j (.lst true (ys ++ [d]))) acc h ∧ h.Perm f := by
      have hset : acc.set j (.ref b) = acc := by
        apply List.ext_getElem?
        intro m
        rw [List.getElem?_set]
        split
        · rename_i e; subst e
          split
          · exact ey.symm
          · rename_i h2; rw [List.getElem?_eq_none (by omega)] at ey; cases ey
        · rfl
      have key : ∀ {xs vs f} {k : Nat} {g1 r1 : List Addr}, RepL K Fz H xs vs f → xs[k]? = some (.lst true ys) → vs[k]? = some (.ref b) → f.Nodup → b ∈ f → RepL K Fz H ys inner fi → H b = some (.lst inner) → ∃ h, RepL K Fz (upd H b (.lst (inner ++ [w]))) (xs.set k (.lst true (ys ++ [d]))) vs h ∧ h.Perm f := fun {xs} => by
        induction xs with
        | nil => intro vs f k g1 r1 _ h; simp at h
        | cons x xs ih =>
          intro vs f k g1 r1 hr hx hv hn hb rb qb
          cases hr with
          | @cons _ v f1 _ vs f2 r s =>
            have hn' := List.nodup_append.mp hn
            cases k with
            | zero =>
              simp at hx hv
              subst hx hv
              cases r with
              | @lstO _ _ inner2 fi2 q2 r2 =>
                rw [qb] at q2
                cases q2
                have hfi := (List.nodup_cons.mp hn'.1).1
                refine ⟨(b :: (fi2 ++ ([] ++ []))) ++ f2, .cons (.lstO upd_same ((r2.keep (fun _ h => h) kz fun a u h e => kb (fun ea => hfi (ea ▸ h)) e).app (.cons (rd.keep (fun _ h => h) kz fun _ _ h => nomatch h) .nil))) (s.keep (fun _ h => h) kz fun a u h e => kb (fun ea => hn'.2.2 b (List.mem_cons_self ..) a h ea.symm) e), by simp⟩
            | succ k =>
              have hb2 : b ∈ f2 := by
                obtain ⟨y, g3, e3, r3, h3⟩ := RepL.get (j := k) s (by simpa using hx)
                have : y = .ref b := by
                  have hv' : vs[k]? = some (.ref b) := by simpa using hv
                  rw [hv'] at e3; exact (Option.some.inj e3).symm
                subst this
                cases r3 with
                | lstO _ _ => exact h3 b (List.mem_cons_self ..)
              obtain ⟨h, rh, ph⟩ := ih (k := k) (g1 := []) (r1 := []) s (by simpa using hx) (by simpa using hv) hn'.2.1 hb2 rb qb
              exact ⟨f1 ++ h, .cons (r.keep (fun _ h => h) kz fun a u h e => kb (fun ea => hn'.2.2 a h b hb2 ea) e) rh, ph.append_left f1⟩
      exact key (g1 := []) (r1 := []) rl hj ey ndf.1 hb rb qb
    obtain ⟨h, rh, ph⟩ := R2
    have C' : Cfg K Fz (upd H b (.lst (inner ++ [w]))) (some (.lst true (xs.set j (.lst true (ys ++ [d])))) :: s) (some (.ref D0) :: σ) (D0 :: h ++ g) := by
      refine ⟨RepS.cons (f := D0 :: h) (.som (.lstO (kb nbD q) rh)) (rs.keep (fun _ h => h) kz fun a u ha e => kb (fun ea => ndf.2.2 b hb a ha ea.symm) e), ?_, fun a ha z => ?_, fun a z e => ?_⟩
      · have : (D0 :: h ++ g).Perm (D0 :: (f ++ g)) := by simpa using ((ph.append_right g).cons D0)
        exact this.nodup_iff.mpr (List.nodup_cons.mpr ⟨fun h => (List.mem_append.mp h).elim n1 n2, nd⟩)
      · rcases List.mem_append.mp ha with hh | hh
        · rcases List.mem_cons.mp hh with hh | hh
          · rw [hh] at z; exact z0 z
          · exact zf a (List.mem_append_left _ (ph.mem_iff.mp hh)) z
        · exact zf a (List.mem_append_right _ hh) z
      · have nab : a ≠ b := fun ea => by rw [ea] at z; exact zb z
        rw [upd_ne nab] at e; exact C.ft a z e
    refine ⟨acc, b, inner, q, rl.length.symm, ey, qb, rb.length.symm, _, C', ⟨fun a u e n => kb (fun ea => n (by rw [ea]; exact List.mem_append_left _ (List.mem_cons_of_mem _ hb))) e, fun a e => ?_, fun _ h => h, fun _ h => .inl h, fun a ha => .inl ?_⟩⟩
    · by_cases ea : a = b
      · subst ea; rw [upd_same] at e; cases e
      · rw [upd_ne ea] at e; exact e
    · rcases List.mem_append.mp ha with hh | hh
      · rcases List.mem_cons.mp hh with hh | hh
        · rw [hh]; exact List.mem_append_left _ (List.mem_cons_self ..)
        · exact List.mem_append_left _ (List.mem_cons_of_mem _ (ph.mem_iff.mp hh))
      · exact List.mem_append_right _ hh
theorem se_app2 (i : Nat) {x : Str} {p p2 apos cpos : Pos} {ek ea : Expr} {mk : M D} {a : Atm} (hk : SE Γ Φ ek mk) (ha : SAt Γ Φ ea a) (hN : Γ.N[i]? = some x := by rfl) (hv : gVis Γ.sc x = true := by rfl) (hd : (x == ("__debug__" : Str)) = false := by decide) (hcd : (x == ("__classdict__" : Str)) = false := by decide) (ns : NoStar ea := by intro _ _; rfl) (hpi : PlainIx ek := by intro _ _; rfl)
    (hbase : ∀ env : Env, attributeBase (.Subscript (.Name x p) ek p2) "append" env (eval (.Subscript (.Name x p) ek p2) env) = eval (.Subscript (.Name x p) ek p2) env := by intro _; rfl)
    (hfew : ∀ env : Env, ((backTo cpos (starEach [ea] env)).all (fun x => !x.1) && (backToKw cpos (keywordEach [] env)).all (fun x => x.1.isSome) && decide ([ea].length + ([] : List Keyword).length + (if ([] : List Keyword).isEmpty then 0 else 1) < 30)) = true := by intro _; rfl)
    (hline : (apos.endLine == cpos.line) = true := by rfl) (hpl : ∀ env : Env, (backTo cpos (starEach ([] : List Expr) env)).any (·.1) = false := by intro _; rfl) :
    SE Γ Φ (.Call (.Attribute (.Subscript (.Name x p) ek p2) "append" apos) [ea] [] cpos) (mApp2 i mk a) := fun X o =>
  pe_imp (pe_bm PySem.F.plainAttrs_list PySem.F.slot_list_append PySem.F.type_list_append mt_append (pe_ix ix_list (pe_var (o.slot hN) (o.vis hv) hd hcd) (hk X o) hpi) (pa_cons (ha.pe X o) pa_nil (ns _ _)) (hbase _) (hfew _) hline (ns _ _) (hpl _)) fun σ H Q q => by
    obtain ⟨Fz, fp, st, C, d', st', e, k⟩ := q
    unfold mApp2 at e
    split at e
    · rename_i hL
      split at e
      · rename_i j s hm
        split at e
        · rename_i xs d hx hda
          split at e
          · rename_i jj hj
            split at e
            · rename_i ys hy
              split at e
              · rename_i hz
                cases e
                obtain ⟨a0, ea0, ty⟩ := isLst_ty C hL
                refine ⟨_, ea0, ?_⟩
                refine rd.run (P := []) (PV := []) C rfl hm fun v H1 Fz1 fp1 C1 g1 => ?_
                obtain ⟨v', fv, ev, rv, _⟩ := C1.head
                cases ev
                obtain ⟨f1', C1', h1'⟩ := C1.drop
                have C1' : Cfg X.K Fz1 H1 s σ f1' := C1'
                obtain ⟨w, f2, ew, C2, h2⟩ := Cfg.takeP (P := []) (PV := []) (s := s) (σ := σ) rfl C1' hx rfl
                rw [ea0] at ew
                cases ew
                -- the atom
                obtain ⟨dw, hdw, rdw⟩ : ∃ dw : V, (∀ Q' : VK, Q' dw H1 → rdAt X.K a σ H1 Q') ∧ Rep X.K Fz1 H1 d dw [] := by
                  cases a with
                  | v i' =>
                    simp only [Atm.get] at hda
                    split at hda
                    · rename_i d2 hd2
                      split at hda
                      · rename_i hi2
                        cases hda
                        obtain ⟨dv, fd, ed, rd, _⟩ := C1'.get hd2
                        have := rd.imm hi2
                        subst this
                        exact ⟨dv, fun Q' q => ⟨dv, ed, q⟩, rd⟩
                      · cases hda
                    · cases hda
                  | c d2 w2 =>
                    cases hda
                    exact ⟨w2, fun Q' q => q, ha.ok d w2 rfl _ _ _⟩
                obtain ⟨acc, b, inner, hacc, hla, hab, hib, hil, f4, C4, g4⟩ := Cfg.pushIn C2 hy rdw
                obtain ⟨f5, C5, h5⟩ := Cfg.putback (P := []) (PV := []) (st := s.set i none) (σ := σ) (i := i) rfl C4 ea0
                have C5 : Cfg X.K Fz1 _ ((s.set i none).set i (some (.lst true (xs.set jj (.lst true (ys ++ [d])))))) σ f5 := C5
                rw [set_set_none] at C5
                refine ⟨a0, acc, j, .ref b, rfl, rv.inti, .inl (.inl hacc), ?_, .inl ⟨rfl, inner, .inl (.inl hib)⟩, hdw _ ⟨b, inner, dw, rfl, rfl, hib, ?_, k .non _ Fz1 f5 (Cfg.atom C5 .non) ?_⟩⟩
                · unfold atI
                  rw [hla, hj]
                  exact hab
                · rw [hil, ← LN_eq]; exact Nat.blt_eq.mp hz
                · exact g1.trans (((g4.frame h2 fun b hb => .inl hb).frame h1' fun b hb => .inl hb).sub h5)
              · cases e
            · cases e
          · cases e
        · cases e
      · cases e
    · cases e

/-! ### {}, {k: v} -/
def mDict0 : M D := fun st => some (.dic true [], st)
theorem se_dict0 {pos : Pos} : SE Γ Φ (.Dict [] [] pos) mDict0 := fun X o => pe_imp pe_dnewK fun σ H Q q => by
  obtain ⟨Fz, fp, st, C, d, st', e, k⟩ := q
  cases e
  intro p hp
  exact fin_new (T := []) (TV := []) (f3 := [p]) (Fz3 := Fz) k rfl C .refl hp (.inl ⟨rfl, rfl⟩) (.dicO upd_same .nil)
def mDict1 (mk mv : M D) : M D := fun st => match mk st with
  | some (k, s) => match mv s with
    | some (v, s') => match keyD k with
      | some _ => match imm v with
        | true => some (.dic true [(k, v)], s')
        | false => none
      | none => none
    | none => none
  | none => none
theorem se_dict1 {pos : Pos} {ek ev : Expr} {mk mv : M D} (hk : SE Γ Φ ek mk) (hv : SE Γ Φ ev mv) : SE Γ Φ (.Dict [some ek] [ev] pos) (mDict1 mk mv) := fun X o =>
  pe_imp (pe_disp (pps_cons (hk X o) (hv X o) pps_nil) rfl rfl (by simp) (by simp)) fun σ H Q q => by
    obtain ⟨Fz, fp, st, C, d, st', e, k⟩ := q
    unfold mDict1 at e
    split at e
    · rename_i kd s hm
      split at e
      · rename_i vd s' hm'
        split at e
        · rename_i kk hkk
          split at e
          · rename_i hi
            cases e
            intro p hp
            -- the new dict stands at the front
            have C0 : Cfg X.K Fz (upd H p (.dK [])) (some (.dic true []) :: st) (some (.ref p) :: σ) (p :: fp) ∧ Go Fz H fp Fz (upd H p (.dK [])) (p :: fp) := by
              have := fin_new (K := X.K) (Fz := Fz) (H := H) (fp := fp) (σ := σ) (z := .dic true []) (s := st) (T := []) (TV := []) (f3 := [p]) (Fz3 := Fz) (o := .dK []) (p := p) (Q := fun v H' => v = .ref p → H' = upd H p (.dK []) → ∃ Fz' fp', Cfg X.K Fz' H' (some (.dic true []) :: st) (some v :: σ) fp' ∧ Go Fz H fp Fz' H' fp')
                (fun v H' Fz' fp' C g _ _ => ⟨Fz', fp', C, g⟩) rfl C .refl hp (.inl ⟨rfl, rfl⟩) (.dicO upd_same .nil)
              have kk2 : ∀ {a u}, H a = some u → upd H p (.dK []) a = some u := fun {a u} e => by rw [upd_ne (ne_of_none e hp)]; exact e
              refine ⟨⟨RepS.cons (f := [p]) (.som (.dicO upd_same .nil)) (C.rep.keep (fun _ h => h) (fun _ _ _ e => kk2 e) fun _ _ _ e => kk2 e), List.nodup_cons.mpr ⟨fun h => C.there p h hp, C.nd⟩, fun a h z => ?_, fun a z e => ?_⟩, ⟨fun a u e _ => kk2 e, fun a e => ?_, fun _ h => h, fun _ h => .inl h, fun a h => ?_⟩⟩
              · rcases List.mem_cons.mp h with h | h
                · rw [h] at z; exact C.ft p z hp
                · exact C.fz a h z
              · by_cases ea : a = p
                · rw [ea] at z; exact C.ft p z hp
                · rw [upd_ne ea] at e; exact C.ft a z e
              · by_cases ea : a = p
                · rw [ea]; exact hp
                · rw [upd_ne ea] at e; exact e
              · rcases List.mem_cons.mp h with h | h
                · rw [h]; exact .inr hp
                · exact .inl h
            obtain ⟨C0, g0⟩ := C0
            refine rd.run (P := [some (.dic true [])]) (PV := [some (.ref p)]) C0 rfl hm fun x H1 Fz1 fp1 C1 g1 => ?_
            refine rd.run (P := [some kd, some (.dic true [])]) (PV := [some x, some (.ref p)]) C1 rfl hm' fun y H2 Fz2 fp2 C2 g2 => ?_
            obtain ⟨y', fy, ey, ry, _⟩ := C2.head
            cases ey
            have := ry.imm hi
            subst this
            obtain ⟨f3, C3, h3⟩ := C2.drop
            have C3 : Cfg X.K Fz2 H2 (some kd :: (some (.dic true []) :: st')) (some x :: (some (.ref p) :: σ)) f3 := C3
            obtain ⟨x', fx, ex, rx, _⟩ := C3.head
            cases ex
            have ekx := keyD_v hkk rx
            subst ekx
            obtain ⟨f4, C4, h4⟩ := C3.drop
            have hp2 : H2 p = some (.dK []) := by
              obtain ⟨acc, f, g, q, rl, _⟩ := C4.partsD
              cases rl
              exact q
            obtain ⟨acc, hacc, _, f5, C5, g5⟩ := Cfg.putKey C4 hkk ry
            rw [hp2] at hacc
            cases hacc
            refine ⟨hp2, [(kk, y)], rfl, by simp, ?_⟩
            exact k (.ref p) _ Fz2 f5 C5 (((g0.trans g1).trans g2).trans (g5.frame (fun b hb => h3 b (h4 b hb)) fun b hb => .inl hb))
          · cases e
        · cases e
      · cases e
    · cases e
end
end Va
/-! Va20: dict comprehensions; defs -/
namespace Va
open PySem PySem.Spec PyProof.Rows L2

theorem putD_len (kvs : List (D × D)) (k x : D) : (putD kvs k x).length ≤ kvs.length + 1 := by
  have h : ∀ kvs : List (D × D), (swapD kvs k x).length = kvs.length := fun kvs => by
    induction kvs with
    | nil => rfl
    | cons p r ih =>
      obtain ⟨a, y⟩ := p
      unfold swapD
      split <;> simp [ih]
  unfold putD
  split
  · rw [h]; omega
  · simp
def dcL (t : Tgt) (mt : M Bool) (mk mv : M D) (own : List Nat) : List D → List (D × D) → M (List (D × D))
  | [], acc => fun st => some (acc, st)
  | d :: ds, acc => fun st => match asgT t d st with
    | some s1 => match mt s1 with
      | some (true, s2) => match mk s2 with
        | some (k, s3) => match mv s3 with
          | some (v, s4) => match keyD k with
            | some _ => match imm v with
              | true => dcL t mt mk mv own ds (putD acc k v) (wipeS s4 own)
              | false => none
            | none => none
          | none => none
        | none => none
      | some (false, s2) => dcL t mt mk mv own ds acc (wipeS s2 own)
      | none => none
    | none => none
def mDc (mi : M (List D)) (t : Tgt) (mt : M Bool) (mk mv : M D) (own : List Nat) : M D := fun st => match mi st with
  | some (ds, s) => match ownOk s own && Nat.ble ds.length LN with
    | true => match dcL t mt mk mv own ds [] (wipeS s own) with
      | some (out, s') => some (.dic true out, backS s s' own)
      | none => none
    | false => none
  | none => none
section
variable {Γ : Gam} {Φ : GCx → Prop}
theorem dc_reads {K : PySem.W.Frag} {mi : M (List D)} {t : Tgt} {mt : M Bool} {mk mv : M D} {own : List Nat} (hs : t.slots.all (fun i => own.any (· == i)) = true) {σ0 : L2.St} {H0 : Hp} {Q : VK} (q : rd K (mDc mi t mt mk mv own) σ0 H0 Q) :
    tDc (rdI K mi) (tgG K t) (rdT K mt) (rd K mk) (rd K mv) own σ0 H0 Q := by
  obtain ⟨Fz0, fp0, st0, C0, dz, st', e0, k0⟩ := q
  unfold mDc at e0
  split at e0
  · rename_i ds s0 hm0
    split at e0
    · rename_i hok
      simp only [Bool.and_eq_true] at hok
      split at e0
      · rename_i out s' hL
        cases e0
        refine ⟨Fz0, fp0, st0, C0, ds, s0, hm0, fun J H1 Fz1 fp1 C1 g1 it D0 hD0 => ?_⟩
        have hlen : ds.length ≤ sizeLine := by rw [← LN_eq]; exact Nat.le_of_ble_eq_true hok.2
        obtain ⟨fw, Cw, hw⟩ := C1.wipe own
        have start : ∃ Fz fp, Cfg K Fz (upd H1 D0 (.dK [])) (some (.dic true []) :: wipeS s0 own) (some (.ref D0) :: L2.wipe σ0 own) fp ∧ Go Fz1 H1 fp1 Fz (upd H1 D0 (.dK [])) fp := by
          have := fin_new (K := K) (Fz := Fz1) (H := H1) (fp := fp1) (σ := L2.wipe σ0 own) (z := .dic true []) (s := wipeS s0 own) (T := []) (TV := []) (f3 := [D0]) (Fz3 := Fz1) (o := .dK []) (p := D0) (Q := fun v H' => v = .ref D0 ∧ H' = upd H1 D0 (.dK []) → ∃ Fz fp, Cfg K Fz (upd H1 D0 (.dK [])) (some (.dic true []) :: wipeS s0 own) (some (.ref D0) :: L2.wipe σ0 own) fp ∧ Go Fz1 H1 fp1 Fz (upd H1 D0 (.dK [])) fp)
            (fun v H' Fz' fp' C g ⟨e1, e2⟩ => by subst e1 e2; exact ⟨Fz', fp', C, g⟩) rfl Cw (Go.refl.sub hw) hD0 (.inl ⟨rfl, rfl⟩) (.dicO upd_same .nil)
          exact this ⟨rfl, rfl⟩
        obtain ⟨FzS, fpS, CS, gS⟩ := start
        refine ⟨fun i m H => ∃ Fz fp st acc, Cfg K Fz H (some (.dic true acc) :: st) (some (.ref D0) :: L2.wipe σ0 own) fp ∧ m + i = ds.length ∧ acc.length ≤ i ∧ dcL t mt mk mv own (ds.drop i) acc st = some (out, s') ∧ Go Fz1 H1 fp1 Fz H fp,
          ⟨ds.length, FzS, fpS, wipeS s0 own, [], CS, rfl, Nat.le_refl _, hL, gS⟩, ?_⟩
        rintro i m H ⟨Fz, fp, st, acc, C, hmi, hacc, e, gl⟩
        have zk : ∀ a o, Fz1 a → H1 a = some o → H a = some o := fun a o z e => gl.keep a o e fun q => C1.fz a q z
        by_cases hlt : i < ds.length
        · right
          refine ⟨it.go gl.fzm zk hlt, fun H' => ∃ Fz fp st acc, Cfg K Fz H' (some (.dic true acc) :: st) (some (.ref D0) :: L2.wipe σ0 own) fp ∧ acc.length ≤ i + 1 ∧ dcL t mt mk mv own (ds.drop (i + 1)) acc st = some (out, s') ∧ Go Fz1 H1 fp1 Fz H' fp,
            fun H' ⟨Fz, fp, st, acc, C, h1, h2, h4⟩ => ⟨m - 1, by omega, Fz, fp, st, acc, C, by omega, h1, h2, h4⟩, fun x H' y => ?_⟩
          have hd : ds[i]? = some ds[i] := List.getElem?_eq_getElem hlt
          rw [List.drop_eq_getElem_cons hlt] at e
          obtain ⟨Fz3, C3, g3, r3⟩ := it.yld gl.fzm zk hd C y
          unfold dcL at e
          split at e
          · rename_i s1 ha
            refine cfg_single (tgG_ok t) C3 ha r3 fun σ2 f2 C4 h4 hl4 hn4 => ⟨wipe_of hs hl4 hn4, ?_⟩
            have hw2 := wipe_of hs hl4 hn4
            have ga := (gl.trans g3).sub h4
            split at e
            · rename_i s2 hb
              refine rdT.run (P := [some (.dic true acc)]) (PV := [some (.ref D0)]) C4 rfl hb fun H4 Fz4 f4 C5 g5 => iteT ?_
              split at e
              · rename_i kd s3 hk
                refine rd.run (P := [some (.dic true acc)]) (PV := [some (.ref D0)]) C5 rfl hk fun kv H5 Fz5 f5 C6 g6 => ?_
                split at e
                · rename_i vd s4 hv
                  refine rd.run (P := [some kd, some (.dic true acc)]) (PV := [some kv, some (.ref D0)]) C6 rfl hv fun vv H6 Fz6 f6 C7 g7 => ?_
                  split at e
                  · rename_i kk hkk
                    split at e
                    · rename_i hi
                      obtain ⟨v', fv, ev, rv, _⟩ := C7.head
                      cases ev
                      have := rv.imm hi
                      subst this
                      obtain ⟨f8, C8, h8⟩ := C7.drop
                      have C8 : Cfg K Fz6 H6 (some kd :: (some (.dic true acc) :: s4)) (some kv :: (some (.ref D0) :: σ2)) f8 := C8
                      obtain ⟨k', fk, ek, rk, _⟩ := C8.head
                      cases ek
                      have ekk := keyD_v hkk rk
                      subst ekk
                      obtain ⟨f9, C9, h9⟩ := C8.drop
                      obtain ⟨av, hav, hla, f10, C10, g10⟩ := Cfg.putKey C9 hkk rv
                      obtain ⟨f11, C11, h11⟩ := Cfg.wipe1 (s := s4) (σ := σ2) C10 own
                      rw [hw2] at C11
                      have hpl := putD_len acc kd vd
                      exact ⟨av, kk, rfl, hav, by omega, Fz6, f11, wipeS s4 own, putD acc kd vd, C11, by omega, e, ((((ga.trans g5).trans g6).trans g7).trans (g10.frame (fun b hb => h8 b (h9 b hb)) fun b hb => .inl hb)).sub h11⟩
                    · cases e
                  · cases e
                · cases e
              · cases e
            · rename_i s2 hb
              refine rdT.run (P := [some (.dic true acc)]) (PV := [some (.ref D0)]) C4 rfl hb fun H4 Fz4 f4 C5 g5 => iteF ?_
              obtain ⟨f8, C8, h8⟩ := Cfg.wipe1 (s := s2) (σ := σ2) C5 own
              rw [hw2] at C8
              exact ⟨Fz4, f8, wipeS s2 own, acc, C8, by omega, e, (ga.trans g5).sub h8⟩
            · cases e
          · cases e
        · left
          refine ⟨it.stop gl.fzm zk (by omega), ?_⟩
          rw [List.drop_eq_nil_of_le (by omega)] at e
          simp only [dcL, Option.some.injEq, Prod.mk.injEq] at e
          obtain ⟨e1, e2⟩ := e
          subst e1 e2
          obtain ⟨fP, f0, C0', fr⟩ := Cfg.frame (P := [some (.dic true acc)]) (PV := [some (.ref D0)]) C rfl
          obtain ⟨f1, Cb, h1⟩ := C1.back gl.fzm zk C0' own hok.1
          rw [backT_back] at Cb
          obtain ⟨f2, C2, g2, _⟩ := fr Cb (Go.refl.sub h1)
          exact k0 (.ref D0) H Fz f2 C2 ((g1.trans gl).trans g2)
      · cases e0
    · cases e0
  · cases e0
theorem se_dc {kx vx tg iter : Expr} {ifs : List Expr} {scope : Scope} {own : List (Str × Nat)} {pos : Pos} {mi : M (List D)} {t : Tgt} {mt : M Bool} {mk mv : M D} (ok : blkC Γ.N Γ.sc scope own = true) (hi : SI Γ Φ tg iter mi) (hg : SG (Γ.blk scope) Φ tg t) (ht : STs (Γ.blk scope) Φ ifs mt) (hkx : SE (Γ.blk scope) Φ kx mk) (hvx : SE (Γ.blk scope) Φ vx mv)
    (hk : (relS scope Γ.sc).kind = .function := by rfl) (hs : t.slots.all (fun i => (own.map (·.2)).any (· == i)) = true := by rfl) (hf : ∀ (env : Env) x, foldedSetIterable iter env x = pure x := by intro _ _; rfl) :
    SE Γ Φ (.DictComp kx vx [⟨tg, iter, ifs, 0⟩] scope pos) (mDc mi t mt mk mv (own.map (·.2))) := fun X o =>
  pe_imp (pe_dc (own := own) (g := tgG X.K t) (tt := rdT X.K mt) (tk := rd X.K mk) (tv := rd X.K mv) o.calm o.nd (hi X o) (blkOk_by (by rw [o.N, o.sc]; exact ok)) (fun s H C cl fp => hg _ (o.blk hk s H C cl fp)) (fun s H C cl fp => ht _ (o.blk hk s H C cl fp)) (fun s H C cl fp => hkx _ (o.blk hk s H C cl fp)) (fun s H C cl fp => hvx _ (o.blk hk s H C cl fp)) (hf _)) fun σ H Q q => dc_reads hs q
end

end Va
/-! Va21: zip; the table of defs -/
namespace Va
open PySem PySem.Spec PyProof.Rows L2

def mZip (m : M (List D)) : M (List D) := fun st => match m st with
  | some ([a, b], s) => match frzA a, frzA b with
    | .tup xs, .tup ys => some (zipD xs ys, s)
    | .lst false xs, .lst false ys => some (zipD xs ys, s)
    | _, _ => none
  | _ => none
section
variable {Γ : Gam} {Φ : GCx → Prop}
theorem si_zip {e e' : Expr} {m : M (List D)} {p pos tpos : Pos} {elts : List Expr} {kk : Nat} (h : SA Γ Φ [e, e'] m) (hb : ∀ g, Φ g → g.mg "zip" = none) (hg : gGl Γ.sc "zip" = true := by rfl) (ns : NoStar e := by intro _ _; rfl) (ns' : NoStar e' := by intro _ _; rfl) (ns0 : ∀ env : Env, starEach ([] : List Expr) env = [] := by intro _; rfl) :
    SI Γ Φ (.Tuple elts kk tpos) (.Call (.Name "zip" p) [e, e'] [] pos) (mZip m) := fun X o =>
  pi_imp (RZ.pi_zipA (o.gl hg) (hb _ o.phi) (h X o) (ns _ _) (by rw [ns', ns0]; rfl)) fun σ H R q => by
    obtain ⟨Fz, fp, st, C, ds, st', e, k⟩ := q
    unfold mZip at e
    split at e
    · rename_i a b s hm
      refine ⟨Fz, fp, st, C, _, _, hm, fun vs H' Fz' fp' hl C1 g1 => ?_⟩
      obtain ⟨F2, f2, C2, r2, g2⟩ := Cfg.frzTemps hl C1
      match vs, hl with
      | [v, w], _ =>
        obtain ⟨y, ey, ry⟩ := r2.get0 (i := 0) (x := frzA a) rfl
        cases ey
        obtain ⟨y, ey, rz⟩ := r2.get0 (i := 1) (x := frzA b) rfl
        cases ey
        split at e
        · rename_i xs ys ea eb
          rw [ea] at ry
          rw [eb] at rz
          cases e
          cases ry with
          | tup q z r => cases rz with
            | tup q' z' r' =>
              exact ⟨_, _, _, _, rfl, .inr ⟨.inl (.inl q), .inl (.inl q'), k _ _ _ _ C2 (g1.trans g2) (itzT_ok q z q' z' r r')⟩⟩
        · rename_i xs ys ea eb
          rw [ea] at ry
          rw [eb] at rz
          cases e
          generalize hfp : ([] : List Addr) = ff at ry
          generalize hfp2 : ([] : List Addr) = ff2 at rz
          cases ry with
          | lstF q z r => cases rz with
            | lstF q' z' r' =>
              exact ⟨_, _, _, _, rfl, .inl ⟨.inl (.inl q), .inl (.inl q'), k _ _ _ _ C2 (g1.trans g2) (itz_ok q z q' z' r r')⟩⟩
        · cases e
    · cases e
end
end Va
/-! Va22: a name that is lent late -/
namespace Va
open PySem PySem.Spec PyProof.Rows L2

/-- the name is bound; behind the other arguments its datum is lent -/
def mLate (i : Nat) (r : M (List D)) : M (List D) := fun st => match st[i]? with
  | some (some _) => match r st with
    | some (ds, s) => match mTake i s with
      | some (d, s') => some (d :: ds, s')
      | none => none
    | none => none
  | _ => none
section
variable {Γ : Gam} {Φ : GCx → Prop}
theorem sl_w (i : Nat) {x : Str} {pos : Pos} {es : List Expr} {r : M (List D)} {b : Back} (hr : SL Γ Φ es r b) (hN : Γ.N[i]? = some x := by rfl) (hv : gVis Γ.sc x = true := by rfl) (hd : (x == ("__debug__" : Str)) = false := by decide) (hcd : (x == ("__classdict__" : Str)) = false := by decide) :
    SL Γ Φ (.Name x pos :: es) (mLate i r) (some i :: b) := fun X o => pa_imp (pa_cons (pe_var (o.slot hN) (o.vis hv) hd hcd) (hr X o) (by rfl)) fun σ H Q q => by
  obtain ⟨Fz, fp, st, C, ds, st', e, k⟩ := q
  unfold mLate at e
  split at e
  · rename_i d0 h0
    split at e
    · rename_i ds' s hm
      split at e
      · rename_i d s' ht
        cases e
        obtain ⟨v, f0, ev, _, _⟩ := C.get h0
        refine ⟨v, ev, ?_⟩
        refine ⟨Fz, fp, st, C, _, _, hm, fun vs H2 Fz2 fp2 hl hb hL C2 g2 => ?_⟩
        obtain ⟨fP, f2, C3, fr⟩ := Cfg.frame (P := ds'.map some) (PV := vs.map some) C2 (by simp [hl])
        obtain ⟨w, f3, ew, C4, h4⟩ := C3.take ht
        have : w = v := by rw [ev] at ew; cases ew; rfl
        subst this
        obtain ⟨f5, C5, g5, _⟩ := fr (st' := some d :: _) (σ' := some w :: σ) C4 (Go.refl.sub h4)
        obtain ⟨f6, C6, p6⟩ := Cfg.float (x := some d) (y := some w) (P := ds'.map some) (PV := vs.map some) (by simp [hl]) C5
        exact k (w :: vs) H2 Fz2 f6 (by simp [hl]) (by simp [hb]) (Links.cons (fun j i h => hL j i h) fun i' h => by cases h; exact ev) C6 ((g2.trans g5).sub fun a h => p6.mem_iff.mp h)
      · cases e
    · cases e
  · cases e
end
end Va
/-! Va23: defs; the table of defs; the end -/
namespace Va
open PySem PySem.Spec PyProof.Rows L2

/-! ### defs -/
/-- the body's way out as a call's value; what the parameters hold behind (those that the body does not store) -/
def outsOf (RO : Nat → Bool) : Nat → Nat → S → List (Option D)
  | _, 0, _ => []
  | _, _ + 1, [] => []
  | j, n + 1, x :: s => (match RO j with
    | true => x
    | false => none) :: outsOf RO (j + 1) n s
def runD (nN n : Nat) (RO : Nat → Bool) (m : M Fl) : Fn := fun ds => match Nat.beq ds.length n with
  | true => match m (ds.map some ++ List.replicate (nN - n) none) with
    | some (fl, s) => match Nat.ble n s.length with
      | true => match fl with
        | .ret d => some (d, outsOf RO 0 n s)
        | .nx => some (.non, outsOf RO 0 n s)
        | _ => none
      | false => none
    | none => none
  | false => none
theorem runD_some {nN n : Nat} {RO : Nat → Bool} {m : M Fl} {ds : List D} {d : D} {outs : List (Option D)} (h : runD nN n RO m ds = some (d, outs)) : ∃ fl s, m (ds.map some ++ List.replicate (nN - n) none) = some (fl, s) ∧ n ≤ s.length ∧ outs = outsOf RO 0 n s ∧ ((fl = .ret d) ∨ (fl = .nx ∧ d = .non)) := by
  unfold runD at h
  split at h
  · split at h
    · rename_i fl s hm
      split at h
      · rename_i hb
        have hb := Nat.le_of_ble_eq_true hb
        split at h
        · cases h; exact ⟨_, _, hm, hb, rfl, .inl rfl⟩
        · cases h; exact ⟨_, _, hm, hb, rfl, .inr ⟨rfl, rfl⟩⟩
        · cases h
      · cases h
    · cases h
  · cases h
theorem outsOf_length (RO : Nat → Bool) : ∀ (j n : Nat) (s : S), n ≤ s.length → (outsOf RO j n s).length = n
  | _, 0, _, _ => rfl
  | _, n + 1, [], h => by simp at h
  | j, n + 1, x :: s, h => by simp [outsOf, outsOf_length RO (j + 1) n s (by simpa using h)]
section
variable {K : PySem.W.Frag} {Fz : Addr → Prop} {H : Hp}
theorem RepS.outs {RO : Nat → Bool} {σ0 : L2.St} : ∀ (n j : Nat) {s : S} {σ : L2.St} {fp}, RepS K Fz H s σ fp → n ≤ s.length → (∀ i, i < n → RO (j + i) = true → σ[i]? = σ0[i]?) → n ≤ σ0.length → ∃ h r, RepS K Fz H (outsOf RO j n s) (σ0.take n) h ∧ (h ++ r).Perm fp
  | 0, _, _, _, fp, _, _, _, _ => ⟨[], fp, by simp [outsOf]; exact .nil, by simp⟩
  | n + 1, j, _, _, _, .nil, h, _, _ => by simp at h
  | n + 1, j, x :: s, y :: σ, _, .cons (f := f) (g := g) rx rs, h, hr, hl => by
    cases σ0 with
    | nil => simp at hl
    | cons y0 σ0 =>
      obtain ⟨h2, r2, R2, p2⟩ := RepS.outs (σ0 := σ0) n (j + 1) rs (by simpa using h) (fun i hi ho => by
        have := hr (i + 1) (by omega) (by rw [show j + (i + 1) = j + 1 + i by omega]; exact ho)
        simpa using this) (by simpa using hl)
      rw [List.take_succ_cons]
      unfold outsOf
      cases e : RO j with
      | true =>
        have := hr 0 (by omega) (by simpa using e)
        have ey : y = y0 := by simpa using this
        subst ey
        exact ⟨f ++ h2, r2, .cons rx R2, by rw [List.append_assoc]; exact p2.append_left f⟩
      | false =>
        refine ⟨[] ++ h2, r2 ++ f, .cons .skip R2, ?_⟩
        rw [List.nil_append, ← List.append_assoc]
        exact (p2.append_right f).trans List.perm_append_comm
end
section
variable {P : Program} {w : World} {K : PySem.W.Frag} {mg : Str → Option Value} {base : Heap}
/-- a def by its body -/
theorem def_ok {x qual : Str} {pr : Arguments} {bd : List Stmt} {scp : Scope} {dvs : List V} {kws : List (Str × V)} {f : Addr} {fd : FuncData} {N ps : List Str} {k n : Nat} {RO : Nat → Bool} {m : M Fl} {Φ : GCx → Prop} (F : FunD K x qual pr bd scp dvs kws f fd) (Sc : FnScope N ps scp) (hn : ps.length = n) (hN : n ≤ N.length)
    (hb : SS { N := N, sc := scp } Φ RO bd m) (hΦ : ∀ A : Around, Room k A → Φ ⟨P, w, K, mg, base, A⟩) : FnOk P w K mg base CX0 (k + 1) f fd ps (spF K n (runD N.length n RO m)) := by
  refine F.ok Sc (fun vs H Q E h => ?_) (fun cdv A outer s H vs Q E hr h => ?_)
  · obtain ⟨_, _, _, _, h, _⟩ := h
    rw [h, hn]
  · obtain ⟨Fz, fp, ds, hd, hv, C, d, outs, e, ho, kk⟩ := h
    have o : On { N := N, sc := scp } Φ (cxOf CX0 P w K mg base N qual scp f cdv A outer s H E).nox :=
      { N := rfl, sc := rfl, nd := Sc.nd, calm := rfl, kind := Sc.kind, fn := fun _ _ => rfl, hu := by have := hr.un; show (A.deeper _).units + 100 < cLine; omega, phi := hΦ _ hr }
    refine ⟨_, PSs.nox (hb _ o PassesOwn.never), ?_⟩
    obtain ⟨fl, s', hm, hl2, rfl, hfl⟩ := runD_some e
    have C1 : Cfg K Fz H (ds.map some ++ List.replicate (N.length - n) none) (L2.start N vs) fp := by
      have R : RepS K Fz H (List.replicate (N.length - n) (none : Option D)) (List.replicate (N.length - n) (none : Option V)) [] := by
        generalize N.length - n = j
        induction j with
        | zero => exact .nil
        | succ j ih => rw [List.replicate_succ, List.replicate_succ]; exact .cons (f := []) (g := []) .skip ih
      have RR := C.rep.app R
      rw [List.append_nil] at RR
      unfold L2.start
      rw [hv]
      exact ⟨RR, C.nd, C.fz, C.ft⟩
    have hstart : (L2.start N vs).take n = vs.map some := by
      unfold L2.start
      rw [List.take_append_of_le_length (by simp [hv])]
      exact List.take_of_length_le (by simp [hv])
    have hsl : n ≤ (L2.start N vs).length := by unfold L2.start; simp; omega
    have fin : ∀ {σ' : L2.St} {H' Fz' fp' s' v d'}, (∀ i, RO i = true → σ'[i]? = (L2.start N vs)[i]?) → Cfg K Fz' H' (some d' :: s') (some v :: σ') fp' → n ≤ s'.length → ∃ f2, Cfg K Fz' H' (some d' :: outsOf RO 0 n s') (some v :: vs.map some) f2 ∧ ∀ a ∈ f2, a ∈ fp' := fun {σ' H' Fz' fp' s' v d'} hro C2 hl => by
      obtain ⟨R, nd, fz, ft⟩ := C2
      cases R with
      | @cons _ _ f1 g1 _ _ r1 rs =>
        obtain ⟨h, r, R2, p2⟩ := RepS.outs (RO := RO) (σ0 := L2.start N vs) n 0 rs hl (fun i _ ho => hro i (by simpa using ho)) hsl
        rw [hstart] at R2
        have sub : ∀ a ∈ f1 ++ h, a ∈ f1 ++ g1 := fun a ha => by
          rcases List.mem_append.mp ha with q | q
          · exact List.mem_append_left _ q
          · exact List.mem_append_right _ (p2.mem_iff.mp (List.mem_append_left _ q))
        have nd1 : (f1 ++ (h ++ r)).Nodup := (p2.append_left f1).nodup_iff.mpr nd
        rw [← List.append_assoc] at nd1
        exact ⟨f1 ++ h, ⟨.cons r1 R2, (List.nodup_append.mp nd1).1, fun a ha => fz a (sub a ha), ft⟩, sub⟩
    refine ⟨Fz, fp, _, C1, ?_⟩
    refine ⟨fl, s', hm, fun σ' H' Fz' fp' hro g => ?_⟩
    rcases hfl with rfl | ⟨rfl, rfl⟩
    · intro v C2
      obtain ⟨f2, C3, h3⟩ := fin hro C2 hl2
      exact kk v H' Fz' f2 C3 (g.sub h3)
    · intro C2
      obtain ⟨f2, C3, h3⟩ := fin hro (C2.atom .non) hl2
      exact kk .non H' Fz' f2 C3 (g.sub h3)
end

/-! ### the table of defs -/
structure Ent where
  d : He.DefD
  N : List Str
  ps : List Str
  RO : Nat → Bool
  m : (Nat → Fn) → M Fl
def rho (T : List Ent) : Nat → Nat → Fn
  | 0, _ => fun _ => none
  | k + 1, i => match T[i]? with
    | some e => runD e.N.length e.ps.length e.RO (e.m (rho T k))
    | none => fun _ => none
/-- what a text may lean on: free builtins, whole constants, the defs -/
structure Phi (sig : List (Str × Nat)) (bs : List Str) (gis : List (Str × Int)) (ρ : Nat → Fn) (g : GCx) : Prop where
  bl : ∀ (i : Nat) x, bs[i]? = some x → g.mg x = none
  int : ∀ (i : Nat) p, gis[i]? = some p → ∃ t, g.mg p.1 = some (.int p.2 t)
  fn : ∀ (i : Nat) p, sig[i]? = some p → CallOk g p.1 p.2 (ρ i)
structure Ent.Ok (sig : List (Str × Nat)) (bs : List Str) (gis : List (Str × Int)) (e : Ent) : Prop where
  hat : e.d.at_ = (e.d.name, none)
  dfl : e.d.dfl = []
  kwd : e.d.kwd = []
  sc : FnScope e.N e.ps e.d.scope
  le : e.ps.length ≤ e.N.length
  bind : ∀ (kV doc pm : Value) (an : Option Addr) (cdv ct : Value) (us : List Value), us.length = e.ps.length → bindArgs (PySem.W.fnOf e.d.name e.d.qual e.d.params e.d.body e.d.scope .none kV doc pm an cdv ct) ⟨us, []⟩ = pure (e.ps.zip us)
  ss : ∀ ρ, SS { N := e.N, sc := e.d.scope } (Phi sig bs gis ρ) e.RO e.d.body (e.m ρ)
inductive Oks (sig : List (Str × Nat)) (bs : List Str) (gis : List (Str × Int)) : List Ent → Prop
  | nil : Oks sig bs gis []
  | cons {e : Ent} {T : List Ent} : e.Ok sig bs gis → Oks sig bs gis T → Oks sig bs gis (e :: T)
theorem Oks.get {sig : List (Str × Nat)} {bs : List Str} {gis : List (Str × Int)} : ∀ {T : List Ent}, Oks sig bs gis T → ∀ {i : Nat} {e : Ent}, T[i]? = some e → e.Ok sig bs gis
  | _, .nil, _, _, h => by simp at h
  | _, .cons a r, 0, e, h => by simp at h; exact h ▸ a
  | _, .cons a r, i + 1, e, h => r.get (by simpa using h)
def faOf (bs : List Str) (gis : List (Str × Int)) (T : List Ent) : List He.Fa := bs.map .free ++ (gis.map (fun p => .int p.1 p.2) ++ T.map fun e => .glo e.d.name)
theorem runD_len {nN n : Nat} {RO : Nat → Bool} {m : M Fl} {ds : List D} {d : D} {outs : List (Option D)} (h : runD nN n RO m ds = some (d, outs)) : outs.length = n := by
  obtain ⟨fl, s, _, h2, rfl, _⟩ := runD_some h
  exact outsOf_length RO 0 n s h2
theorem rho_len (T : List Ent) : ∀ (k i : Nat) {e : Ent}, T[i]? = some e → ∀ ds d outs, rho T k i ds = some (d, outs) → outs.length = e.ps.length
  | 0, _, _, _, _, _, _, h => by cases h
  | k + 1, i, e, he, ds, d, outs, h => by
    unfold rho at h
    rw [he] at h
    exact runD_len h
section
variable {P : Program} {w : World} {K : PySem.W.Frag} {h : Heap} {mg : Str → Option Value} {sig : List (Str × Nat)} {bs : List Str} {gis : List (Str × Int)} {T : List Ent}
theorem all_ok (ok : Oks sig bs gis T) (hsig : sig = T.map fun e => (e.d.name, e.ps.length)) (X : K.In h) (G : h.Ns mainGlobals mg) (c : He.SaysD (faOf bs gis T) (T.map (·.d)) K) (base : Heap) :
    ∀ (k i : Nat) (e : Ent), T[i]? = some e → ∀ fd, FunD K e.d.name e.d.qual e.d.params e.d.body e.d.scope [] [] (He.ga K e.d.name) fd → FnOk P w K mg base CX0 (k + 1) (He.ga K e.d.name) fd e.ps (spF K e.ps.length (rho T k i)) := by
  intro k
  induction k with
  | zero =>
    intro i e he fd F
    refine F.ok (ok.get he).sc (fun vs H Q E h => ?_) (fun cdv A outer s H vs Q E hr h => ?_)
    · obtain ⟨_, _, _, _, h, _⟩ := h
      exact h
    · obtain ⟨_, _, _, _, _, _, _, _, e, _⟩ := h
      cases e
  | succ k ih =>
    intro i e he fd F
    have o := ok.get he
    show FnOk P w K mg base CX0 (k + 1 + 1) _ fd e.ps (spF K e.ps.length (rho T (k + 1) i))
    unfold rho
    rw [he]
    refine def_ok F o.sc rfl o.le (o.ss (rho T k)) fun A hr => ⟨fun i x hx => ?_, fun i p hp => ?_, fun j p hp => ?_⟩
    · refine He.free_ok X G (c.fact i (f := .free x) ?_)
      unfold faOf
      have hl := (List.getElem?_eq_some_iff.mp hx).1
      rw [List.getElem?_append_left (by simpa using hl), List.getElem?_map, hx]
      rfl
    · refine He.int_ok X G (c.fact (bs.length + i) (f := .int p.1 p.2) ?_)
      unfold faOf
      have hl := (List.getElem?_eq_some_iff.mp hp).1
      rw [List.getElem?_append_right (by simp), List.length_map, Nat.add_sub_cancel_left, List.getElem?_append_left (by simpa using hl), List.getElem?_map, hp]
      rfl
    · rw [hsig, List.getElem?_map] at hp
      cases hj : T[j]? with
      | none => rw [hj] at hp; cases hp
      | some e' =>
        rw [hj] at hp
        cases hp
        have o' := ok.get hj
        obtain ⟨fd', F'⟩ := c.def_ j (d := e'.d) (by rw [List.getElem?_map, hj]; rfl)
        have F' : FunD K e'.d.name e'.d.qual e'.d.params e'.d.body e'.d.scope [] [] (He.ga K e'.d.name) fd' := by
          have F2 := F'
          unfold He.DefD.dvs He.DefD.kws He.fAd at F2
          rw [o'.dfl, o'.kwd, o'.hat] at F2
          exact F2
        refine ⟨fun ds d outs h => rho_len T k j hj ds d outs h, _, fd', e'.ps, k + 1, ih j e' hj fd' F', hr, ?_, F'.kp, F'.bindsN o'.bind⟩
        refine He.glo_ok X G (c.fact (bs.length + (gis.length + j)) (f := .glo e'.d.name) ?_)
        unfold faOf
        rw [List.getElem?_append_right (by simp), List.length_map, Nat.add_sub_cancel_left, List.getElem?_append_right (by simp), List.length_map, Nat.add_sub_cancel_left, List.getElem?_map, hj]
        rfl
/-- the law's def, over every base -/
theorem law_facts (ok : Oks sig bs gis T) (hsig : sig = T.map fun e => (e.d.name, e.ps.length)) (X : K.In h) (G : h.Ns mainGlobals mg) (c : He.SaysD (faOf bs gis T) (T.map (·.d)) K) (k i : Nat) {e : Ent} (he : T[i]? = some e) {x : Str} (hx : e.ps = [x]) {f : Addr} (hfa : mg e.d.name = some (.ref f)) :
    ∃ fd : FuncData, (∀ (s : Shared) (v : Value), BindsTo s fd ⟨[v], []⟩ [(x, v)]) ∧ ∀ base : Heap, FnOk P w K mg base CX0 (k + 1) f fd [x] (spF K 1 (rho T k i)) := by
  have o := ok.get he
  obtain ⟨fd, F⟩ := c.def_ i (d := e.d) (by rw [List.getElem?_map, he]; rfl)
  have F : FunD K e.d.name e.d.qual e.d.params e.d.body e.d.scope [] [] (He.ga K e.d.name) fd := by
    have F2 := F
    unfold He.DefD.dvs He.DefD.kws He.fAd at F2
    rw [o.dfl, o.kwd, o.hat] at F2
    exact F2
  have hg : mg e.d.name = some (.ref (He.ga K e.d.name)) := by
    refine He.glo_ok X G (c.fact (bs.length + (gis.length + i)) (f := .glo e.d.name) ?_)
    unfold faOf
    rw [List.getElem?_append_right (by simp), List.length_map, Nat.add_sub_cancel_left, List.getElem?_append_right (by simp), List.length_map, Nat.add_sub_cancel_left, List.getElem?_map, he]
    rfl
  have e1 := hfa.symm.trans hg
  cases e1
  refine ⟨fd, fun s v => ?_, fun base => ?_⟩
  · have := F.bindsA (ps := e.ps) o.bind s [v] (by rw [hx]; rfl)
    rw [hx] at this
    exact this
  · have := all_ok (P := P) (w := w) ok hsig X G c base k i e he fd F
    rw [hx] at this
    exact this
theorem law_sp {φ : Fn} {H : Hp} {a : Addr} {ns : List Int} (hS : SqL K H a (ns.map V.int)) {outs : List (Option D)} (hp : φ [.rol (ns.map .int)] = some (.bl true, outs)) (ho : outs.length = 1) {E : XK} : spF K 1 φ [.ref a] H (fun v _ => v = .bl true) E := by
  refine ⟨fun b => b = a ∧ H b ≠ none, [], [.rol (ns.map .int)], rfl, rfl, ⟨?_, List.nodup_nil, fun _ h => (nomatch h), fun _ h => h.1 ▸ h.2⟩, _, _, hp, ho, fun v H' Fz' fp' C g => ?_⟩
  · refine .cons (f := []) (g := []) (.som (.rol (vs := ns.map V.int) ?_ ?_)) .nil
    · rcases hS with hS | hS
      · refine .inl ⟨hS, rfl, ?_⟩
        rcases hS with h | ⟨_, h⟩ <;> rw [h] <;> exact Option.some_ne_none _
      · exact .inr hS
    · clear hp hS
      induction ns with
      | nil => exact .nil
      | cons n ns ih => exact .cons (f := []) (g := []) (.int n) ih
  · obtain ⟨v', f, e, r, _⟩ := C.head
    cases e
    exact r.bli
end
end Va
/-! Va24: x = {.. for ..} on one line -/
namespace L2
open PySem PySem.Spec PyProof.Rows
theorem ps_setDc {X : Cx} {i : Nat} {y : Str} {py : Pos} {kx vx tg iter : Expr} {ifs : List Expr} {scope : Scope} {own : List (Str × Nat)} {pos spos : Pos} {wi : TI} {g : TG} {tt : TT} {tk tv : TE} (hc : X.calm = true) (hN : X.N.Nodup) (hy : X.N[i]? = some y) (hyl : X.env.scope.names.lookup y = some .local)
    (hsw : swapsWith (.DictComp kx vx [⟨tg, iter, ifs, 0⟩] scope pos) (some (.Name y py)) spos.line X.env = pure true) (hi : PI X tg iter wi) (ok : BlkOk X.N X.env.scope scope own)
    (hg : ∀ (s : Shared) (H : Hp) (C : Addr) (cl : List (Str × Addr)) (fp : List Addr), PG (X.blk s H scope (compEnvC scope cl C X.env) fp) tg g) (ht : ∀ (s : Shared) (H : Hp) (C : Addr) (cl : List (Str × Addr)) (fp : List Addr), PTs (X.blk s H scope (compEnvC scope cl C X.env) fp) ifs tt)
    (hk : ∀ (s : Shared) (H : Hp) (C : Addr) (cl : List (Str × Addr)) (fp : List Addr), PE (X.blk s H scope (compEnvC scope cl C X.env) fp) kx tk)
    (he : ∀ (s : Shared) (H : Hp) (C : Addr) (cl : List (Str × Addr)) (fp : List Addr), PE (X.blk s H scope (compEnvC scope cl C X.env) fp) vx tv) (hs : ∀ x, foldedSetIterable iter X.env x = pure x := by intro _; rfl) :
    PS X (.Assign [.Name y py] (.DictComp kx vx [⟨tg, iter, ifs, 0⟩] scope pos) spos) (tAsg (tDc wi g tt tk tv (own.map (·.2))) (gName i)) := by
  refine ⟨fun pins s σ H D I h => ?_⟩
  rw [exec_Assign_Name_used _ _ _ _ hsw]
  refine wpAny_bind (wpAny_standAt (wpAny_bind ?_))
  show wpAny _ X.A (do let _ ← comprehension (.DictComp kx vx [⟨tg, iter, ifs, 0⟩] scope pos) scope X.env (firstIterPos [⟨tg, iter, ifs, 0⟩] pos) newDict false (eval iter X.env) (some (assign (.Name y py) X.env))) _ _ s
  have h : tDc wi g tt tk tv (own.map (·.2)) σ H (fun x H1 => gName i x σ H1 D.nx) := h
  refine wpAny_bind (thn (dc_core (Qf := fun _ s' => SP X pins D .next s') hc hN I hi ok hg ht hk he hs h fun L C s' m H' I' q hn f => ?_) fun _ s' hq => wpAny_pure (wpAny_pure hq))
  show wpAny _ _ (assign (.Name y py) X.env (.ref L)) _ _ _
  refine wpAny_assign_Name (store_ok2 (v := V.ref L) I' hN hy (.inl hyl) rfl (fun s2 I2 ⟨a, sb, ha⟩ => ?_) (.inr hyl))
  obtain ⟨f0, f1, f2, f3, f4, f5⟩ := f
  have haC : C ≠ a := by
    rcases ha with z | z
    · rw [z]; exact f1
    · exact fun e => f4 y a z e.symm
  refine ⟨m, hn.sameBut sb haC, fun h3 sb3 => ?_⟩
  exact ⟨_, H', I2.turned (t' := s2.toks) (fun b o hb e => (sb3.2 b hb).trans e) f0 f1 f3 f4 f5, q⟩
end L2
namespace Va
open PySem PySem.Spec PyProof.Rows L2
section
variable {Γ : Gam} {Φ : GCx → Prop}
theorem s_setDc {RO : Nat → Bool} (i : Nat) {y : Str} {py spos : Pos} {kx vx tg iter : Expr} {ifs : List Expr} {scope : Scope} {own : List (Str × Nat)} {pos : Pos} {mi : M (List D)} {t : Tgt} {mt : M Bool} {mk mv : M D} (ok : blkC Γ.N Γ.sc scope own = true) (hi : SI Γ Φ tg iter mi) (hg : SG (Γ.blk scope) Φ tg t) (ht : STs (Γ.blk scope) Φ ifs mt) (hkx : SE (Γ.blk scope) Φ kx mk) (hvx : SE (Γ.blk scope) Φ vx mv)
    (hN : Γ.N[i]? = some y := by rfl) (hyl : Γ.sc.names.lookup y = some .local := by rfl) (hr : RO i = false := by rfl) (hsw : swapsWith (.DictComp kx vx [⟨tg, iter, ifs, 0⟩] scope pos) (some (.Name y py)) spos.line (envS Γ.sc) = pure true := by rfl)
    (hk : (relS scope Γ.sc).kind = .function := by rfl) (hs : t.slots.all (fun i => (own.map (·.2)).any (· == i)) = true := by rfl) (hf : ∀ (env : Env) x, foldedSetIterable iter env x = pure x := by intro _ _; rfl) :
    ST1 Γ Φ RO (.Assign [.Name y py] (.DictComp kx vx [⟨tg, iter, ifs, 0⟩] scope pos) spos) (mSet i (mDc mi t mt mk mv (own.map (·.2)))) := fun X o hp => by
  refine ps_imp (ps_setDc (own := own) (g := tgG X.K t) (tt := rdT X.K mt) (tk := rd X.K mk) (tv := rd X.K mv) o.calm o.nd (o.slot hN) (by rw [o.sc]; exact hyl) ((swp_scope (env' := envS Γ.sc) o.sc).trans hsw) (hi X o) (blkOk_by (by rw [o.N, o.sc]; exact ok)) (fun s H C cl fp => hg _ (o.blk hk s H C cl fp)) (fun s H C cl fp => ht _ (o.blk hk s H C cl fp)) (fun s H C cl fp => hkx _ (o.blk hk s H C cl fp)) (fun s H C cl fp => hvx _ (o.blk hk s H C cl fp)) (hf _)) fun D' σ H q => ?_
  obtain ⟨Fz, fp, st, C, fl, st', e, k⟩ := q
  unfold mSet at e
  split at e
  · rename_i d s hm
    cases e
    refine dc_reads hs ⟨Fz, fp, st, C, _, _, hm, fun v H1 Fz1 fp1 C1 g1 => ?_⟩
    obtain ⟨f2, C2, h2⟩ := C1.store (i := i)
    exact k _ H1 Fz1 f2 (ro_set hr) (g1.sub h2) C2
  · cases e
/-- x = {.. for ..}, x a cell or a name of the block's own: not on one line -/
theorem s_setN {RO : Nat → Bool} (i : Nat) {x : Str} {e : Expr} {m : M D} {p pos : Pos} (h : SE Γ Φ e m) (hN : Γ.N[i]? = some x := by rfl) (hl : gLoc Γ x = true := by rfl) (hr : RO i = false := by rfl) (hs : swapsWith e (some (.Name x p)) pos.line (envS Γ.sc) = pure false := by rfl) :
    ST1 Γ Φ RO (.Assign [.Name x p] e pos) (mSet i m) := fun X o hp => ps_imp (ps_set o.nd (o.slot hN) (o.loc hl) (h X o) ((swp_scope (env' := envS Γ.sc) o.sc).trans hs) (o.fnl hl)) fun D' σ H q => by
  obtain ⟨Fz, fp, st, C, fl, st', e, k⟩ := q
  unfold mSet at e
  split at e
  · rename_i d s hm
    cases e
    refine ⟨Fz, fp, st, C, _, _, hm, fun v H1 Fz1 fp1 C1 g1 => ?_⟩
    obtain ⟨f2, C2, h2⟩ := C1.store (i := i)
    exact k _ H1 Fz1 f2 (ro_set hr) (g1.sub h2) C2
  · cases e
end
end Va
/-! Va25: targets from a tuple; x op= e of ints -/
namespace Va
open PySem PySem.Spec PyProof.Rows L2

def mAsg (t : Tgt) (m : M D) : M Fl := fun st => match m st with
  | some (d, s) => match imm d with
    | true => match asgT t d s with
      | some s' => some (.nx, s')
      | none => none
    | false => none
  | none => none
section
variable {Γ : Gam} {Φ : GCx → Prop} {RO : Nat → Bool}
/-- a, b, .. = a tuple -/
theorem s_asg {tg e : Expr} {t : Tgt} {m : M D} {pos : Pos} (h : SE Γ Φ e m) (hg : SG Γ Φ tg t) (hro : t.slots.all (fun i => !RO i) = true := by rfl)
    (hs : swapsWithSole [tg] e pos.line (envS Γ.sc) = pure false := by rfl) (hw : swappedStores [tg] e (envS Γ.sc) = pure none := by rfl) (h1 : ∀ env : Env, (assignEach [tg] env).map (·.2) = [assign tg env] := by intro _; rfl) :
    ST1 Γ Φ RO (.Assign [tg] e pos) (mAsg t m) := fun X o hp => ps_imp (ps_asg (h X o) (hg X o) ((swp_scope (t := some tg) (v := e) (l := pos.line) (env' := envS Γ.sc) o.sc).trans hs) ((sws_scope (env' := envS Γ.sc) o.sc).trans hw) (h1 _)) fun D' σ H q => by
  obtain ⟨Fz, fp, st, C, fl, st', e, k⟩ := q
  unfold mAsg at e
  split at e
  · rename_i d s hm
    split at e
    · rename_i hi
      split at e
      · rename_i s' ha
        cases e
        refine ⟨Fz, fp, st, C, _, _, hm, fun v H1 Fz1 fp1 C1 g1 => ?_⟩
        obtain ⟨v', f, ev, r, _⟩ := C1.head
        cases ev
        have := r.imm hi
        subst this
        obtain ⟨f2, C2, h2⟩ := C1.drop
        refine tgG_ok t ha C2 r fun σ' fp' C3 h3 hl hn => k σ' H1 Fz1 fp' (fun i hi' => hn i fun hm => ?_) (g1.sub fun a ha' => h2 a (h3 a ha')) C3
        rw [List.all_eq_true] at hro
        have := hro i hm
        rw [hi'] at this
        cases this
      · cases e
    · cases e
  · cases e
end
/-! ### x op= e -/
def AugR (X : Cx) (op : Operator) (F : D → D → Option D) : Prop := ∃ (C : Int → Int → Prop) (g : Int → Int → Int), PIp X op (fun x y H Q => ∃ i j, x = .int i ∧ y = .int j ∧ C i j ∧ Q (.int (g i j)) H) ∧ ∀ i j z, F (.int i) (.int j) = some z → C i j ∧ z = .int (g i j)
theorem ipC {X : Cx} {op : Operator} {C : Int → Int → Prop} {g : Int → Int → Int} (h : ∀ {prog w A E} (i j : Int) (t u : Tok) (s : Shared) {Q : Value → Shared → Prop}, C i j → Q (.int (g i j) s.toks) { s with toks := s.toks + 1 } → wpAny (model prog w) A (inplaceOp op (.int i t) (.int j u)) Q E s) :
    PIp X op (fun x y H Q => ∃ i j, x = .int i ∧ y = .int j ∧ C i j ∧ Q (.int (g i j)) H) := by
  intro pins s σ H x y v u Q I r1 r2 h'
  obtain ⟨i, j, e1, e2, c, q⟩ := h'
  subst e1; subst e2
  obtain ⟨t, rfl⟩ := r1
  obtain ⟨t', rfl⟩ := r2
  exact h i j t t' s c ⟨.int _, H, I.tok _, ⟨_, rfl⟩, q⟩
theorem aug_add {X : Cx} : AugR X .Add addF := ⟨fun _ _ => True, fun i j => i + j, ipC fun i j t u s _ _ q => iadd_int q, fun i j z e => by
  simp only [addF, Option.some.injEq] at e; exact ⟨trivial, e.symm⟩⟩
theorem aug_sub {X : Cx} : AugR X .Sub subF := ⟨fun _ _ => True, fun i j => i - j, ipC fun i j t u s _ _ q => isub_int q, fun i j z e => by
  simp only [subF, intF, Option.some.injEq] at e; exact ⟨trivial, e.symm⟩⟩
theorem aug_mul {X : Cx} : AugR X .Mult mulF := ⟨CMulW, fun i j => i * j, ipC fun i j t u s _ c q => imul_int q c.ok, fun i j z e => by
  simp only [mulF] at e
  split at e
  · rename_i h; cases e; exact ⟨h, rfl⟩
  · cases e⟩
theorem aug_fdiv {X : Cx} : AugR X .FloorDiv fdivF := ⟨CDivW, fun i j => i / j, ipC fun i j t u s _ c q => by
  have h1 : (0 : Int) < j := c.1
  exact PyProof.Rows.ifloordiv_int (by omega) (by rw [Int.fdiv_eq_ediv_of_nonneg i (by omega)]; exact q) (.inl (PyProof.noPylong_of_log2 c.2)), fun i j z e => by
  simp only [fdivF, intF] at e
  split at e
  · rename_i h; cases e; exact ⟨h, rfl⟩
  · cases e⟩
def mAug (i : Nat) (F : D → D → Option D) (m : M D) : M Fl := fun st => match st[i]? with
  | some (some (.int a)) => match m st with
    | some (.int b, s) => match F (.int a) (.int b) with
      | some z => some (.nx, s.set i (some z))
      | none => none
    | _ => none
  | _ => none
section
variable {Γ : Gam} {Φ : GCx → Prop} {RO : Nat → Bool}
theorem s_aug (i : Nat) {x : Str} {e : Expr} {m : M D} {op : Operator} {F : D → D → Option D} {p pos : Pos} (hr : ∀ X : Cx, AugR X op F) (h : SE Γ Φ e m) (hN : Γ.N[i]? = some x := by rfl) (hl : gLoc Γ x = true := by rfl) (hro : RO i = false := by rfl) :
    ST1 Γ Φ RO (.AugAssign (.Name x p) op e pos) (mAug i F m) := fun X o hp => by
  obtain ⟨Cc, g, hip, hF⟩ := hr X
  refine ps_imp (ps_aug o.nd (o.slot hN) (o.loc hl) (h X o) hip (o.fnl hl)) fun D' σ H q => ?_
  obtain ⟨Fz, fp, st, C, fl, st', e, k⟩ := q
  unfold mAug at e
  split at e
  · rename_i a ha
    split at e
    · rename_i b s hm
      split at e
      · rename_i z hz
        cases e
        obtain ⟨cc, rfl⟩ := hF _ _ _ hz
        obtain ⟨v, f, ev, rv, _⟩ := C.get ha
        have ev' := rv.inti
        subst ev'
        refine ⟨_, ev, Fz, fp, st, C, _, _, hm, fun w H1 Fz1 fp1 C1 g1 => ?_⟩
        obtain ⟨w', f1, ew, rw', _⟩ := C1.head
        cases ew
        obtain ⟨f2, C2, h2⟩ := C1.drop
        refine ⟨a, b, rfl, rw'.inti, cc, ?_⟩
        obtain ⟨f3, C3, h3⟩ := Cfg.store (i := i) (C2.atom (.int (g a b)))
        exact k _ H1 Fz1 f3 (ro_set hro) (g1.sub fun x hx => h2 x (h3 x hx)) C3
      · cases e
    · cases e
  · cases e
end
end Va
/-! Va26: a, b, .. = x, y, .. by way of a tuple: the items keep what is theirs -/
namespace Va
open PySem PySem.Spec PyProof.Rows L2

/-- a heap with one more object that no datum tells -/
theorem Cfg.more {K : PySem.W.Frag} {Fz : Addr → Prop} {H : Hp} {s : S} {σ : List (Option V)} {fp : List Addr} {p : Addr} {o : HO} (C : Cfg K Fz H s σ fp) (hp : H p = none) : Cfg K Fz (upd H p o) s σ fp ∧ Go Fz H fp Fz (upd H p o) fp := by
  have kk : ∀ {a u}, H a = some u → upd H p o a = some u := fun {a u} e => by rw [upd_ne (ne_of_none e hp)]; exact e
  refine ⟨⟨C.rep.keep (fun _ h => h) (fun _ _ _ e => kk e) fun _ _ _ e => kk e, C.nd, C.fz, fun a z e => C.ft a z ?_⟩, ⟨fun a u e _ => kk e, fun a e => ?_, fun _ h => h, fun _ h => .inl h, fun a q => .inl q⟩⟩
  · by_cases ea : a = p
    · rw [ea]; exact hp
    · rw [upd_ne ea] at e; exact e
  · by_cases ea : a = p
    · rw [ea]; exact hp
    · rw [upd_ne ea] at e; exact e
theorem tgGs_own {K : PySem.W.Frag} {Fz : Addr → Prop} {H : Hp} {Q : L2.St → Hp → Prop} : ∀ {is : List Nat} {ds : List D} {vs : List V} {s s' : S} {σ : L2.St} {fp : List Addr}, asgL is ds s = some s' → vs.length = ds.length → Cfg K Fz H (ds.map some ++ s) (vs.map some ++ σ) fp →
    (∀ σ' fp', Cfg K Fz H s' σ' fp' → (∀ a ∈ fp', a ∈ fp) → (∀ i, i ∉ is → σ'[i]? = σ[i]?) → Q σ' H) → tgGs is vs σ H Q
  | [], ds, vs, s, s', σ, fp, e, hl, C, k => by
    cases ds with
    | nil =>
      cases e
      have : vs = [] := List.eq_nil_of_length_eq_zero (by simpa using hl)
      subst this
      exact ⟨rfl, k σ fp C (fun _ h => h) fun _ _ => rfl⟩
    | cons d ds => cases e
  | i :: is, ds, vs, s, s', σ, fp, e, hl, C, k => by
    cases ds with
    | nil => cases e
    | cons d ds =>
      cases vs with
      | nil => simp at hl
      | cons v vs =>
        refine ⟨v, vs, rfl, ?_⟩
        have hl' : vs.length = ds.length := by simpa using hl
        obtain ⟨f2, C2, h2⟩ := Cfg.store (i := ds.length + i) (s := ds.map some ++ s) (σ := vs.map some ++ σ) C
        have e1 : (ds.map some ++ s).set (ds.length + i) (some d) = ds.map some ++ s.set i (some d) := by
          rw [List.set_append_right _ _ (by simp)]
          simp
        have e2 : (vs.map some ++ σ).set (ds.length + i) (some v) = vs.map some ++ σ.set i (some v) := by
          rw [List.set_append_right _ _ (by simp [hl'])]
          simp [hl']
        rw [e1, e2] at C2
        refine tgGs_own (is := is) (ds := ds) (s := s.set i (some d)) e hl' C2 fun σ' fp' C3 h3 hn => k σ' fp' C3 (fun a h => h2 a (h3 a h)) fun j hj => ?_
        have n1 : i ≠ j := by rintro rfl; exact hj (List.mem_cons_self ..)
        rw [hn j fun h => hj (List.mem_cons_of_mem _ h), List.getElem?_set_ne n1]
def mSetP (is : List Nat) (m : M (List D)) : M Fl := fun st => match m st with
  | some (ds, s) => match Nat.ble ds.length LN && Nat.beq ds.length is.length with
    | true => match asgL is ds s with
      | some s' => some (.nx, s')
      | none => none
    | false => none
  | none => none
section
variable {Γ : Gam} {Φ : GCx → Prop} {RO : Nat → Bool}
theorem s_setP {ts es : List Expr} {is : List Nat} {m : M (List D)} {kt k2 : Nat} {pt pt2 pos : Pos} (h : SA Γ Φ es m) (hg : SGs Γ Φ ts is) (hro : is.all (fun i => !RO i) = true := by rfl) (hn : ∀ env : Env, (assignEach ts env).length = is.length := by intro _; rfl) (hst : ∀ env : Env, (assignEach ts env).findIdx? (·.1) = none := by intro _; rfl)
    (hs : swapsWithSole [.Tuple ts kt pt] (.Tuple es k2 pt2) pos.line (envS Γ.sc) = pure false := by rfl) (hw : swappedStores [.Tuple ts kt pt] (.Tuple es k2 pt2) (envS Γ.sc) = pure none := by rfl) (h1 : ∀ env : Env, (assignEach [.Tuple ts kt pt] env).map (·.2) = [assign (.Tuple ts kt pt) env] := by intro _; rfl) :
    ST1 Γ Φ RO (.Assign [.Tuple ts kt pt] (.Tuple es k2 pt2) pos) (mSetP is m) := fun X o hp =>
  ps_imp (ps_asg (pe_tup (h X o)) (pg_tup (n := is.length) o.calm (hg X o) (hn _) (hst _)) ((swp_scope (t := some (.Tuple ts kt pt)) (v := .Tuple es k2 pt2) (l := pos.line) (env' := envS Γ.sc) o.sc).trans hs) ((sws_scope (env' := envS Γ.sc) o.sc).trans hw) (h1 _)) fun D' σ H q => by
  obtain ⟨Fz, fp, st, C, fl, st', e, k⟩ := q
  unfold mSetP at e
  split at e
  · rename_i ds s hm
    split at e
    · rename_i hz
      simp only [Bool.and_eq_true] at hz
      have hlen : ds.length = is.length := Nat.eq_of_beq_eq_true hz.2
      split at e
      · rename_i s' ha
        cases e
        refine ⟨Fz, fp, st, C, _, _, hm, fun vs H1 Fz1 fp1 hl C1 g1 => ⟨by rw [hl, ← LN_eq]; exact Nat.le_of_ble_eq_true hz.1, fun p hp' => ?_⟩⟩
        obtain ⟨C2, g2⟩ := C1.more (o := .tup vs) hp'
        refine ⟨p, vs, rfl, .inl (.inl upd_same), by rw [hl, hlen], tgGs_own ha hl C2 fun σ' fp' C3 h3 hns => k σ' _ Fz1 fp' (fun i hi => hns i fun hm' => ?_) ((g1.trans g2).sub h3) C3⟩
        rw [List.all_eq_true] at hro
        have := hro i hm'
        rw [hi] at this
        cases this
      · cases e
    · cases e
  · cases e
end
end Va
/-! Va27: a walk over the keys of a dict that nobody else holds -/
namespace Va
open PySem PySem.Spec PyProof.Rows L2

/-- the dict is ours and is left locked for good -/
def iKeysF (td : TE) : TI := fun σ H R => td σ H fun x H1 => ∃ d kvs, x = .ref d ∧ H1 d = some (.dK kvs) ∧ ∀ od, R (Itk d od kvs) (upd H1 d (.frz od (.dK kvs)))
theorem pi_keysF {X : Cx} {tg e : Expr} {td : TE} (he : PE X e td) : PI X tg e (iKeysF td) := by
  refine ⟨fun pins s σ H R I h => ?_⟩
  refine thn (he.run pins s σ H _ I h) fun u s1 ⟨x, H1, I1, rx, d, kvs, ex, hd, q⟩ => ?_
  subst ex
  obtain rfl : u = Value.ref d := rx
  obtain ⟨od, I2⟩ := I1.lock hd trivial
  obtain ⟨hs, hgd, hx, es, ep, vs, hdt, hsz, kv, hm⟩ := I2.frzK upd_same
  refine iter_keys hs hgd hx hdt (pi_one (tk := s1.toks) I2 _ (turn_keys _ hdt) ⟨_, Heap.get?_push_size _ rfl, rfl, ?_⟩ (q od))
  rw [hsz] <;> rfl
def mKeys (m : M D) : M (List D) := fun st => match m st with
  | some (.dic true kvs, s) => some (kvs.map Prod.fst, s)
  | _ => none
theorem RepK.keyGet {K : PySem.W.Frag} {Fz : Addr → Prop} {H : Hp} : ∀ {kvs : List (D × D)} {vs : List (Key × V)} {f : List Addr}, RepK K Fz H kvs vs f → ∀ {i : Nat} {d : D} {k : Key} {v : V}, (kvs.map Prod.fst)[i]? = some d → vs[i]? = some (k, v) → keyD d = some k
  | _, _, _, .nil, i, d, k, v, h, _ => by simp at h
  | _, _, _, .cons e r s, 0, d, k, v, h, h' => by
    simp at h h'
    rw [← h, ← h'.1]; exact e
  | _, _, _, .cons e r s, i + 1, d, k, v, h, h' => s.keyGet (by simpa using h) (by simpa using h')
theorem itk_ok {K : PySem.W.Frag} {Fz Fz' : Addr → Prop} {H H' : Hp} {a : Addr} {od : Obj} {kvs : List (D × D)} {vs : List (Key × V)} {f : List Addr} (q : H a = some (.frz od (.dK vs))) (z : Fz a) (r : RepK K Fz' H' kvs vs f) : ItOk K Fz H (Itk a od vs) (kvs.map Prod.fst) := by
  have hl : (kvs.map Prod.fst).length = vs.length := by rw [List.length_map, r.length]
  refine ⟨fun {Fz2 H2 i} m k hi => ⟨k a _ z q, by omega⟩, fun {Fz2 H2 i} m k hi => ⟨k a _ z q, by omega⟩, fun {Fz2 H2 i d x H3 st σ fp} m k hd C y => ?_⟩
  obtain ⟨rfl, kk, v, hy, rfl⟩ := y
  have hk := r.keyGet hd hy
  refine ⟨Fz2, C, .refl, ?_⟩
  cases d <;> simp [keyD] at hk
  · subst hk; exact .int _
  · subst hk; exact .str _
section
variable {Γ : Gam} {Φ : GCx → Prop}
theorem si_dk {tg e : Expr} {m : M D} (h : SE Γ Φ e m) : SI Γ Φ tg e (mKeys m) := fun X o =>
  pi_imp (pi_keysF (h X o)) fun σ H R q => by
    obtain ⟨Fz, fp, st, C, ds, st', e, k⟩ := q
    unfold mKeys at e
    split at e
    · rename_i kvs s hm
      cases e
      refine ⟨Fz, fp, st, C, _, _, hm, fun v H' Fz' fp' C1 g1 => ?_⟩
      obtain ⟨R1, nd, fz, ft⟩ := C1
      cases R1 with
      | @cons _ _ f g _ _ r s' =>
        cases r with
        | som r =>
          cases r with
          | @dicO a _ vs fi qa ra =>
            have nn := List.nodup_append.mp nd
            have na : a ∉ g := fun h => nn.2.2 a (List.mem_cons_self ..) a h rfl
            have nz : ∀ x, Fz' x → x ≠ a := fun x z e => fz a (List.mem_append_left _ (List.mem_cons_self ..)) (e ▸ z)
            refine ⟨a, vs, rfl, qa, fun od => k _ _ (fun x => Fz' x ∨ x = a) g ⟨s'.keep (fun _ h => .inl h) (fun x u z e => by rw [upd_ne (nz x z)]; exact e) (fun x u z e => by rw [upd_ne (fun q : x = a => na (q ▸ z))]; exact e), nn.2.1, fun x hx z => ?_, fun x z => ?_⟩ (g1.trans ⟨fun x u e nx => ?_, fun x e => ?_, fun _ h => .inl h, fun x z => ?_, fun x hx => .inl (List.mem_append_right _ hx)⟩) (itk_ok upd_same (.inr rfl) ra)⟩
            · rcases z with z | z
              · exact fz x (List.mem_append_right _ hx) z
              · exact na (z ▸ hx)
            · by_cases ea : x = a
              · rw [ea, upd_same]; exact Option.some_ne_none _
              · rw [upd_ne ea]; exact ft x (z.resolve_right ea)
            · rw [upd_ne (fun q : x = a => nx (by rw [q]; exact List.mem_append_left _ (List.mem_cons_self ..)))]; exact e
            · by_cases ea : x = a
              · rw [ea, upd_same] at e; cases e
              · rw [upd_ne ea] at e; exact e
            · rcases z with z | z
              · exact .inl z
              · exact .inr (.inl (by rw [z]; exact List.mem_append_left _ (List.mem_cons_self ..)))
    · cases e
end
end Va
/-! Va28: the sum of a tuple; the lesser and the greater of two numbers; d.get -/
namespace Va
open PySem PySem.Spec PyProof.Rows L2

def rSumT (K : PySem.W.Frag) : List V → Hp → VK → Prop := fun vs H Q => ∃ (a : Addr) (ns : List Int), vs = [V.ref a] ∧ SqT K H a (ns.map V.int) ∧ Q (.int ns.sum) H
theorem cr_sumT {X : Cx} (hc : X.calm = true) : CallR X (.builtin "sum") (rSumT X.K) := by
  intro pins s σ H vs us Q I r h
  obtain ⟨a, ns, rfl, hs, q⟩ := h
  obtain ⟨its, rv, hl, _⟩ := I.tuple hs
  rw [Vals.ref1 r]
  obtain ⟨xs, hx⟩ := rv.ints.allInts.items
  have hn : numsOf its.toArray.toList = ns := by rw [show its.toArray.toList = its from rfl, rv.ints.numsOf]
  obtain ⟨o, ho, hcl, n, hd⟩ := hl
  have hl' : s.heap.IsTuple a its.toArray := ⟨o, ho, hcl, n, hd⟩
  rw [hx] at hl' hn
  rw [nums_intItems] at hn
  refine PySem.W.ktm_sumG (I.ok.hd hc) hl' fun h' tk t' hk => ?_
  refine ⟨.int _, H, I.kept hk, ⟨_, rfl⟩, ?_⟩
  rw [preSum_eq, List.take_of_length_le (by simp), hn]
  exact q
def sumTF : D → Option D
  | .tup xs => match toInts xs with
    | some ns => some (.int (isum ns))
    | none => none
  | d => sumF d
theorem b_sumT {X : Cx} (hc : X.calm = true) : ∃ r, CallR X (.builtin "sum") r ∧ R1Snd X.K (fun x H Q => r [x] H Q) sumTF := by
  obtain ⟨r, h1, h2⟩ := b_sum (X := X) hc
  refine ⟨_, callr_or (cr_sumT hc) h1, ?_⟩
  intro Fz H fp σ s T TV Fz2 H2 fp2 a x fa z Q e hl C g ra k
  unfold sumTF at e
  split at e
  · left
    split at e
    · rename_i xs ns hn
      cases e
      obtain ⟨p, vs, rfl, q, rl⟩ := ra.tupl
      have := toInts_map hn rl
      subst this
      refine ⟨p, ns, rfl, .inl (.inl q), ?_⟩
      rw [← isum_sum]
      exact fin_atom k hl C g (.int _)
    · cases e
  · exact .inr (h2 e hl C g ra k)
end Va
/-! Va29: min, max of two numbers; d.get(k, x) -/
namespace Va
open PySem PySem.Spec PyProof.Rows L2

section
variable {Γ : Gam} {Φ : GCx → Prop}
theorem se_b2 {x : Str} {id : String} {a b : Expr} {o1 o2 : Opd} {f : D → D → Option D} {p pos : Pos} (hr : ∀ X : Cx, X.A.units + 100 < cLine → X.calm = true → ∃ r, CallR X (.builtin id) r ∧ R2Snd X.K (fun x y H Q => r [x, y] H Q) f) (hv : bootBuiltins x = some (.builtin id))
    (hb : ∀ g, Φ g → g.mg x = none) (ha : SO Γ Φ a o1) (hc : SO Γ Φ b o2) (hg : gGl Γ.sc x = true := by rfl) (ns : NoStar a := by intro _ _; rfl) (ns' : NoStar b := by intro _ _; rfl) (ns0 : ∀ env : Env, starEach ([] : List Expr) env = [] := by intro _; rfl) (nb : ∀ env : Env, (backTo pos (starEach [b] env)).any (·.1) = false := by intro _; rfl) (hn : x ≠ "__name__" := by decide) (hd : (x == ("__debug__" : Str)) = false := by decide) : SE Γ Φ (.Call (.Name x p) [a, b] [] pos) (m2 o1 o2 f) := fun X o => by
  obtain ⟨r, h1, h2⟩ := hr X o.hu o.calm
  exact pe_imp (pe_callB h1 (o.gl hg) (hb _ o.phi) hv (pa_cons (ha X o) (pa_cons (hc X o) pa_nil (ns' _ _)) (ns _ _)) hn hd (by rw [ns, ns', ns0]) (nb _)) fun σ H Q q => two (r := fun x y H Q => r [x, y] H Q) h2 q
end
def minF2 : D → D → Option D := intF fun i j => some (.int (if j < i then j else i))
def maxF2 : D → D → Option D := intF fun i j => some (.int (if j > i then j else i))
theorem b_min2 {X : Cx} (hc : X.calm = true) : ∃ r, CallR X (.builtin "min") r ∧ R2Snd X.K (fun x y H Q => r [x, y] H Q) minF2 := ⟨_, call_min2 hc, by
  intro Fz H fp σ s T TV Fz2 H2 fp2 a b x y fa fb z Q e hl C g ra rb k
  unfold minF2 intF at e
  split at e
  · cases e
    exact ⟨_, _, by rw [ra.inti, rb.inti], fin_atom k hl C g (.int _)⟩
  · cases e⟩
theorem b_max2 {X : Cx} (hc : X.calm = true) : ∃ r, CallR X (.builtin "max") r ∧ R2Snd X.K (fun x y H Q => r [x, y] H Q) maxF2 := ⟨_, call_max2 hc, by
  intro Fz H fp σ s T TV Fz2 H2 fp2 a b x y fa fb z Q e hl C g ra rb k
  unfold maxF2 intF at e
  split at e
  · cases e
    exact ⟨_, _, by rw [ra.inti, rb.inti], fin_atom k hl C g (.int _)⟩
  · cases e⟩

/-- d.get(k, x): d a name, x a number, True, False or None as written -/
def getF (z : D) (d k : D) : Option D := match d with
  | .dic _ kvs => match keyD k with
    | some _ => match lookD kvs k with
      | some y => match imm y with
        | true => some y
        | false => none
      | none => some z
    | none => none
  | _ => none
def mGet (i : Nat) (m : M D) (z : D) : M D := fun st => match st[i]? with
  | some (some (.dic _ _)) => match m st with
    | some (k, s) => match s[i]? with
      | some (some d) => match getF z d k with
        | some y => some (y, s)
        | none => none
      | _ => none
    | none => none
  | _ => none
section
variable {Γ : Gam} {Φ : GCx → Prop}
theorem se_get (i : Nat) {x : Str} {k : Expr} {m : M D} {c : Int} {j : Nat} {p apos cp cpos : Pos} (ho : SO Γ Φ (.Name x p) (.v i)) (hk : SE Γ Φ k m) (hM : ∀ X : Cx, M2 X (.Name x p) "get" apos k (.Constant (.int c) j cp) cpos := by intro _; exact ⟨rfl, rfl, rfl, rfl⟩) :
    SE Γ Φ (.Call (.Attribute (.Name x p) "get" apos) [k, .Constant (.int c) j cp] [] cpos) (mGet i m (.int c)) := fun X o' =>
  pe_imp (pe_dget2 (by have := o'.hu; omega) (ho X o') (hk X o') pe_int (hM X)) fun σ H Q q => by
    obtain ⟨Fz, fp, st, C, d', st', e, kq⟩ := q
    unfold mGet at e
    split at e
    · rename_i o1 kv1 h1
      split at e
      · rename_i kd s hm
        split at e
        · rename_i d h2
          split at e
          · rename_i y hy
            cases e
            obtain ⟨v, f, hv, r, _⟩ := C.get h1
            obtain ⟨a, ws, f', rfl, ha, _, _⟩ := r.dic
            refine ⟨_, hv, a, rfl, .inl ⟨ws, .inl ha⟩, rd.run (P := []) (PV := []) C rfl hm fun u H2 Fz2 fp2 C2 g2 => ?_⟩
            unfold getF at hy
            split at hy
            · rename_i o kvs
              split at hy
              · rename_i kk hkk
                obtain ⟨u', fu, eu, ru, _⟩ := C2.head
                cases eu
                have ek := keyD_v hkk ru
                subst ek
                obtain ⟨v2, f2, hv2, r2, _⟩ := C2.get (i := i + 1) (by simpa using h2)
                have e2 : V.ref a = v2 := by
                  rw [List.getElem?_cons_succ] at hv2
                  have := hv.symm.trans hv2
                  simpa using this
                subst e2
                obtain ⟨p, ov, ep, dg, h⟩ := dget_of r2 hkk
                cases ep
                refine ⟨ov, dg, ?_⟩
                rcases h with ⟨h1, rfl⟩ | ⟨x, v, f', h1, rfl, r, _⟩
                · rw [h1] at hy
                  cases hy
                  exact fin_atom (T := [some kd]) (TV := [some (kV kk)]) kq rfl C2 g2 (.int _)
                · rw [h1] at hy
                  dsimp only at hy
                  split at hy
                  · rename_i hi
                    cases hy
                    have := r.imm hi
                    subst this
                    exact fin_atom (T := [some kd]) (TV := [some (kV kk)]) kq rfl C2 g2 r
                  · cases hy
              · cases hy
            · cases hy
          · cases e
        · cases e
      · cases e
    · cases e
end
end Va
/-! Va30: x[i] op= e, x a list of our own -/
namespace Va
open PySem PySem.Spec PyProof.Rows L2

theorem get_list {X : Cx} : PGet X (fun x y H Q => 0 ≤ (match y with | .int i => i | _ => -1) ∧ rIxL X.K x y H Q) := by
  intro pins s σ H x y v u Q I rx ry h
  obtain ⟨h0, p, xs, i, z, rfl, rfl, hq, he, q⟩ := h
  cases rx
  obtain ⟨t, rfl⟩ := ry
  obtain ⟨its, r, pl, hz⟩ := I.list hq
  obtain ⟨j, h1, h2, h3, h4, h5⟩ := atI_get he
  obtain ⟨w, ew, rw'⟩ := r.get h2
  have hl := r.length
  have hn := line63
  have h0' : 0 ≤ i := h0
  have hj : i.toNat = j := by
    rw [seqIndex_of h0' h5] at h1
    exact Option.some.inj h1
  exact wpAny_getItem_list pl.isList h0' (by omega) (by rw [hj]; simpa using ew) ⟨z, H, I, rw', q⟩
def mAugS (i : Nat) (mk : M D) (F : D → D → Option D) (m : M D) : M Fl := fun st => match st[i]? with
  | some (some (.lst true _)) => match mk st with
    | some (.int j, s1) => match s1[i]? with
      | some (some (.lst true xs)) => match ixN xs.length j with
        | some jj => match xs[jj]? with
          | some (.int a) => match decide (0 ≤ j) with
            | true => match m s1 with
              | some (.int b, s2) => match s2[i]? with
                | some (some (.lst true ys)) => match ixN ys.length j with
                  | some kk => match F (.int a) (.int b) with
                    | some z => some (.nx, s2.set i (some (.lst true (ys.set kk z))))
                    | none => none
                  | none => none
                | _ => none
              | _ => none
            | false => none
          | _ => none
        | none => none
      | _ => none
    | _ => none
  | _ => none
section
variable {Γ : Gam} {Φ : GCx → Prop} {RO : Nat → Bool}
theorem s_augS (i : Nat) {x : Str} {ek e : Expr} {mk m : M D} {op : Operator} {F : D → D → Option D} {p p2 pos : Pos} (hr : ∀ X : Cx, AugR X op F) (hk : SE Γ Φ ek mk) (h : SE Γ Φ e m) (hN : Γ.N[i]? = some x := by rfl) (hvis : gVis Γ.sc x = true := by rfl) (hd : (x == ("__debug__" : Str)) = false := by decide) (hcd : (x == ("__classdict__" : Str)) = false := by decide)
    (ha : ∀ ov iv new, augStore ek ov iv new = (do holding [new, ov, iv] (setItem ov iv new); release [new, ov, iv] []; pure .next) := by intros; rfl) :
    ST1 Γ Φ RO (.AugAssign (.Subscript (.Name x p) ek p2) op e pos) (mAugS i mk F m) := fun X o hp => by
  obtain ⟨Cc, g, hip, hF⟩ := hr X
  refine ps_imp (ps_augS (pe_var (o.slot hN) (o.vis hvis) hd hcd) (hk X o) get_list (h X o) hip set_list ha) fun D' σ H q => ?_
  obtain ⟨Fz, fp, st, C, fl, st', e, k⟩ := q
  unfold mAugS at e
  split at e
  · rename_i zs hz
    split at e
    · rename_i j s1 hm1
      split at e
      · rename_i xs hx
        split at e
        · rename_i jj hjj
          split at e
          · rename_i a hxa
            split at e
            · rename_i hj0
              split at e
              · rename_i b s2 hm2
                split at e
                · rename_i ys hy
                  split at e
                  · rename_i kk hkk
                    split at e
                    · rename_i z hFz
                      cases e
                      obtain ⟨cc, rfl⟩ := hF _ _ _ hFz
                      obtain ⟨w, f0, hw, rw0, _⟩ := C.get hz
                      refine ⟨w, hw, rd.run (P := []) (PV := []) C rfl hm1 fun u H1 Fz1 fp1 C1 g1 => ?_⟩
                      obtain ⟨u', fu, eu, ru, _⟩ := C1.head
                      cases eu
                      have eu2 := ru.inti
                      subst eu2
                      obtain ⟨f2, C2, h2⟩ := C1.drop
                      have C2 : Cfg X.K Fz1 H1 s1 σ f2 := C2
                      obtain ⟨w1, f3, hw1, rw1, _⟩ := C2.get hx
                      rw [hw] at hw1
                      cases hw1
                      obtain ⟨p0, vs, f', rfl, q0, rl, _⟩ := rw1.lst
                      have hl1 := rl.length
                      obtain ⟨y, gy, ey, ry, _⟩ := rl.get hxa
                      have ey2 := ry.inti
                      subst ey2
                      have hj0' : (0 : Int) ≤ j := by simpa using hj0
                      have hat : atI vs j = some (.int a) := by
                        unfold atI
                        rw [← hl1, hjj]
                        exact ey
                      refine ⟨hj0', p0, vs, j, .int a, rfl, rfl, .inl (.inl q0), hat, ?_⟩
                      refine rd.run (P := []) (PV := []) C2 rfl hm2 fun v H2 Fz2 fp2 C3 g3 => ?_
                      obtain ⟨v', fv, ev, rv, _⟩ := C3.head
                      cases ev
                      refine ⟨a, b, rfl, rv.inti, cc, ?_⟩
                      obtain ⟨f4, C4, h4⟩ := C3.drop
                      have C4 : Cfg X.K Fz2 H2 s2 σ f4 := C4
                      obtain ⟨w3, f6, ew3, C6, h6⟩ := Cfg.takeP (P := [some (.int (g a b))]) (PV := [some (.int (g a b))]) (s := s2) (σ := σ) rfl (C4.atom (.int (g a b))) hy rfl
                      rw [hw] at ew3
                      cases ew3
                      have hkl : kk < ys.length := (ixN_seq hkk).2.1
                      obtain ⟨acc, hacc, hla, f7, C7, g7⟩ := Cfg.setAt (k := kk) (x := ys[kk]) C6 (List.getElem?_eq_getElem hkl)
                      obtain ⟨f8, C8, h8⟩ := Cfg.putback (P := []) (PV := []) (st := s2.set i none) (σ := σ) (i := i) rfl C7 hw
                      have C8 : Cfg X.K Fz2 _ ((s2.set i none).set i (some (.lst true (ys.set kk (.int (g a b)))))) σ f8 := C8
                      rw [set_set_none] at C8
                      refine ⟨p0, acc, j, kk, rfl, rfl, hacc, by rw [hla]; exact hkk, ?_⟩
                      have G : Go Fz H fp Fz2 H2 f4 := ((g1.sub h2).trans g3).sub h4
                      exact k σ _ Fz2 f8 (fun _ _ => rfl) (G.trans ((g7.frame h6 fun b hb => .inl hb).sub h8)) C8
                    · cases e
                  · cases e
                · cases e
              · cases e
            · cases e
          · cases e
        · cases e
      · cases e
    · cases e
  · cases e
end
end Va
/-! Va31: zip of a tuple and a list -/
namespace Va
open PySem PySem.Spec PyProof.Rows L2

/-- a tuple and a list side by side: each turn lays a new pair -/
def ItzM (K : PySem.W.Frag) (a b : Addr) : It where
  go i H := ∃ (vs ws : List V) (x y : V), SqT K H a vs ∧ SqL K H b ws ∧ vs[i]? = some x ∧ ws[i]? = some y
  yld i H v H' := ∃ T x y, v = .ref T ∧ H T = none ∧ H' = upd H T (.tup [x, y]) ∧ (∀ vs, SqT K H a vs → vs[i]? = some x) ∧ ∀ ws, SqL K H b ws → ws[i]? = some y
  stop i H := ∃ vs ws : List V, SqT K H a vs ∧ SqL K H b ws ∧ (vs.length ≤ i ∨ ws.length ≤ i)
def ZmSt (z TI TO i1 i2 a b : Addr) (i : Nat) (h : Heap) : Prop :=
  IsZip h z TI TO .none ∧ IsTupOf2 h TI (.ref i1) (.ref i2) ∧ (∃ x y, IsTupOf2 h TO x y) ∧ h.IsTupleIter i1 a i ∧ h.IsListIter i2 b i
theorem zm_five {c z TI TO i1 i2 : Addr} (h : c ∈ [z, TI, TO, i1, i2]) : c = z ∨ c = TI ∨ c = TO ∨ c = i1 ∨ c = i2 := by simpa using h
theorem turn_zipM {P : Program} {w : World} {K : PySem.W.Frag} {elts : List Expr} {kk : Nat} {tpos : Pos} {a b z TI TO i1 i2 : Addr} (S : ZipSep2 z TI TO i1 i2 [i1, a] [i2, b]) (na : a ≠ i1) (nb : b ≠ i2) :
    Turn P w K (.Tuple elts kk tpos) (ItzM K a b) [z, TI, TO, i1, i2] z (ZmSt z TI TO i1 i2 a b) where
  mem := List.mem_cons_self ..
  obj := fun i h st c hc => by
    obtain ⟨hz, hTI, ⟨x, y, hTO⟩, ⟨o1, e1, _, d1⟩, ⟨o2, e2, _, d2⟩⟩ := st
    rcases zm_five hc with rfl | rfl | rfl | rfl | rfl
    · exact ⟨_, hz, fun v q => nomatch q⟩
    · exact ⟨_, hTI, fun v q => nomatch q⟩
    · exact ⟨_, hTO, fun v q => nomatch q⟩
    · exact ⟨o1, e1, fun v q => by rw [d1] at q; cases q⟩
    · exact ⟨o2, e2, fun v q => by rw [d2] at q; cases q⟩
  keep := fun i h h' ⟨hz, hTI, ⟨x, y, hTO⟩, h1, h2⟩ k =>
    ⟨k z (by simp) _ hz, k TI (by simp) _ hTI, ⟨x, y, k TO (by simp) _ hTO⟩, h1.at fun o q => k i1 (by simp) o q, h2.at fun o q => k i2 (by simp) o q⟩
  item := by
    intro X hP hw hK hc i pins s σ H E I hf st hg
    subst hP hw hK
    obtain ⟨hz, hTI, ⟨x0, y0, hTO⟩, h1, h2⟩ := st
    obtain ⟨vs, ws, x, y, qv, qw, hx, hy⟩ := hg
    obtain ⟨its, rv, pv, _⟩ := I.tuple qv
    obtain ⟨jts, rw', pw, _⟩ := I.list qw
    obtain ⟨u, hu, ru⟩ := rv.get hx
    obtain ⟨t, ht, rt⟩ := rw'.get hy
    have zl : z < s.heap.objs.size := Heap.lt_size hz
    have lu : i < its.toArray.size := by have := (List.getElem?_eq_some_iff.mp hu).1; simpa using this
    have lt : i < jts.toArray.size := by have := (List.getElem?_eq_some_iff.mp ht).1; simpa using this
    have D1 := drawsTup (prog := X.prog) (w := X.w) (A := X.A.in1) (I.ok.hd hc) i1 a na its.toArray
    have D2 := Draws.list (prog := X.prog) (w := X.w) (A := X.A.in1) (I.ok.hd hc) i2 b nb jts.toArray
    refine wpAny_pyNext_zipD2_item S D1 D2 hz hTI hTO ⟨h1, pv⟩ ⟨h2, pw.isList⟩ lu lt fun m1 m2 h' tk p1 p2 z' TO' s1 s2 hT hsz hk => ?_
    have em1 : m1 = u := by
      have q : its[i]? = some m1 := by simpa using p1
      rw [hu] at q; exact (Option.some.inj q).symm
    have em2 : m2 = t := by
      have q : jts[i]? = some m2 := by simpa using p2
      rw [ht] at q; exact (Option.some.inj q).symm
    subst em1 em2
    have kk : ∀ c o, c ∉ [z, TI, TO, i1, i2] → s.heap.get? c = some o → h'.get? c = some o := fun c o n e => hk c o (fun q => n (by simp [q])) (fun q => n (by simp [q])) (fun q => n (by simp [q])) (fun q => n (by simp [q])) e
    have hTI' : IsTupOf2 h' TI (.ref i1) (.ref i2) := hk TI _ S.TIz S.TITO S.TIi1 S.TIi2 hTI
    refine ⟨_, rfl, wpAny_letOwnedTupleGo_zip (s := { s with heap := h', toks := tk }) z' fun h'' z'' sb => ?_⟩
    have new : ObjOk X.prog X.w (upd H s.heap.objs.size (.tup [x, y])) h'' s.heap.objs.size (.tup [x, y]) :=
      ⟨by show 2 ≤ sizeLine; rw [sizeLine_eq]; decide, [m1, m2], .cons ru (.cons rt .nil), ⟨_, (sb.2 _ (Nat.ne_of_gt zl)).trans hT, rfl, _, rfl⟩⟩
    have I1 : Inv X pins σ (upd H s.heap.objs.size (.tup [x, y])) { s with heap := h'', toks := tk } :=
      I.turnedNew (ch := [z, TI, TO, i1, i2]) (fun c o n e => (sb.2 c fun q => n (by simp [q])).trans (kk c o n e)) hf (Nat.le_refl _) new
    refine ⟨.ref s.heap.objs.size, _, I1, rfl, ⟨_, x, y, rfl, I.hok.fresh (Nat.le_refl _), rfl, fun l e => by rw [I.tuple_inj e qv]; exact hx, fun l e => by rw [I.list_inj e qw]; exact hy⟩, ⟨z'', (sb.2 _ S.TIz).trans hTI', ⟨m1, m2, (sb.2 _ S.TOz).trans TO'⟩, s1.1.at fun o q => (sb.2 i1 fun e => S.zi1 e.symm).trans q, s2.1.at fun o q => (sb.2 i2 fun e => S.zi2 e.symm).trans q⟩, fun c hcm => ?_⟩
    have hlt : c < s.heap.objs.size := by
      rcases zm_five hcm with rfl | rfl | rfl | rfl | rfl
      · exact zl
      · exact Heap.lt_size hTI
      · exact Heap.lt_size hTO
      · obtain ⟨_, e, _⟩ := h1; exact Heap.lt_size e
      · obtain ⟨_, e, _⟩ := h2; exact Heap.lt_size e
    rw [upd_ne (Nat.ne_of_lt hlt)]
    exact (hf c hcm).1
  done := by
    intro X hP hw hK hc i pins s σ H E I hf st hg
    subst hP hw hK
    obtain ⟨hz, hTI, ⟨x0, y0, hTO⟩, h1, h2⟩ := st
    obtain ⟨vs, ws, qv, qw, hend⟩ := hg
    obtain ⟨its, rv, pv, _⟩ := I.tuple qv
    obtain ⟨jts, rw', pw, _⟩ := I.list qw
    have e1 := rv.length
    have e2 := rw'.length
    have fin : ∀ {n1 n2 : Nat} {P1 P2 : Nat → Value → Prop} {A1 A2 : Nat → Heap → Prop}, Draws X.prog X.w X.A.in1 i1 [i1, a] n1 P1 A1 → Draws X.prog X.w X.A.in1 i2 [i2, b] n2 P2 A2 → A1 i s.heap → A2 i s.heap → i ≤ n1 → i ≤ n2 → (i = n1 ∨ i = n2) → wpAny (model X.prog X.w) X.A (pyNext (Value.ref z)) (fun r s1 => r = none ∧ L2.Inv X pins σ H s1) E s :=
      fun D1 D2 c1 c2 k1 k2 k3 => wpAny_pyNext_zipD2_end S D1 D2 hz hTI hTO c1 c2 k1 k2 k3 fun h' tk hk => ⟨rfl, I.turnedL (t' := tk) (ch := [z, TI, TO, i1, i2]) (fun c o n q =>
        hk c o (fun q' => n (by simp [q'])) (fun q' => n (by simp [q'])) (fun q' => n (by simp [q'])) (fun q' => n (by simp [q'])) q) hf⟩
    by_cases hv : vs.length ≤ i
    · have T0 : Draws X.prog X.w X.A.in1 i1 [i1, a] i (fun _ _ => True) (fun j h => j = i ∧ h.IsTupleIter i1 a i ∧ h.IsTuple a its.toArray) :=
        { live := fun _ _ st => let ⟨o, ho, _⟩ := st.2.1; ⟨o, ho⟩
          frame := fun _ _ _ st hk => ⟨st.1, st.2.1.at fun o e => hk i1 (by simp) o e, by obtain ⟨o, ho, r⟩ := st.2.2; exact ⟨o, hk a (by simp) o ho, r⟩⟩
          item := fun j s Q E hj st hQ => absurd st.1 (Nat.ne_of_lt hj)
          done := fun s Q E st hE => RZ.nextOf_tuple_end (I.ok.hd hc) st.2.1 st.2.2 (by simp; omega) hE }
      by_cases hw : ws.length ≤ i
      · have L0 : Draws X.prog X.w X.A.in1 i2 [i2, b] i (fun _ _ => True) (fun j h => j = i ∧ h.IsListIter i2 b i ∧ h.IsList b jts.toArray) :=
          { live := fun _ _ st => let ⟨o, ho, _⟩ := st.2.1; ⟨o, ho⟩
            frame := fun _ _ _ st hk => ⟨st.1, st.2.1.at fun o e => hk i2 (by simp) o e, st.2.2.at fun o e => hk b (by simp) o e⟩
            item := fun j s Q E hj st hQ => absurd st.1 (Nat.ne_of_lt hj)
            done := fun s Q E st hE => wpAny_nextOf_list_end (I.ok.hd hc) st.2.1 st.2.2 (by simp; omega) hE }
        exact fin T0 L0 ⟨rfl, h1, pv⟩ ⟨rfl, h2, pw.isList⟩ (Nat.le_refl _) (Nat.le_refl _) (.inl rfl)
      · exact fin T0 (Draws.list (prog := X.prog) (w := X.w) (A := X.A.in1) (I.ok.hd hc) i2 b nb jts.toArray) ⟨rfl, h1, pv⟩ ⟨h2, pw.isList⟩ (Nat.le_refl _) (by simp; omega) (.inl rfl)
    · have hw : ws.length ≤ i := hend.resolve_left hv
      have L0 : Draws X.prog X.w X.A.in1 i2 [i2, b] i (fun _ _ => True) (fun j h => j = i ∧ h.IsListIter i2 b i ∧ h.IsList b jts.toArray) :=
        { live := fun _ _ st => let ⟨o, ho, _⟩ := st.2.1; ⟨o, ho⟩
          frame := fun _ _ _ st hk => ⟨st.1, st.2.1.at fun o e => hk i2 (by simp) o e, st.2.2.at fun o e => hk b (by simp) o e⟩
          item := fun j s Q E hj st hQ => absurd st.1 (Nat.ne_of_lt hj)
          done := fun s Q E st hE => wpAny_nextOf_list_end (I.ok.hd hc) st.2.1 st.2.2 (by simp; omega) hE }
      exact fin (drawsTup (prog := X.prog) (w := X.w) (A := X.A.in1) (I.ok.hd hc) i1 a na its.toArray) L0 ⟨h1, pv⟩ ⟨rfl, h2, pw.isList⟩ (by simp; omega) (Nat.le_refl _) (.inr rfl)
  self := fun A i s Q E st h => wpAny_pyIter_zip st.1 h
/-- the walk begins -/
def iZipM (K : PySem.W.Frag) (ta : TA) : TI := fun σ H R => ta σ H fun vs H1 => ∃ a b xs ys, vs = [.ref a, .ref b] ∧ SqT K H1 a xs ∧ SqL K H1 b ys ∧ R (ItzM K a b) H1
theorem pi_zipM {X : Cx} {e e2 : Expr} {ta : TA} {p pos tpos : Pos} {elts : List Expr} {kk : Nat} (hg : Gl X "zip") (hm : X.mg "zip" = none) (ha : PA X [e, e2] ta)
    (hs : starEach [e, e2] X.env = (false, eval e X.env) :: starEach [e2] X.env) (hpl : (backTo pos (starEach [e2] X.env)).any (·.1) = false) :
    PI X (.Tuple elts kk tpos) (.Call (.Name "zip" p) [e, e2] [] pos) (iZipM X.K ta) := by
  refine ⟨fun pins s σ H R I h => ?_⟩
  have go : ∀ us s1, (∃ vs H1, Inv X pins σ H1 s1 ∧ Vals vs us ∧ (∃ a b xs ys, vs = [.ref a, .ref b] ∧ SqT X.K H1 a xs ∧ SqL X.K H1 b ys ∧ R (ItzM X.K a b) H1)) → wpAny (model X.prog X.w) X.A (call (.type "zip") us) (fun v s2 => wpAny (model X.prog X.w) X.A (pyIter v) (PIE X pins σ (.Tuple elts kk tpos) R) X.xe s2) X.xe s1 := by
    rintro us s1 ⟨vs, H1, I1, r1, a, b, xs, ys, rfl, qx, qy, q⟩
    obtain ⟨u1, us, rfl, ra, r1⟩ : ∃ u us', us = u :: us' ∧ RelV (.ref a) u ∧ Vals [.ref b] us' := by
      cases r1 with
      | cons p p' => exact ⟨_, _, rfl, p, p'⟩
    obtain ⟨u2, us, rfl, rb, r1⟩ : ∃ u us', us = u :: us' ∧ RelV (.ref b) u ∧ Vals [] us' := by
      cases r1 with
      | cons p p' => exact ⟨_, _, rfl, p, p'⟩
    obtain rfl : us = [] := by cases r1; rfl
    obtain rfl : u1 = Value.ref a := ra
    obtain rfl : u2 = Value.ref b := rb
    obtain ⟨its, rv, pv, _⟩ := I1.tuple qx
    obtain ⟨jts, rw', pw, _⟩ := I1.list qy
    obtain ⟨oa, hoa, _⟩ := id pv
    have la : a < s1.heap.objs.size := Heap.lt_size hoa
    have lb : b < s1.heap.objs.size := pw.lt
    refine zip_begins2 (begins_tuple a its.toArray) (begins_list b jts.toArray) pv pw.isList fun h' hz hTI hTO g1 g2 hsz hk => wpAny_pyIter_zip hz ?_
    have hA : ∀ c ∈ [a], c < s1.heap.objs.size := fun c hc => (List.mem_singleton.mp hc) ▸ la
    have hB : ∀ c ∈ [b], c < s1.heap.objs.size := fun c hc => (List.mem_singleton.mp hc) ▸ lb
    have S := zip_sep2 hA hB
    refine ⟨s1.heap.objs.size + 4, [s1.heap.objs.size + 4, s1.heap.objs.size + 2, s1.heap.objs.size + 3, s1.heap.objs.size, s1.heap.objs.size + 1], _, _, H1, rfl, I1.kept (t' := s1.toks) hk, turn_zipM S (Nat.ne_of_lt la) (Nat.ne_of_lt (Nat.lt_succ_of_lt lb)), ⟨hz, hTI, ⟨_, _, hTO⟩, ⟨_, g1, rfl, rfl⟩, ⟨_, g2, rfl, rfl⟩⟩, fun c hcm => ?_, q⟩
    have hle : s1.heap.objs.size ≤ c := by
      rcases zm_five hcm with rfl | rfl | rfl | rfl | rfl
      · exact Nat.le_add_right _ _
      · exact Nat.le_add_right _ _
      · exact Nat.le_add_right _ _
      · exact Nat.le_refl _
      · exact Nat.le_add_right _ _
    exact I1.fpOk hle (I1.hok.fresh hle)
  refine Call_ (ld_blt I hg hm PyProof.Rows.boot_zip (PyProof.Rows.callWith_type1 (thn (ha.run pos pins s σ H _ I h) fun us s1 q => ?_) hs hpl))
  obtain ⟨vs, H1, I1, r1, q1⟩ := q
  exact go us s1 ⟨vs, H1, I1, r1, q1⟩
theorem itzM_ok {K : PySem.W.Frag} {Fz : Addr → Prop} {H : Hp} {a b : Addr} {ds es : List D} {vs ws : List V} (q : H a = some (.tup vs)) (z : Fz a) (q' : SqZ K Fz H b ws) (r : RepL K Fz H ds vs []) (r' : RepL K Fz H es ws []) : ItOk K Fz H (ItzM K a b) (zipD ds es) := by
  have sq : ∀ {H2 : Hp}, (∀ a o, Fz a → H a = some o → H2 a = some o) → SqT K H2 a vs := fun {H2} k => .inl (.inl (k a _ z q))
  have sq' : ∀ {Fz2 : Addr → Prop} {H2 : Hp}, (∀ a, Fz a → Fz2 a) → (∀ a o, Fz a → H a = some o → H2 a = some o) → SqL K H2 b ws := fun {Fz2 H2} m k => (sqZ_keep m k q').sq
  have hl := r.length
  have hl' := r'.length
  have hl2 := zipD_length ds es
  refine ⟨fun {Fz2 H2 i} m k hi => ⟨vs, ws, vs[i]'(by omega), ws[i]'(by omega), sq k, sq' m k, by simp, by simp⟩, fun {Fz2 H2 i} m k hi => ⟨vs, ws, sq k, sq' m k, by omega⟩, fun {Fz2 H2 i d x H3 st σ fp} m k hd C y => ?_⟩
  obtain ⟨T, x, y, rfl, hT, rfl, hx, hy⟩ := y
  obtain ⟨d1, d2, h1, h2, rfl⟩ := zipD_get ds es i d hd
  obtain ⟨y1, g, ey, ry, hg⟩ := r.get h1
  obtain ⟨y2, g', ey', ry', hg'⟩ := r'.get h2
  rw [hx vs (sq k)] at ey
  rw [hy ws (sq' m k)] at ey'
  cases ey
  cases ey'
  have n1 : g = [] := List.eq_nil_iff_forall_not_mem.mpr fun c hc => by simpa using hg c hc
  have n2 : g' = [] := List.eq_nil_iff_forall_not_mem.mpr fun c hc => by simpa using hg' c hc
  subst n1 n2
  exact pair_new C hT (ry.keep m k fun _ _ h => nomatch h) (ry'.keep m k fun _ _ h => nomatch h)
def mZipM (m : M (List D)) : M (List D) := fun st => match m st with
  | some ([a, b], s) => match frzA a, frzA b with
    | .tup xs, .lst false ys => some (zipD xs ys, s)
    | .tup xs, .tup ys => some (zipD xs ys, s)
    | .lst false xs, .lst false ys => some (zipD xs ys, s)
    | _, _ => none
  | _ => none
section
variable {Γ : Gam} {Φ : GCx → Prop}
theorem si_zipM {e e' : Expr} {m : M (List D)} {p pos tpos : Pos} {elts : List Expr} {kk : Nat} (h : SA Γ Φ [e, e'] m) (hb : ∀ g, Φ g → g.mg "zip" = none) (hg : gGl Γ.sc "zip" = true := by rfl) (ns : NoStar e := by intro _ _; rfl) (ns' : NoStar e' := by intro _ _; rfl) (ns0 : ∀ env : Env, starEach ([] : List Expr) env = [] := by intro _; rfl) :
    SI Γ Φ (.Tuple elts kk tpos) (.Call (.Name "zip" p) [e, e'] [] pos) (mZipM m) := fun X o => by
  have P : PI X (.Tuple elts kk tpos) (.Call (.Name "zip" p) [e, e'] [] pos) (fun σ H R => iZipM X.K (rdA X.K m) σ H R ∨ rdI X.K (mZip m) σ H R) :=
    ⟨fun pins s σ H R I q => q.elim ((pi_zipM (o.gl hg) (hb _ o.phi) (h X o) (ns _ _) (by rw [ns', ns0]; rfl)).run pins s σ H R I) ((si_zip h hb hg ns ns' ns0 X o).run pins s σ H R I)⟩
  refine pi_imp P fun σ H R q => ?_
  obtain ⟨Fz, fp, st, C, ds, st', e, k⟩ := q
  unfold mZipM at e
  split at e
  · rename_i a b s hm
    split at e
    · rename_i xs ys ea eb
      cases e
      left
      refine ⟨Fz, fp, st, C, _, _, hm, fun vs H' Fz' fp' hl C1 g1 => ?_⟩
      obtain ⟨F2, f2, C2, r2, g2⟩ := Cfg.frzTemps hl C1
      match vs, hl with
      | [v, w], _ =>
        obtain ⟨y, ey, ry⟩ := r2.get0 (i := 0) (x := frzA a) rfl
        cases ey
        obtain ⟨y, ey, rz⟩ := r2.get0 (i := 1) (x := frzA b) rfl
        cases ey
        rw [ea] at ry
        rw [eb] at rz
        generalize hfp2 : ([] : List Addr) = ff2 at rz
        cases ry with
        | tup q z r => cases rz with
          | lstF q' z' r' => exact ⟨_, _, _, _, rfl, .inl (.inl q), .inl (.inl q'), k _ _ _ _ C2 (g1.trans g2) (itzM_ok q z (.inl ⟨.inl q', z'⟩) r r')⟩
    · rename_i xs ys ea eb
      cases e
      exact .inr ⟨Fz, fp, st, C, _, _, by unfold mZip; rw [hm]; simp only [ea, eb], k⟩
    · rename_i xs ys ea eb
      cases e
      exact .inr ⟨Fz, fp, st, C, _, _, by unfold mZip; rw [hm]; simp only [ea, eb], k⟩
    · cases e
  · cases e
end
end Va
/-! Va32: d.setdefault(k, v); xs.index(i) -/
namespace Va
open PySem PySem.Spec PyProof.Rows L2

def mSetd (i : Nat) (mk mv : M D) : M D := fun st => match st[i]? with
  | some (some (.dic _ _)) => match mk st with
    | some (k, s1) => match mv s1 with
      | some (d, s2) => match s2[i]? with
        | some (some (.dic true kvs)) => match keyD k with
          | some _ => match imm d && Nat.blt kvs.length LN with
            | true => match lookD kvs k with
              | some y => match imm y with
                | true => some (y, s2)
                | false => none
              | none => some (d, s2.set i (some (.dic true (putD kvs k d))))
            | false => none
          | none => none
        | _ => none
      | none => none
    | none => none
  | _ => none
section
variable {Γ : Gam} {Φ : GCx → Prop}
theorem se_setd (i : Nat) {x : Str} {k v : Expr} {mk mv : M D} {p apos cpos : Pos} (ho : SO Γ Φ (.Name x p) (.v i)) (hk : SE Γ Φ k mk) (hv : SE Γ Φ v mv) (hM : ∀ X : Cx, M2 X (.Name x p) "setdefault" apos k v cpos := by intro _; exact ⟨rfl, rfl, rfl, rfl⟩) :
    SE Γ Φ (.Call (.Attribute (.Name x p) "setdefault" apos) [k, v] [] cpos) (mSetd i mk mv) := fun X o' =>
  pe_imp (pe_dsetd (ho X o') (hk X o') (hv X o') (hM X)) fun σ H Q q => by
    obtain ⟨Fz, fp, st, C, d', st', e, kq⟩ := q
    unfold mSetd at e
    split at e
    · rename_i o1 kv1 h1
      split at e
      · rename_i kd s1 hm1
        split at e
        · rename_i d s2 hm2
          split at e
          · rename_i kvs hx
            split at e
            · rename_i kk hkk
              split at e
              · rename_i hi
                simp only [Bool.and_eq_true] at hi
                obtain ⟨w, f, hw, r, _⟩ := C.get h1
                obtain ⟨a, ws, f', rfl, ha, _, _⟩ := r.dic
                refine ⟨_, hw, a, rfl, .inl ⟨ws, .inl ha⟩, rd.run (P := []) (PV := []) C rfl hm1 fun u H1 Fz1 fp1 C1 g1 => ?_⟩
                refine rd.run (P := [some kd]) (PV := [some u]) C1 rfl hm2 fun z H2 Fz2 fp2 C2 g2 => ?_
                have C2 : Cfg X.K Fz2 H2 (some d :: some kd :: s2) (some z :: some u :: σ) fp2 := C2
                obtain ⟨fc, Cc, hc⟩ := C2.drop
                obtain ⟨u', fu, eu, ru, _⟩ := Cc.head
                cases eu
                have ek := keyD_v hkk ru
                subst ek
                obtain ⟨z', fz, ez, rz, _⟩ := C2.head
                cases ez
                have hfz := rz.imm hi.1
                subst hfz
                have G := g1.trans g2
                obtain ⟨w', f4, ew, C4, h4⟩ := Cfg.takeP (P := [some d, some kd]) (PV := [some z, some (kV kk)]) (s := s2) (σ := σ) rfl C2 hx rfl
                rw [hw] at ew
                cases ew
                obtain ⟨acc, hacc, hla, f5, C5, g5⟩ := Cfg.putKey C4 hkk rz
                obtain ⟨v2, f2, hv2, r2, _⟩ := C2.get (i := i + 2) (by simpa using hx)
                have e2 : V.ref a = v2 := by
                  rw [List.getElem?_cons_succ, List.getElem?_cons_succ] at hv2
                  have := hw.symm.trans hv2
                  simpa using this
                subst e2
                obtain ⟨a2, ws2, f2', ea2, ha2, rk2, _⟩ := r2.dic
                cases ea2
                rw [hacc] at ha2
                cases ha2
                obtain ⟨k1, k2⟩ := rk2.look hkk
                refine ⟨acc, kk, hacc, rfl, by rw [hla, ← LN_eq]; exact Nat.blt_eq.mp hi.2, fun v hv => ?_, fun hn => ?_⟩
                · split at e
                  · rename_i y hy
                    split at e
                    · rename_i hiy
                      cases e
                      obtain ⟨v', f6, hv', r6, _⟩ := k2 _ hy
                      rw [hv] at hv'
                      cases hv'
                      have := r6.imm hiy
                      subst this
                      exact fin_atom (T := [some d, some kd]) (TV := [some z, some (kV kk)]) kq rfl C2 G r6
                    · cases e
                  · rename_i hy
                    rw [k1 hy] at hv
                    cases hv
                · split at e
                  · rename_i y hy
                    obtain ⟨v', f6, hv', r6, _⟩ := k2 y hy
                    rw [hn] at hv'
                    cases hv'
                  · rename_i hy
                    cases e
                    obtain ⟨f6, C6, h6⟩ := Cfg.putback (P := [some d', some kd]) (PV := [some z, some (kV kk)]) (st := s2.set i none) (σ := σ) (i := i) rfl C5 hw
                    have C6 : Cfg X.K Fz2 _ (some d' :: some kd :: ((s2.set i none).set i (some (.dic true (putD kvs kd d'))))) (some z :: some (kV kk) :: σ) f6 := C6
                    rw [set_set_none] at C6
                    obtain ⟨z', fz, ez, rz', _⟩ := C6.head
                    cases ez
                    have hfz := rz'.imm hi.1
                    subst hfz
                    exact fin_atom (T := [some _, some kd]) (TV := [some z, some (kV kk)]) kq rfl C6 (G.trans ((g5.frame h4 fun b hb => .inl hb).sub h6)) rz'
              · cases e
            · cases e
          · cases e
        · cases e
      · cases e
    · cases e
end

/-- the first place of a number -/
def idxI : List Int → Int → Option Nat
  | [], _ => none
  | x :: l, i => match x == i with
    | true => some 0
    | false => match idxI l i with
      | some j => some (j + 1)
      | none => none
theorem idxI_ok : ∀ {l : List Int} {i : Int} {j : Nat}, idxI l i = some j → l[j]? = some i ∧ ∀ m z, m < j → l[m]? = some z → z ≠ i
  | [], i, j, h => by simp [idxI] at h
  | x :: l, i, j, h => by
    unfold idxI at h
    split at h
    · rename_i hx
      cases h
      exact ⟨by simpa using hx, fun m z hm => by omega⟩
    · rename_i hx
      split at h
      · rename_i j' hj
        cases h
        obtain ⟨h1, h2⟩ := idxI_ok hj
        refine ⟨by simpa using h1, fun m z hm hz => ?_⟩
        cases m with
        | zero => simp at hz; subst hz; simpa using hx
        | succ m => exact h2 m z (by omega) (by simpa using hz)
      · cases h
def indexF (d k : D) : Option D := match d with
  | .lst _ xs => match k with
    | .int i => match toInts xs with
      | some l => match idxI l i with
        | some j => some (.int (j : Nat))
        | none => none
      | none => none
    | _ => none
  | _ => none
def mIndex (i : Nat) (m : M D) : M D := fun st => match isLst i st with
  | true => match m st with
    | some (k, s) => match s[i]? with
      | some (some d) => match indexF d k with
        | some y => some (y, s)
        | none => none
      | _ => none
    | none => none
  | false => none
section
variable {Γ : Gam} {Φ : GCx → Prop}
theorem se_index (i : Nat) {x : Str} {p apos cpos : Pos} {e : Expr} {m : M D} (h : SE Γ Φ e m) (hN : Γ.N[i]? = some x := by rfl) (hv : gVis Γ.sc x = true := by rfl) (hd : (x == ("__debug__" : Str)) = false := by decide) (hcd : (x == ("__classdict__" : Str)) = false := by decide) (ns : NoStar e := by intro _ _; rfl)
    (hbase : ∀ env : Env, attributeBase (.Name x p) "index" env (eval (.Name x p) env) = eval (.Name x p) env := by intro _; rfl)
    (hfew : ∀ env : Env, ((backTo cpos (starEach [e] env)).all (fun x => !x.1) && (backToKw cpos (keywordEach [] env)).all (fun x => x.1.isSome) && decide ([e].length + ([] : List Keyword).length + (if ([] : List Keyword).isEmpty then 0 else 1) < 30)) = true := by intro _; rfl)
    (hline : (apos.endLine == cpos.line) = true := by rfl) (hpl : ∀ env : Env, (backTo cpos (starEach ([] : List Expr) env)).any (·.1) = false := by intro _; rfl) :
    SE Γ Φ (.Call (.Attribute (.Name x p) "index" apos) [e] [] cpos) (mIndex i m) := fun X o =>
  pe_imp (pe_bm PySem.F.plainAttrs_list PySem.F.slot_list_index PySem.F.type_list_index mt_index (pe_var (o.slot hN) (o.vis hv) hd hcd) (pa_cons (h X o) pa_nil (ns _ _)) (hbase _) (hfew _) hline (ns _ _) (hpl _)) fun σ H Q q => by
    obtain ⟨Fz, fp, st, C, d', st', e, k⟩ := q
    unfold mIndex at e
    split at e
    · rename_i hL
      split at e
      · rename_i kd s hm
        split at e
        · rename_i d hx
          split at e
          · rename_i y hy
            obtain ⟨rfl, rfl⟩ : d' = y ∧ st' = s := by cases e; exact ⟨rfl, rfl⟩
            obtain ⟨a, ea, ty⟩ := isLst_ty C hL
            refine ⟨_, ea, ty, ?_⟩
            refine rd.run (P := []) (PV := []) C rfl hm fun v H1 Fz1 fp1 C1 g1 => ?_
            have C1 : Cfg X.K Fz1 H1 (some kd :: st') (some v :: σ) fp1 := C1
            unfold indexF at hy
            split at hy
            · rename_i o2 xs
              split at hy
              · rename_i ji _
                split at hy
                · rename_i l hl
                  split at hy
                  · rename_i n hn
                    cases hy
                    obtain ⟨fc, Cc, _⟩ := C1.drop
                    obtain ⟨w, f, hw, r, _⟩ := Cc.get hx
                    rw [ea] at hw
                    cases hw
                    obtain ⟨a2, vs, f', e2, q0, rl, _⟩ := r.lst
                    cases e2
                    have hvs := toInts_map hl rl
                    subst hvs
                    obtain ⟨u', fu, eu, ru, _⟩ := C1.head
                    cases eu
                    have := ru.inti
                    subst this
                    obtain ⟨i1, i2⟩ := idxI_ok hn
                    refine ⟨a, l.map V.int, .int ji, n, .int ji, rfl, rfl, .inl (.inl q0), rfl, by simp [flatV], by rw [List.getElem?_map, i1]; rfl, by simp [eqV], fun m z' hm hz => ?_, ?_⟩
                    · rw [List.getElem?_map] at hz
                      cases hq : l[m]? with
                      | none => rw [hq] at hz; simp at hz
                      | some z0 =>
                        rw [hq] at hz
                        simp at hz
                        subst hz
                        have := i2 m z0 hm hq
                        simp [eqV, this]
                    · exact fin_atom (T := [some (.int ji)]) (TV := [some (.int ji)]) k rfl C1 g1 (.int _)
                  · cases hy
                · cases hy
              · cases hy
            · cases hy
          · cases e
        · cases e
      · cases e
    · cases e
end
end Va
/-! Va33: min of a list of tuples of ints -/
namespace Va
open PySem PySem.Spec PyProof.Rows L2

section
variable {prog : Program} {w : World} {A : Around} {R : Result → Shared → Prop} {E : Value → Shared → Prop} {I : Addr} {fp wr : List Addr} {n : Nat} {P : Nat → Value → Prop} {St : Nat → Heap → Prop}
/-- the comparisons, where the walk stands -/
def CmpH (prog : Program) (w : World) (A : Around) (P : Nat → Value → Prop) (St : Nat → Heap → Prop) (bt : Nat → Nat → Bool) : Prop :=
  ∀ i j k vi vj (s : Shared) (Q : Value → Shared → Prop) (E : Value → Shared → Prop), P i vi → P j vj → St k s.heap → Q (.bool (bt i j)) s → wpAny (model prog w) A (richCompare .Lt vi vj) Q E s
theorem minL (W : Walks prog w A.in1 I fp wr n P St) (bt : Nat → Nat → Bool) (hcmp : CmpH prog w A.in1 P St bt) (S : Addr) (hSf : S ∉ fp) :
    ∀ (k j : Nat) (s : Shared) (vb : Value) (c : Nat), n - (j + 1) = k → j + 1 ≤ n → St (j + 1) s.heap → P (argBest bt j) vb →
    s.heap.get? S = some { cls := .type "list", dict := none, data := .seq #[vb, vb] c, slots := #[] } →
    (∀ v h' tk, P (argBest bt (n - 1)) v → (∀ b o, b ∉ wr → b ≠ S → s.heap.get? b = some o → h'.get? b = some o) → R (.ok (.ret v)) { s with heap := h', toks := tk }) →
    codeAny (model prog w) A (.builtin "min.loop" ⟨[.ref I, .none, .ref S], []⟩) R s := by
  have hSw : S ∉ wr := fun h => hSf (W.sub _ h)
  have hname : (toString "min" ++ toString ".loop" : String) = "min.loop" := by decide
  intro k
  induction k with
  | zero =>
    intro j s vb c hk hj hst hPb hS hR
    have hin : j + 1 = n := by omega
    refine codeAny_builtin PySem.F.entry_min_loop ?_
    rw [Around.under_plainId PySem.F.plain_min_loop _]
    show wpAny _ A.in1 (seqItems? (.ref S) >>= _) _ _ s
    refine wpAny_bind (wpAny_seqItems hS rfl ?_)
    show wpAny _ A.in1 (tryCatch (pyNext (.ref I)) _ >>= _) _ _ s
    refine wpAny_bind (wpAny_tryCatch (W.done s _ _ (hin ▸ hst) fun h' tk hk' => ?_))
    have hS' := hk' S _ hSw hS
    show wpAny _ A.in1 (updateSeq S (fun _ => #[]) >>= _) _ _ _
    refine wpAny_bind ?_
    refine wpAny_updateSeq hS' rfl (wpAny_bind (wpAny_letGo (wpAny_pure ?_)))
    refine hR vb _ tk (by rw [← hin]; exact hPb) fun b o hbw hbS e => (Heap.get?_update_other _ _ (Ne.symm hbS)).trans (hk' b o hbw e)
  | succ k ih =>
    intro j s vb c hk hj hst hPb hS hR
    have hlt : j + 1 < n := by omega
    refine codeAny_builtin PySem.F.entry_min_loop ?_
    rw [Around.under_plainId PySem.F.plain_min_loop _]
    show wpAny _ A.in1 (seqItems? (.ref S) >>= _) _ _ s
    refine wpAny_bind (wpAny_seqItems hS rfl ?_)
    show wpAny _ A.in1 (tryCatch (pyNext (.ref I)) _ >>= _) _ _ s
    refine wpAny_bind (wpAny_tryCatch (W.item (j + 1) s _ _ hlt hst fun v h' tk hP hst' hk' => ?_))
    have hS' := hk' S _ hSw hS
    show wpAny _ A.in1 (tryCatch (holding [v, v] (richCompare .Lt v vb >>= _)) _ >>= _) _ _ _
    refine wpAny_bind (wpAny_tryCatch (wpAny_holding (wpAny_bind (hcmp (j + 1) (argBest bt j) (j + 1 + 1) v vb _ _ _ hP hPb hst' ?_))))
    refine wpAny_bind (wpAny_holding (wpAny_truthy_bool ?_))
    refine wpAny_bind (wpAny_letGo (wpAny_pure ?_))
    cases hb : bt (j + 1) (argBest bt j) with
    | true =>
      simp only [if_true]
      refine wpAny_bind ?_
      refine wpAny_updateSeq hS' rfl (wpAny_bind (wpAny_letGo ?_))
      rw [hname]
      refine wpAny_pure ⟨plainId_quiet PySem.F.plain_min_loop _, ih (j + 1) _ v _ (by omega) hlt (W.frame _ _ _ hst' fun b hbf o e => ?_) (by simp only [argBest, hb, if_true]; exact hP) (Heap.get?_update_self _ hS' rfl)
        fun v' h'' tk'' hP' hk'' => ?_⟩
      · exact (Heap.get?_update_other _ _ (fun h : S = b => hSf (by rw [h]; exact hbf))).trans e
      · exact hR v' h'' tk'' hP' fun b o hbw hbS e => hk'' b o hbw hbS ((Heap.get?_update_other _ _ (Ne.symm hbS)).trans (hk' b o hbw e))
    | false =>
      simp only [Bool.false_eq_true, if_false]
      refine wpAny_bind (wpAny_letGo ?_)
      rw [hname]
      refine wpAny_pure ⟨plainId_quiet PySem.F.plain_min_loop _, ih (j + 1) _ vb c (by omega) hlt hst' (by simp only [argBest, hb, Bool.false_eq_true, if_false]; exact hPb) hS' fun v' h'' tk'' hP' hk'' => ?_⟩
      exact hR v' h'' tk'' hP' fun b o hbw hbS e => hk'' b o hbw hbS (hk' b o hbw e)
theorem minL1 (W : Walks prog w A.in1 I fp wr n P St) (bt : Nat → Nat → Bool) (hcmp : CmpH prog w A.in1 P St bt) (S : Addr) (hSf : S ∉ fp) (hn : 0 < n) {s : Shared} {c : Nat} (hst : St 0 s.heap)
    (hS : s.heap.get? S = some { cls := .type "list", dict := none, data := .seq #[] c, slots := #[] })
    (hR : ∀ v h' tk, P (argBest bt (n - 1)) v → (∀ b o, b ∉ wr → b ≠ S → s.heap.get? b = some o → h'.get? b = some o) → R (.ok (.ret v)) { s with heap := h', toks := tk }) :
    codeAny (model prog w) A (.builtin "min.loop" ⟨[.ref I, .none, .ref S], []⟩) R s := by
  have hSw : S ∉ wr := fun h => hSf (W.sub _ h)
  have hname : (toString "min" ++ toString ".loop" : String) = "min.loop" := by decide
  refine codeAny_builtin PySem.F.entry_min_loop ?_
  rw [Around.under_plainId PySem.F.plain_min_loop _]
  show wpAny _ A.in1 (seqItems? (.ref S) >>= _) _ _ s
  refine wpAny_bind (wpAny_seqItems hS rfl ?_)
  show wpAny _ A.in1 (tryCatch (pyNext (.ref I)) _ >>= _) _ _ s
  refine wpAny_bind (wpAny_tryCatch (W.item 0 s _ _ hn hst fun v h' tk hP hst' hk' => ?_))
  have hS' := hk' S _ hSw hS
  show wpAny _ A.in1 (updateSeq S (fun _ => #[v, v]) >>= _) _ _ _
  refine wpAny_bind ?_
  refine wpAny_updateSeq hS' rfl ?_
  rw [hname]
  refine wpAny_pure ⟨plainId_quiet PySem.F.plain_min_loop _, minL W bt hcmp S hSf _ 0 _ v _ rfl hn (W.frame _ _ _ hst' fun b hbf o e => ?_) hP (Heap.get?_update_self _ hS' rfl) fun v' h'' tk'' hP' hk'' => ?_⟩
  · exact (Heap.get?_update_other _ _ (fun h : S = b => hSf (by rw [h]; exact hbf))).trans e
  · exact hR v' h'' tk'' hP' fun b o hbw hbS e => hk'' b o hbw hbS ((Heap.get?_update_other _ _ (Ne.symm hbS)).trans (hk' b o hbw e))
theorem minW {s : Shared} {x : Value} {Q : Value → Shared → Prop}
    (h : wpAny (model prog w) A.in1 (pyIter x) (fun it s₂ => ∃ I fp wr n P St bt, it = .ref I ∧ Walks prog w A.in1 I fp wr n P St ∧ St 0 s₂.heap ∧ (∀ b ∈ fp, b < s₂.heap.objs.size) ∧ 0 < n ∧ CmpH prog w A.in1 P St bt ∧
      ∀ v h' tk, P (argBest bt (n - 1)) v → (∀ b o, b ∉ wr → s₂.heap.get? b = some o → h'.get? b = some o) → Q v { s₂ with heap := h', toks := tk }) E s) :
    wpAny (model prog w) A (call (.builtin "min") [x]) Q E s := by
  have hname : (toString "min" ++ toString ".loop" : String) = "min.loop" := by decide
  refine call_function_tree PySem.F.kind_min PySem.F.plain_min PySem.F.entry_min (PySem.F.args_min1 _) ?_
  show wpAny _ A.in1 (Builtin.Builtins.bindParams "min" ["key", "default"] 0 ⟨[], []⟩ >>= _) _ _ s
  refine wpAny_bind (wpAny_of_eq (show Builtin.Builtins.bindParams "min" ["key", "default"] 0 ⟨[], []⟩ = pure [none, none] from rfl) ?_)
  refine wpAny_bind (wpAny_pure ?_)
  refine wpAny_bind (wpAny_mono h (fun it s₂ h₂ => ?_) fun _ _ e => e)
  obtain ⟨I, fp, wr, n, P, St, bt, rfl, W, hst, hfp, hn, hcmp, hQ⟩ := h₂
  refine wpAny_bind (wpAny_newObj_type ?_)
  have hSf : s₂.heap.objs.size ∉ fp := fun hm => Nat.lt_irrefl _ (hfp _ hm)
  rw [hname]
  refine wpAny_pure ⟨plainId_quiet PySem.F.plain_min_loop _, minL1 W bt hcmp s₂.heap.objs.size hSf hn (W.frame _ _ _ hst fun b _ o e => Heap.get?_push_of_some _ e) (Heap.get?_push_size _ rfl) fun v h' tk hP hk => ?_⟩
  exact hQ v h' tk hP fun b o hbw e => hk b o hbw (Nat.ne_of_lt (Heap.lt_size e)) (Heap.get?_push_of_some _ e)
/-- the tuples told -/
def TT (items : Array Value) (nss : Nat → List Int) (ts : List Addr) (h : Heap) : Prop := ∀ (k : Nat) v, items[k]? = some v → ∃ t its, v = .ref t ∧ t ∈ ts ∧ IsTup h t its ∧ IntsAre its.toList (nss k)
theorem TT.keeps {items : Array Value} {nss : Nat → List Int} {ts : List Addr} {h h' : Heap} (x : TT items nss ts h) (hk : ∀ b ∈ ts, ∀ o, h.get? b = some o → h'.get? b = some o) : TT items nss ts h' := fun k v e =>
  let ⟨t, its, h1, h2, ⟨o, ho, r⟩, h4⟩ := x k v e
  ⟨t, its, h1, h2, ⟨o, hk t h2 o ho, r⟩, h4⟩
theorem walksT (hh : A.handled = none) (I ax : Addr) (hne : ax ≠ I) (items : Array Value) (nss : Nat → List Int) (ts : List Addr) (hts : ∀ b ∈ ts, b ≠ I) :
    Walks prog w A I (I :: ax :: ts) [I] items.size (fun i v => items[i]? = some v) (fun i h => (h.IsListIter I ax i ∧ h.IsList ax items) ∧ TT items nss ts h) := by
  have W := Walks.list (prog := prog) (w := w) (A := A) hh I ax hne items
  refine ⟨fun b hb => by simp at hb; simp [hb], fun i h h' st hk => ⟨W.frame i h h' st.1 fun b hb => hk b (by simp at hb; rcases hb with rfl | rfl <;> simp), st.2.keeps fun b hb => hk b (by simp [hb])⟩, fun i s Q E hi st hQ => ?_, fun s Q E st hQ => W.done s Q E st.1 hQ, fun i s Q E st hQ => W.self i s Q E st.1 hQ⟩
  exact W.item i s Q E hi st.1 fun v h' tk hP hst' hk => hQ v h' tk hP ⟨hst', st.2.keeps fun b hb o e => hk b o (by simpa using hts b hb) e⟩ hk
theorem cmpT (hu : A.units < cLine) (items : Array Value) (nss : Nat → List Int) (ts : List Addr) (St0 : Nat → Heap → Prop) : CmpH prog w A (fun i v => items[i]? = some v) (fun i h => St0 i h ∧ TT items nss ts h) (fun i j => HT.lexLt (nss i) (nss j)) := by
  intro i j k vi vj s Q E hi hj hst hQ
  obtain ⟨t1, its1, rfl, _, p1, i1⟩ := hst.2 i vi hi
  obtain ⟨t2, its2, rfl, _, p2, i2⟩ := hst.2 j vj hj
  exact HT.lt_tupInts p1 p2 i1 i2 hu hQ
end
def bestP {α : Type} (f : α → List Int) (p : α) (l : List α) : α := l.foldl (fun m x => if HT.lexLt (f x) (f m) = true then x else m) p
theorem best_at {α : Type} (f : α → List Int) (p : α) (l : List α) (nss : Nat → List Int) (hn : ∀ i x, (p :: l)[i]? = some x → nss i = f x) : ∀ k, k ≤ l.length → (p :: l)[argBest (fun i j => HT.lexLt (nss i) (nss j)) k]? = some (bestP f p (l.take k))
  | 0, _ => by simp [argBest, bestP]
  | k + 1, hk => by
    have ih := best_at f p l nss hn k (by omega)
    have hx : (p :: l)[k + 1]? = some l[k] := by rw [List.getElem?_cons_succ]; exact List.getElem?_eq_getElem (by omega)
    have e1 := hn _ _ hx
    have e2 := hn _ _ ih
    have htk : l.take (k + 1) = l.take k ++ [l[k]] := List.take_succ_eq_append_getElem (by omega)
    have e3 : bestP f p (l.take (k + 1)) = if HT.lexLt (f l[k]) (f (bestP f p (l.take k))) = true then l[k] else bestP f p (l.take k) := by
      rw [htk]; unfold bestP; rw [List.foldl_append]; rfl
    rw [e3]
    unfold argBest
    rw [e1, e2]
    split
    · exact hx
    · exact ih
theorem iterL {prog : Program} {w : World} {A : Around} {E : Value → Shared → Prop} {s : Shared} {l : Addr} {items : Array Value} {Q : Value → Shared → Prop} (hl : s.heap.IsList l items)
    (h : ∀ s₂ : Shared, s₂ = { s with heap := s.heap.push { cls := .type "list_iterator", data := .fields #[.ref l, .int 0 0] } } →
      (s₂.heap.IsListIter s.heap.objs.size l 0 ∧ s₂.heap.IsList l items) → l ≠ s.heap.objs.size → Q (.ref s.heap.objs.size) s₂) :
    wpAny (model prog w) A (pyIter (.ref l)) Q E s := by
  have hlt : l < s.heap.objs.size := by obtain ⟨_, e, _⟩ := hl; exact Heap.lt_size e
  exact wpAny_pyIter_list hl (h _ rfl ⟨⟨_, Heap.get?_push_size _ rfl, rfl, rfl⟩, hl.push _⟩ (Nat.ne_of_lt hlt))
/-- min of a list of tuples of ints -/
def rMinT (K : PySem.W.Frag) : List V → Hp → VK → Prop := fun vs H Q => ∃ (a : Addr) (p : Addr × List Int) (ps : List (Addr × List Int)), vs = [V.ref a] ∧ SqL K H a ((p :: ps).map fun p => V.ref p.1) ∧ (∀ q ∈ p :: ps, SqT K H q.1 (q.2.map V.int)) ∧ Q (.ref (bestP (·.2) p ps).1) H
theorem cr_minT {X : Cx} (hc : X.calm = true) (hu : X.A.units + 1 < cLine) : CallR X (.builtin "min") (rMinT X.K) := by
  intro pins s σ H xs us Q I r h
  obtain ⟨a, p, ps, rfl, hs, hall, q⟩ := h
  obtain ⟨its, rv, hl, _⟩ := I.list hs
  rw [Vals.ref1 r]
  have hlen : its.length = (p :: ps).length := by have := rv.length; rw [List.length_map] at this; exact this.symm
  have hits : ∀ (i : Nat) v, its[i]? = some v → ∃ x, (p :: ps)[i]? = some x ∧ v = .ref x.1 := fun i v hv => by
    have hi := (List.getElem?_eq_some_iff.mp hv).1
    obtain ⟨x, hx⟩ : ∃ x, (p :: ps)[i]? = some x := ⟨_, List.getElem?_eq_getElem (by omega)⟩
    obtain ⟨u, hu', ru⟩ := rv.get (i := i) (x := V.ref x.1) (by rw [List.getElem?_map, hx]; rfl)
    rw [hv] at hu'
    cases hu'
    exact ⟨x, hx, ru⟩
  let nss : Nat → List Int := fun i => (((p :: ps)[i]?).map (·.2)).getD []
  have hnss : ∀ i x, (p :: ps)[i]? = some x → nss i = x.2 := fun i x hx => by
    show (((p :: ps)[i]?).map (·.2)).getD [] = _
    rw [hx]; rfl
  have hTT : TT its.toArray nss ((p :: ps).map (·.1)) s.heap := fun k v hv => by
    obtain ⟨x, hx, rfl⟩ := hits k v (by simpa using hv)
    obtain ⟨us, r1, p1, _⟩ := I.tuple (hall x (List.mem_of_getElem? hx))
    exact ⟨x.1, us.toArray, rfl, List.mem_map.mpr ⟨x, List.mem_of_getElem? hx, rfl⟩, p1, by rw [hnss k x hx]; exact intsAre_of r1⟩
  have hlt : ∀ b ∈ (p :: ps).map (·.1), b < s.heap.objs.size := fun b hb => by
    obtain ⟨x, hx, rfl⟩ := List.mem_map.mp hb
    obtain ⟨us, r1, ⟨o, ho, _⟩, _⟩ := I.tuple (hall x hx)
    exact Heap.lt_size ho
  have hla : a < s.heap.objs.size := by obtain ⟨_, e, _⟩ := hl.isList; exact Heap.lt_size e
  refine minW (iterL hl.isList fun s₂ e st hne => ?_)
  subst e
  refine ⟨_, _, _, _, _, _, _, rfl, walksT (A := X.A.in1) (I.ok.hd hc) _ a hne its.toArray nss ((p :: ps).map (·.1)) (fun b hb => Nat.ne_of_lt (hlt b hb)), ⟨st, hTT.keeps fun b _ o e => Heap.get?_push_of_some _ e⟩, fun b hb => ?_, by rw [List.size_toArray, hlen]; simp, cmpT hu its.toArray nss ((p :: ps).map (·.1)) _, fun v h' tk hP hk => ?_⟩
  · show b < (s.heap.push _).objs.size
    rw [Heap.size_push]
    rcases List.mem_cons.mp hb with rfl | hb
    · exact Nat.lt_succ_self _
    · rcases List.mem_cons.mp hb with rfl | hb
      · exact Nat.lt_succ_of_lt hla
      · exact Nat.lt_succ_of_lt (hlt b hb)
  · obtain ⟨x, hx, rfl⟩ := hits _ v (by simpa using hP)
    have hb := best_at (fun x : Addr × List Int => x.2) p ps nss hnss ps.length (Nat.le_refl _)
    rw [List.take_length] at hb
    have e1 : its.length - 1 = ps.length := by rw [hlen]; simp
    rw [e1, hb] at hx
    cases hx
    exact ⟨.ref _, H, I.kept (old_kept hk), rfl, q⟩
def tupInts : D → Option (List Int)
  | .tup xs => toInts xs
  | _ => none
def allTups : List D → Option (List (List Int))
  | [] => some []
  | d :: r => match tupInts d with
    | some l => match allTups r with
      | some ls => some (l :: ls)
      | none => none
    | none => none
def minTF (d : D) : Option D := match lstOf d with
  | some xs => match allTups xs with
    | some (l :: ls) => some (.tup ((bestP id l ls).map D.int))
    | _ => none
  | none => none
theorem allTups_rep {K : PySem.W.Frag} {Fz : Addr → Prop} {H : Hp} : ∀ {xs : List D} {ls : List (List Int)} {vs f}, allTups xs = some ls → RepL K Fz H xs vs f → ∃ ps : List (Addr × List Int), vs = ps.map (fun p => V.ref p.1) ∧ ps.map (·.2) = ls ∧ ∀ q ∈ ps, H q.1 = some (.tup (q.2.map V.int)) ∧ Fz q.1
  | [], ls, _, _, h, .nil => by cases h; exact ⟨[], rfl, rfl, fun q hq => by simp at hq⟩
  | d :: r, ls, _, _, h, .cons rx s => by
    unfold allTups at h
    split at h
    · rename_i l hl
      split at h
      · rename_i ls' hls
        cases h
        obtain ⟨ps, rfl, rfl, h3⟩ := allTups_rep hls s
        cases d <;> simp [tupInts] at hl
        rename_i xs
        cases rx with
        | tup q z rl =>
          rename_i a vs
          have := toInts_map hl rl
          subst this
          refine ⟨(a, l) :: ps, rfl, rfl, fun q' hq' => ?_⟩
          rcases List.mem_cons.mp hq' with rfl | hq'
          · exact ⟨q, z⟩
          · exact h3 q' hq'
      · cases h
    · cases h
theorem bestP_map {α : Type} (f : α → List Int) : ∀ (l : List α) (p : α), f (bestP f p l) = bestP id (f p) (l.map f)
  | [], p => rfl
  | x :: l, p => by
    show f (bestP f (if HT.lexLt (f x) (f p) = true then x else p) l) = bestP id (if HT.lexLt (f x) (f p) = true then f x else f p) (l.map f)
    rw [bestP_map f l]
    split <;> rfl
theorem bestP_mem {α : Type} (f : α → List Int) : ∀ (l : List α) (p : α), bestP f p l ∈ p :: l
  | [], p => by simp [bestP]
  | x :: l, p => by
    have := bestP_mem f l (if HT.lexLt (f x) (f p) = true then x else p)
    show bestP f (if HT.lexLt (f x) (f p) = true then x else p) l ∈ _
    rcases List.mem_cons.mp this with e | h
    · rw [e]
      split
      · simp
      · simp
    · exact List.mem_cons_of_mem _ (List.mem_cons_of_mem _ h)
theorem ints_repL {K : PySem.W.Frag} {Fz : Addr → Prop} {H : Hp} : ∀ l : List Int, RepL K Fz H (l.map D.int) (l.map V.int) []
  | [] => .nil
  | x :: l => by
    have := RepL.cons (Rep.int (K := K) (Fz := Fz) (H := H) x) (ints_repL l)
    exact this
theorem b_minT {X : Cx} (hc : X.calm = true) (hu : X.A.units + 100 < cLine) : ∃ r, CallR X (.builtin "min") r ∧ R1Snd X.K (fun x H Q => r [x] H Q) minTF := ⟨_, cr_minT hc (by omega), by
  intro Fz H fp σ s T TV Fz2 H2 fp2 a x fa z Q e hl C g ra k
  unfold minTF at e
  split at e
  · rename_i xs hx
    split at e
    · rename_i l ls hls
      cases e
      obtain ⟨b, vs, f', rfl, sq, rl, _⟩ := ra.lstOf hx
      obtain ⟨ps, rfl, hp, hq⟩ := allTups_rep hls rl
      cases ps with
      | nil => cases hp
      | cons p ps =>
        simp only [List.map_cons, List.cons.injEq] at hp
        obtain ⟨rfl, rfl⟩ := hp
        obtain ⟨m1, m2⟩ := hq _ (bestP_mem (·.2) ps p)
        refine ⟨b, p, ps, rfl, sq, fun q h => .inl (.inl (hq q h).1), ?_⟩
        refine fin_atom k hl C g ?_
        have e2 := bestP_map (fun p : Addr × List Int => p.2) ps p
        rw [← e2]
        exact .tup m1 m2 (ints_repL _)
    · cases e
  · cases e⟩
end Va
/-! Va34: range(a, b, c); xs[lo:hi:c], c at least two; len(set(xs)) of ints -/
namespace Va
open PySem PySem.Spec PyProof.Rows L2

/-! ### range with a step -/
def rg3D (a b c : Int) : List D := (List.range (Builtin.Range.rangeSize a b c).toNat).map fun k => .int (a + (k : Nat) * c)
def mRg3 (m m' m3 : M D) : M (List D) := fun st => match m st with
  | some (.int a, s) => match m' s with
    | some (.int b, s') => match m3 s' with
      | some (.int c, s3) => match decide (c ≠ 0) && decide (c.natAbs < 1073741824) && Builtin.Range.small a b c && decide (0 ≤ Builtin.Range.rangeSize a b c) with
        | true => some (rg3D a b c, s3)
        | false => none
      | _ => none
    | _ => none
  | _ => none
theorem itc_ok {K : PySem.W.Frag} {Fz : Addr → Prop} {H : Hp} {a b c : Int} : ItOk K Fz H (Itc a c (Builtin.Range.rangeSize a b c).toNat) (rg3D a b c) := by
  have hl : (rg3D a b c).length = (Builtin.Range.rangeSize a b c).toNat := by unfold rg3D; simp
  refine ⟨fun m k hi => by rw [hl] at hi; exact hi, fun m k hi => by rw [hl] at hi; exact hi, fun {Fz2 H2 i d x H3 st σ fp} m k hd C y => ?_⟩
  obtain ⟨rfl, rfl⟩ := y
  have hd' : d = .int (a + (i : Nat) * c) := by
    unfold rg3D at hd
    rw [List.getElem?_map] at hd
    cases h : (List.range (Builtin.Range.rangeSize a b c).toNat)[i]? with
    | none => rw [h] at hd; cases hd
    | some j =>
      rw [h] at hd
      have : j = i := by
        obtain ⟨_, e⟩ := List.getElem?_eq_some_iff.mp h
        simpa using e.symm
      subst this
      exact (Option.some.inj hd).symm
  subst hd'
  exact ⟨Fz2, C, .refl, .int _⟩
section
variable {Γ : Gam} {Φ : GCx → Prop}
theorem si_rg3 {tg e e' e3 : Expr} {m m' m3 : M D} {p pos : Pos} (h : SE Γ Φ e m) (h' : SE Γ Φ e' m') (h3 : SE Γ Φ e3 m3) (hb : ∀ g, Φ g → g.mg "range" = none) (hg : gGl Γ.sc "range" = true := by rfl) (ns : NoStar e := by intro _ _; rfl) (ns' : NoStar e' := by intro _ _; rfl) (ns3 : NoStar e3 := by intro _ _; rfl)
    (hpl : ∀ env : Env, (backTo pos (starEach [e', e3] env)).any (·.1) = false := by intro _; rfl) :
    SI Γ Φ tg (.Call (.Name "range" p) [e, e', e3] [] pos) (mRg3 m m' m3) := fun X o =>
  pi_imp (pi_range3 (o.gl hg) (hb _ o.phi) (pa_cons (h X o) (pa_cons (h' X o) (pa_cons (h3 X o) pa_nil (ns3 _ _)) (ns' _ _)) (ns _ _)) (ns _ _) (hpl _)) fun σ H R q => by
    obtain ⟨Fz, fp, st, C, ds, st', e, k⟩ := q
    unfold mRg3 at e
    split at e
    · rename_i a s hm
      split at e
      · rename_i b s' hm'
        split at e
        · rename_i c s3 hm3
          split at e
          · rename_i hs
            cases e
            simp only [Bool.and_eq_true, decide_eq_true_eq] at hs
            refine ⟨Fz, fp, st, C, _, _, hm, fun v H' Fz' fp' C1 g1 => ?_⟩
            obtain ⟨v', f, e', r, _⟩ := C1.head
            have e2 := Option.some.inj e'
            subst e2
            refine rd.run (P := [some (.int a)]) (PV := [some v]) C1 rfl hm' fun w H2 Fz2 fp2 C2 g2 => ?_
            have C2 : Cfg X.K Fz2 H2 (some (.int b) :: some (.int a) :: s') (some w :: some v :: σ) fp2 := C2
            obtain ⟨w', f', e', r', _⟩ := C2.head
            cases e'
            refine rd.run (P := [some (.int b), some (.int a)]) (PV := [some w, some v]) C2 rfl hm3 fun u H3 Fz3 fp3 C3 g3 => ?_
            obtain ⟨u', f'', e', r'', _⟩ := C3.head
            cases e'
            obtain ⟨f3, C4, h4⟩ := C3.drop
            have C4 : Cfg X.K Fz3 H3 (some (.int b) :: some (.int a) :: st') (some w :: some v :: σ) f3 := C4
            obtain ⟨f5, C5, h5⟩ := C4.drop
            obtain ⟨f6, C6, h6⟩ := C5.drop
            exact ⟨a, b, c, (Builtin.Range.rangeSize a b c).toNat, by rw [r.inti, r'.inti, r''.inti], ⟨hs.1.1.1, hs.1.1.2, hs.1.2, by omega⟩, k _ H3 Fz3 f6 C6 (((g1.trans g2).trans g3).sub fun x h => h4 x (h5 x (h6 x h))) itc_ok⟩
          · cases e
        · cases e
      · cases e
    · cases e
end

/-! ### slices with a step -/
def ksT (n : Nat) (lo hi : Option Int) (c : Int) : List Nat := (List.range (Builtin.Slice.slicePlaces (Builtin.Slice.sliceAdjust lo hi c (n : Int)).1 (Builtin.Slice.sliceAdjust lo hi c (n : Int)).2 c)).map fun (k : Nat) => ((Builtin.Slice.sliceAdjust lo hi c (n : Int)).1 + (k : Int) * c).toNat
section
variable {prog : Program} {w : World} {A : Around} {E : Value → Shared → Prop} {s : Shared}
theorem sliceApplied_step {sl : Addr} {vl vu : Value} {lo hi : Option Int} {c : Int} {t : Tok} {n : Nat} {Q : Int × Int × Nat → Shared → Prop} (hs : s.heap.IsSliceOf sl vl vu (.int c t)) (pl : IsPart vl lo) (pu : IsPart vu hi) (hc : c ≠ 0)
    (h : Q ((Builtin.Slice.sliceAdjust lo hi c (n : Int)).1, c, Builtin.Slice.slicePlaces (Builtin.Slice.sliceAdjust lo hi c (n : Int)).1 (Builtin.Slice.sliceAdjust lo hi c (n : Int)).2 c) s) : wpAny (model prog w) A (Builtin.Slice.sliceApplied (.ref sl) (pure (n : Int))) Q E s := by
  obtain ⟨os, hos, hcs, hds⟩ := id hs
  unfold Builtin.Slice.sliceApplied Builtin.Slice.sliceFields
  refine wpAny_bind (wpAny_bind (wpAny_field hos hds (x := vl) rfl (wpAny_bind (wpAny_field hos hds (x := vu) rfl (wpAny_bind (wpAny_field hos hds (x := .int c t) rfl (wpAny_pure ?_)))))))
  refine wpAny_bind (HT.slicePart_ (.int c t) ?_)
  show wpAny _ _ (if (c == 0) = true then _ else _) _ _ s
  rw [if_neg (by simpa using hc)]
  refine wpAny_bind (HT.slicePart_ pl (wpAny_bind (HT.slicePart_ pu (wpAny_bind (wpAny_pure ?_)))))
  exact wpAny_pure h
theorem getItem_tuple_step {t sl : Addr} {items : Array Value} {vl vu : Value} {lo hi : Option Int} {c : Int} {tk : Tok} {Q : Value → Shared → Prop} (ht : IsTup s.heap t items) (hs : s.heap.IsSliceOf sl vl vu (.int c tk)) (pl : IsPart vl lo) (pu : IsPart vu hi)
    (hc : 2 ≤ c) (hsz : (ksT items.size lo hi c).length ≤ sizeLine)
    (h : Q (.ref s.heap.objs.size) { s with heap := s.heap.push { cls := .type "tuple", data := .seq ((ksT items.size lo hi c).filterMap (items[·]?)).toArray } }) :
    wpAny (model prog w) A (getItem (.ref t) (.ref sl)) Q E s := by
  have htake : sizeOk (.seq ((ksT items.size lo hi c).filterMap (items[·]?)).toArray) := by
    show ((ksT items.size lo hi c).filterMap (items[·]?)).toArray.size ≤ sizeLine
    rw [List.size_toArray]
    exact Nat.le_trans (List.length_filterMap_le _ _) hsz
  obtain ⟨os, hos, hcs, hds⟩ := id hs
  have hTs : s.TypeIs (.ref sl) "slice" := ⟨os, hos, hcs⟩
  unfold getItem
  try with_reducible refine wpAny_holding ?_
  first | refine wpAny_bind (wpAny_pure ?_) | skip
  refine wpAny_bind (wpAny_sequenceKey ht.typeIs (by decide) ?_)
  refine wpAny_bind (wpAny_callSpecial?_slot (name := Str.ofString "__getitem__") ht.typeIs PyProof.Rows.slot_tuple_getitem
    (wpAny_call_entry PyProof.Rows.slot_tuple_getitem ht.typeIs entry_tuple_getitem ?_ (args_tuple_getitem _ _)))
  show wpAny _ _ (Builtin.Tuple.tupleItemsOf (.ref t) >>= _) _ _ s
  refine wpAny_bind (tupleItemsOf_ ht ?_)
  refine wpAny_bind (wpAny_typeOf hTs ?_)
  rw [if_pos (by decide)]
  refine wpAny_bind (sliceApplied_step hs pl pu (by omega) ?_)
  have hno : ¬ (((Builtin.Slice.sliceAdjust lo hi c (items.size : Int)).1 == 0 && c == 1 && Builtin.Slice.slicePlaces (Builtin.Slice.sliceAdjust lo hi c (items.size : Int)).1 (Builtin.Slice.sliceAdjust lo hi c (items.size : Int)).2 c == items.size) = true) := by
    intro q
    rw [Bool.and_eq_true, Bool.and_eq_true] at q
    have q1 : c = 1 := eq_of_beq q.1.2
    omega
  show wpAny _ _ (if ((Builtin.Slice.sliceAdjust lo hi c (items.size : Int)).1 == 0 && c == 1 && Builtin.Slice.slicePlaces (Builtin.Slice.sliceAdjust lo hi c (items.size : Int)).1 (Builtin.Slice.sliceAdjust lo hi c (items.size : Int)).2 c == items.size) = true then _ else _) _ _ s
  rw [if_neg hno]
  have e : ((List.range (Builtin.Slice.slicePlaces (Builtin.Slice.sliceAdjust lo hi c (items.size : Int)).1 (Builtin.Slice.sliceAdjust lo hi c (items.size : Int)).2 c)).filterMap fun (k : Nat) => items[((Builtin.Slice.sliceAdjust lo hi c (items.size : Int)).1 + (k : Int) * c).toNat]?) = (ksT items.size lo hi c).filterMap (items[·]?) := by
    unfold ksT
    rw [List.filterMap_map]
    rfl
  rw [e]
  first
    | exact wpAny_bind (m := Builtin.Tuple.tupleExact _) (wpAny_newObj_type (wpAny_pure ⟨_, rfl, wpAny_pure h⟩) htake)
    | exact wpAny_bind (m := Builtin.Tuple.tupleExact _) (wpAny_newObj_type (wpAny_bind (wpAny_pure (wpAny_pure ⟨_, rfl, wpAny_pure h⟩))) htake)
    | exact wpAny_bind (wpAny_bind (m := Builtin.Tuple.tupleExact _) (wpAny_newObj_type (wpAny_pure (wpAny_pure ⟨_, rfl, wpAny_pure h⟩)) htake))
    | exact wpAny_bind (wpAny_bind (m := Builtin.Tuple.tupleExact _) (wpAny_newObj_type (wpAny_pure ⟨_, rfl, wpAny_pure h⟩) htake))
end
theorem Vals.pickN {xs : List V} {its : List Value} (r : Vals xs its) : ∀ ks : List Nat, Vals (ks.filterMap (xs[·]?)) (ks.filterMap (its[·]?))
  | [] => .nil
  | k :: ks => by
    have ih := Vals.pickN r ks
    have hl := r.length
    rw [List.filterMap_cons, List.filterMap_cons]
    by_cases hk : k < xs.length
    · obtain ⟨u, hu, ru⟩ := r.get (List.getElem?_eq_getElem hk)
      rw [List.getElem?_eq_getElem hk, hu]
      exact .cons ru ih
    · rw [List.getElem?_eq_none (by omega), List.getElem?_eq_none (by omega)]
      exact ih
def ksL (n : Nat) (lo hi : Option Int) (c : Int) : List Nat := sliceRange (sliceBounds lo hi (some c) n).1 (sliceBounds lo hi (some c) n).2.1 (sliceBounds lo hi (some c) n).2.2
/-- t[lo:hi:c] of a tuple, xs[lo:hi:c] of a list -/
def rSlS (K : PySem.W.Frag) (c : Int) : V → Option Int → Option Int → Hp → VK → Prop := fun x lo hi H Q =>
  (∃ a xs, x = .ref a ∧ SqT K H a xs ∧ (ksT xs.length lo hi c).length ≤ sizeLine ∧ ∀ p, H p = none → Q (.ref p) (upd H p (.tup ((ksT xs.length lo hi c).filterMap (xs[·]?))))) ∨
  (∃ a xs, x = .ref a ∧ SqL K H a xs ∧ ∀ p, H p = none → Q (.ref p) (upd H p (.lst ((ksL xs.length lo hi c).filterMap (xs[·]?)))))
theorem arr_get (its : List Value) : (fun (x : Nat) => its.toArray[x]?) = fun (x : Nat) => its[x]? := by funext x; simp
theorem pe_sliceS {X : Cx} {e : Expr} {te : TE} {lo hi : Option Expr} {tl th : TO} {pos p2 cp : Pos} {j : Nat} {c : Int} (hc : 2 ≤ c) (he : PE X e te) (hl : PO X lo tl) (hu : PO X hi th) : PE X (.Subscript e (.Slice lo hi (some (.Constant (.int c) j cp)) p2) pos) (tSl (rSlS X.K c) te tl th) := by
  refine ⟨fun pins s σ H Q I h => ?_⟩
  refine Subscript_ (thn (he.run pins s σ H _ I h) fun v s1 ⟨x, H1, I1, r1, q1⟩ => ?_)
  have hst : PO X (some (.Constant (.int c) j cp)) (tPart (tC (.int c))) := po_some pe_int
  refine wpAny_Slice (thn (hl.run pins s1 σ H1 _ I1 q1) fun vl s2 ⟨l, H2, I2, pl, q2⟩ => thn (hu.run pins s2 σ H2 _ I2 q2) fun vu s3 ⟨u, H3, I3, pu, q3⟩ => ?_)
  refine thn (hst.run pins s3 σ H3 (fun o H4 => o = some c ∧ H4 = H3) I3 ⟨c, rfl, rfl, rfl⟩) fun vs s4 ⟨o, H4, I4, ps, eo, e4⟩ => ?_
  subst eo e4
  have I5 : Inv X pins σ H4 { s4 with heap := s4.heap.push { cls := .type "slice", data := .fields #[vl, vu, vs] } } := I4.kept (t' := s4.toks) fun b ob q => Heap.get?_push_of_some _ q
  show wpAny (model X.prog X.w) X.A (subscriptTail e (.Slice lo hi (some (.Constant (.int c) j cp)) p2) v (.ref s4.heap.objs.size)) (EP X pins σ Q) X.xe { s4 with heap := s4.heap.push { cls := .type "slice", data := .fields #[vl, vu, vs] } }
  rcases q3 with ⟨a, xs, rfl, hx, hz1, q⟩ | ⟨a, xs, rfl, hx, q⟩
  · cases r1
    obtain ⟨its, r, ht, hz⟩ := I5.tuple hx
    have hlen : its.toArray.size = xs.length := by rw [List.size_toArray]; exact r.length.symm
    obtain ⟨tk, rfl⟩ : ∃ tk, vs = .int c tk := by cases ps; exact ⟨_, rfl⟩
    refine tail_any (ops := [.ref a, .ref s4.heap.objs.size]) ht.typeIs (PyProof.Rows.slot_tuple_getitem.lookup) ?_ (by with_unfolding_all rfl)
    refine getItem_tuple_step ht (Heap.IsSliceOf.new _ vl vu _) pl pu hc (by rw [hlen]; exact hz1) ?_
    rw [hlen, arr_get]
    refine ⟨.ref _, _, I5.laid (t' := s4.toks) (o := .tup ((ksT xs.length l u c).filterMap (xs[·]?))) (fun b ob q => Heap.get?_push_of_some _ q) (Nat.le_refl _) ?_, rfl, q _ (I5.hok.fresh (Nat.le_refl _))⟩
    exact ⟨Nat.le_trans (List.length_filterMap_le _ _) hz1, _, Vals.pickN r _, IsTup.new _ _⟩
  · cases r1
    obtain ⟨its, r, ht, hz⟩ := I5.list hx
    have hlen : its.toArray.size = xs.length := by rw [List.size_toArray]; exact r.length.symm
    refine tail_any (ops := [.ref a, .ref s4.heap.objs.size]) ht.isList.typeIs (PySem.slot_list_getitem.lookup) ?_ (by with_unfolding_all rfl)
    refine wpAny_getItem_list_slice ht.isList (Heap.IsSliceOf.new _ vl vu vs) pl pu ps (by intro q; injection q with q; omega) ?_ (by rw [hlen]; exact hz)
    have e1 : slicePick its.toArray l u (some c) = ((ksL xs.length l u c).filterMap (its[·]?)).toArray := by
      unfold slicePick ksL
      rw [hlen, arr_get]
    have hle := slicePick_size_le its.toArray l u (some c)
    rw [e1, List.size_toArray, hlen] at hle
    rw [e1]
    have hv := Vals.pickN r (ksL xs.length l u c)
    refine ⟨.ref _, _, I5.laid (t' := s4.toks) (o := .lst ((ksL xs.length l u c).filterMap (xs[·]?))) (fun b ob q => Heap.get?_push_of_some _ q) (Nat.le_refl _) ?_, rfl, q _ (I5.hok.fresh (Nat.le_refl _))⟩
    exact ⟨by rw [hv.length]; exact Nat.le_trans hle hz, _, 0, hv, Heap.get?_push_size _ rfl⟩
/-- the items at the places told -/
def picks (ks : List Nat) (xs : List D) : List D := ks.filterMap (xs[·]?)
theorem RepL.pickN {K : PySem.W.Frag} {Fz : Addr → Prop} {H : Hp} {xs : List D} {vs : List V} (r : RepL K Fz H xs vs []) : ∀ ks : List Nat, RepL K Fz H (picks ks xs) (ks.filterMap (vs[·]?)) []
  | [] => .nil
  | k :: ks => by
    have ih := RepL.pickN r ks
    have hl := r.length
    unfold picks at ih ⊢
    rw [List.filterMap_cons, List.filterMap_cons]
    by_cases hk : k < xs.length
    · obtain ⟨u, hu, ru⟩ := r.get0 (List.getElem?_eq_getElem hk)
      rw [List.getElem?_eq_getElem hk, hu]
      exact .cons (f := []) (g := []) ru ih
    · rw [List.getElem?_eq_none (by omega), List.getElem?_eq_none (by omega)]
      exact ih
def stepF (lo hi : Option Int) (c : Int) : D → Option D
  | .tup xs => match Nat.ble (ksT xs.length lo hi c).length LN with
    | true => some (.tup (picks (ksT xs.length lo hi c) xs))
    | false => none
  | .rol xs => some (.lst true (picks (ksL xs.length lo hi c) xs))
  | .lst _ xs => match xs.all imm with
    | true => some (.lst true (picks (ksL xs.length lo hi c) xs))
    | false => none
  | _ => none
def mSlS (o1 : Opd) (lo hi : Option (M D)) (c : Int) : M D := fun st => match o1.run st with
  | some (r1, s1) => match mPart lo s1 with
    | some (l, s2) => match mPart hi s2 with
      | some (h, s3) => match o1.val r1 s3 with
        | some a => match stepF l h c a with
          | some z => some (z, s3)
          | none => none
        | none => none
      | none => none
    | none => none
  | none => none
section
variable {Γ : Gam} {Φ : GCx → Prop}
theorem se_slS {e : Expr} {lo hi : Option Expr} {o1 : Opd} {ml mh : Option (M D)} {pos p2 cp : Pos} {j : Nat} {c : Int} (he : SO Γ Φ e o1) (hl : SP Γ Φ lo ml) (hh : SP Γ Φ hi mh) (hc : 2 ≤ c := by decide) : SE Γ Φ (.Subscript e (.Slice lo hi (some (.Constant (.int c) j cp)) p2) pos) (mSlS o1 ml mh c) := fun X o =>
  pe_imp (pe_sliceS hc (he X o) (hl X o) (hh X o)) fun σ H Q q => by
    obtain ⟨Fz, fp, st, C, d, st', e, k⟩ := q
    unfold mSlS at e
    split at e
    · rename_i r1 s1 h1
      split at e
      · rename_i l s2 h2
        split at e
        · rename_i hh s3 h3
          split at e
          · rename_i a ha
            split at e
            · rename_i z hz
              cases e
              refine rdO.run (P := []) (PV := []) C rfl h1 fun v H1 Fz1 fp1 T TV hT C1 g1 k1 => ?_
              refine rdP.run (P := T) (PV := TV) C1 hT h2 fun H2 Fz2 fp2 C2 g2 => ?_
              refine rdP.run (P := T) (PV := TV) C2 hT h3 fun H3 Fz3 fp3 C3 g3 => ?_
              obtain ⟨fa, ra, _⟩ := k1 _ _ _ [] [] _ _ rfl C3 ha
              have g := (g1.trans g2).trans g3
              unfold stepF at hz
              split at hz
              · rename_i xs
                split at hz
                · rename_i hb
                  cases hz
                  obtain ⟨p, vs, rfl, hp, r⟩ := ra.tupl
                  have hln := r.length
                  rw [hln] at hb k
                  exact .inl ⟨p, vs, rfl, .inl (.inl hp), by rw [← LN_eq]; exact Nat.le_of_ble_eq_true hb, fin_tup k hT C3 g (RepL.pickN r _)⟩
                · cases hz
              · cases hz
                cases ra with
                | rol q r =>
                  have hln := r.length
                  rw [hln] at k
                  exact .inr ⟨_, _, rfl, q.sq, fin_lst k hT C3 g (RepL.pickN r _)⟩
              · split at hz
                · rename_i hi
                  cases hz
                  obtain ⟨p, vs, f', rfl, hp, r, _⟩ := ra.lst
                  have := r.imm hi
                  subst this
                  have hln := r.length
                  rw [hln] at k
                  exact .inr ⟨p, vs, rfl, .inl (.inl hp), fin_lst k hT C3 g (RepL.pickN r _)⟩
                · cases hz
              · cases hz
            · cases e
          · cases e
        · cases e
      · cases e
    · cases e
end

/-! ### len(set(xs)) -/
def udl : List Int → List Int
  | [] => []
  | x :: l => if x ∈ l then udl l else x :: udl l
theorem udl_mem : ∀ {l : List Int} {x : Int}, x ∈ udl l ↔ x ∈ l
  | [], x => by simp [udl]
  | y :: l, x => by
    unfold udl
    by_cases h : y ∈ l
    · rw [if_pos h, udl_mem]
      constructor
      · exact fun h' => List.mem_cons_of_mem _ h'
      · intro h'
        rcases List.mem_cons.mp h' with rfl | h'
        · exact h
        · exact h'
    · rw [if_neg h, List.mem_cons, List.mem_cons, udl_mem]
theorem udl_nodup : ∀ l : List Int, (udl l).Nodup
  | [] => .nil
  | y :: l => by
    unfold udl
    by_cases h : y ∈ l
    · rw [if_pos h]; exact udl_nodup l
    · rw [if_neg h]; exact List.nodup_cons.mpr ⟨fun h' => h (udl_mem.mp h'), udl_nodup l⟩
theorem udl_of : ∀ {l : List Int}, l.Nodup → udl l = l
  | [], _ => rfl
  | y :: l, h => by
    have h' := List.nodup_cons.mp h
    unfold udl
    rw [if_neg h'.1, udl_of h'.2]
theorem sub_le : ∀ {l S : List Int}, l.Nodup → (∀ x ∈ l, x ∈ S) → l.length ≤ S.length
  | [], _, _, _ => by simp
  | x :: l, S, nd, h => by
    have hx := h x (List.mem_cons_self ..)
    have nd' := List.nodup_cons.mp nd
    have hp := (List.perm_cons_erase hx).length_eq
    have := sub_le nd'.2 (S := S.erase x) fun y hy => (List.mem_erase_of_ne (show y ≠ x from fun e => nd'.1 (by rw [← e]; exact hy))).mpr (h y (List.mem_cons_of_mem _ hy))
    simp only [List.length_cons] at hp ⊢
    omega
def tLenSetA (K : PySem.W.Frag) (ta : TE) : TE := fun σ H Q => ta σ H fun x H1 => ∃ (l : Addr) (ns : List Int), x = .ref l ∧ ns.length ≤ 4000 ∧ (SqT K H1 l (ns.map V.int) ∨ (SqL K H1 l (ns.map V.int) ∧ ns.Nodup)) ∧ Q (.int ((udl ns).length : Nat)) H1
theorem pe_lenSetA {X : Cx} {a : Expr} {ta : TE} {p p2 q pos : Pos} (hg : Gl X "len") (hm : X.mg "len" = none) (hg2 : Gl X "set") (hm2 : X.mg "set" = none) (ha : PE X a ta) (hc : X.calm = true)
    (na : starEach [a] X.env = (false, eval a X.env) :: starEach [] X.env) : PE X (.Call (.Name "len" p) [.Call (.Name "set" p2) [a] [] q] [] pos) (tLenSetA X.K ta) := by
  refine ⟨fun pins s σ H Q I h => ?_⟩
  refine Call_ (ld_blt I hg hm boot_len ?_)
  refine PyProof.Rows.callWith_builtin1 (PyProof.Rows.args_cons ?_ rfl) rfl rfl
  refine Call_ (ld_blt I hg2 hm2 boot_set ?_)
  refine PyProof.Rows.callWith_type1 (PyProof.Rows.args_cons (thn (ha.run pins s σ H _ I h) fun v s1 ⟨x, H1, I1, r1, q1⟩ => PyProof.Rows.args_nil ?_) na) na rfl
  obtain ⟨l, ns, rfl, hl4, hq, q1⟩ := q1
  cases r1
  rcases hq with hq | ⟨hq, hnd⟩
  · obtain ⟨its, r, ht, hz⟩ := I1.tuple hq
    obtain ⟨o, ho, hcl, n, hd⟩ := ht
    refine call_set_tupI ns (I1.ok.hd hc) ⟨o, ho, hcl, n, hd⟩ (by simpa using intsAre_of r) (by unfold scanBound; omega) fun h' tk c hS hcn hk => ?_
    refine PyProof.Rows.args_nil ?_
    obtain ⟨o2, es, ep, t, ho2, hex, hd2, hgood, hnd, hmem, hsz, hf, hn, _, _⟩ := hS
    have I2 : Inv X pins σ H1 { s1 with heap := h', toks := tk } := I1.kept fun b o e => hk b o e
    have hlen : es.size = (udl ns).length := by
      have m1 : ∀ k, k ∈ es.toList.map keyOf ↔ k ∈ udl ns := fun k => by
        rw [← hmem k, udl_mem]; simp
      have a1 := sub_le hnd (S := udl ns) fun k hk => (m1 k).mp hk
      have a2 := sub_le (udl_nodup ns) (S := es.toList.map keyOf) fun k hk => (m1 k).mpr hk
      have e1 : (es.toList.map keyOf).length = es.size := by simp
      rw [e1] at a1 a2
      omega
    exact call_len_set ho2 hex hd2 hf (by have := hsz; unfold scanBound at this; omega) ⟨.int (udl ns).length, H1, I2.tok _, ⟨_, by rw [hlen]⟩, q1⟩
  · obtain ⟨its, r, pl, hz⟩ := I1.list hq
    have hlen : its.toArray.size = ns.length := by rw [List.size_toArray, ← r.length, List.length_map]
    refine call_set_list (I1.ok.hd hc) pl.isList (by simpa using intsAre_of r) (by rw [hlen]; unfold scanBound; omega) fun h' tk hS hk => ?_
    refine PyProof.Rows.args_nil ?_
    rw [hlen, RZ.firstMet_nodup hnd ns.length (Nat.le_refl _), List.take_length] at hS
    obtain ⟨o, es, ep, t, ho, hex, hd, _, _, _, hf, hn⟩ := hS
    have I2 : Inv X pins σ H1 { s1 with heap := h', toks := tk } := I1.kept fun b o e => hk b o (Heap.lt_size e) e
    rw [udl_of hnd] at q1
    exact call_len_set ho hex hd hf (by rw [hn] <;> omega) ⟨.int ns.length, H1, I2.tok _, ⟨_, by rw [hn]⟩, q1⟩
def lenSetF : D → Option D
  | .tup xs => match toInts xs with
    | some l => match Nat.ble l.length 4000 with
      | true => some (.int ((udl l).length : Nat))
      | false => none
    | none => none
  | .lst _ xs => match toInts xs with
    | some l => match Nat.ble l.length 4000 && decide l.Nodup with
      | true => some (.int ((udl l).length : Nat))
      | false => none
    | none => none
  | _ => none
section
variable {Γ : Gam} {Φ : GCx → Prop}
theorem se_lenSet {a : Expr} {o1 : Opd} {p p2 q pos : Pos} (hb : ∀ g, Φ g → g.mg "len" = none) (hb2 : ∀ g, Φ g → g.mg "set" = none) (ha : SO Γ Φ a o1) (hg : gGl Γ.sc "len" = true := by rfl) (hg2 : gGl Γ.sc "set" = true := by rfl) (ns : NoStar a := by intro _ _; rfl) :
    SE Γ Φ (.Call (.Name "len" p) [.Call (.Name "set" p2) [a] [] q] [] pos) (m1 o1 lenSetF) := fun X o =>
  pe_imp (pe_lenSetA (o.gl hg) (hb _ o.phi) (o.gl hg2) (hb2 _ o.phi) (ha X o) o.calm (ns _ _)) fun σ H Q q =>
    one (r := fun x H Q => ∃ (l : Addr) (ns : List Int), x = .ref l ∧ ns.length ≤ 4000 ∧ (SqT X.K H l (ns.map V.int) ∨ (SqL X.K H l (ns.map V.int) ∧ ns.Nodup)) ∧ Q (.int ((udl ns).length : Nat)) H) (f := lenSetF) (by
      intro Fz H fp σ s T TV Fz2 H2 fp2 a x fa z Q e hl C g ra k
      unfold lenSetF at e
      split at e
      · split at e
        · rename_i l hl'
          split at e
          · rename_i hb
            cases e
            obtain ⟨b, vs, rfl, hp, rl⟩ := ra.tupl
            have := toInts_map hl' rl
            subst this
            exact ⟨b, l, rfl, Nat.le_of_ble_eq_true hb, .inl (.inl (.inl hp)), fin_atom k hl C g (.int _)⟩
          · cases e
        · cases e
      · split at e
        · rename_i l hl'
          split at e
          · rename_i hb
            cases e
            simp only [Bool.and_eq_true, decide_eq_true_eq] at hb
            obtain ⟨b, vs, f', rfl, hp, rl, _⟩ := ra.lst
            have := toInts_map hl' rl
            subst this
            exact ⟨b, l, rfl, Nat.le_of_ble_eq_true hb.1, .inr ⟨.inl (.inl hp), hb.2⟩, fin_atom k hl C g (.int _)⟩
          · cases e
        · cases e
      · cases e) q
end
end Va
/-! Pl0: what the program's functions compute (printed by gen.py) -/
namespace Pl
open Va
def m_is_int : M Fl := (mRet (mD (mAnd (mB (m1 (.v 0) (isiF .int))) (mNot (mB (m1 (.v 0) (isiF .bool)))))))
def f_is_int : Fn := runD 1 1 (fun i => ([true] : List Bool).getD i false) (m_is_int)
def m_is_in (c_is_int : Fn) : M Fl := (mRet (mD (mAnd (mB (mCall c_is_int (mCons (mTake 0) mNil) [some 0])) (mB (mChain .LtE .LtE (.v 1) (.v 0) (.v 2))))))
def f_is_in (c_is_int : Fn) : Fn := runD 3 3 (fun i => ([true, true, true] : List Bool).getD i false) (m_is_in c_is_int)
def m_need_number (c_is_in : Fn) : M Fl := (mIf (mNot (mTru (mCall c_is_in (mCons (mTake 0) (mCons (mTake 1) (mCons (mTake 2) mNil))) [some 0, some 1, some 2]))) (fun _ => none) mNx)
def f_need_number (c_is_in : Fn) : Fn := runD 3 3 (fun i => ([true, true, true] : List Bool).getD i false) (m_need_number c_is_in)
def m_is_rising : M Fl := (mRet (m1 (.e (mLc (mZip (mCons (mVar 0) (mCons (mSl (.v 0) (some (mC (.int 1))) none) mNil))) (.t [1, 2]) mYes (m2 (.v 1) (.v 2) (cmpF .Lt)) [1, 2])) allF))
def f_is_rising : Fn := runD 3 1 (fun i => ([true] : List Bool).getD i false) (m_is_rising)
def m_is_bag (c_is_in c_is_rising : Fn) : M Fl := (mSeq (mIf (mOr (mNot (mTru (m1 (.v 0) (isiF .tuple)))) (mB (m2 (.e (m1 (.v 0) lenF)) (.e (mC (.int 2))) (cmpF .Lt)))) (mRet (mC (.bl false))) mNx) (mRet (mD (mAnd (mB (m1 (.e (mLc (mItems (mVar 0)) (.n 1) mYes (mCall c_is_in (mCons (mTake 1) (mCons (mC (.int 0)) (mCons (m2 (.e (mC (.int 60))) (.e (mC (.int 1))) subF) mNil))) [some 1, none, none]) [1])) allF)) (mB (mCall c_is_rising (mCons (mTake 0) mNil) [some 0]))))))
def f_is_bag (c_is_in c_is_rising : Fn) : Fn := runD 2 1 (fun i => ([true] : List Bool).getD i false) (m_is_bag c_is_in c_is_rising)
def m_need_bags (c_is_bag c_is_rising : Fn) : M Fl := (mSeq (mIf (mOr (mNot (mTru (m1 (.v 0) (isiF .tuple)))) (mOr (mB (m2 (.v 0) (.e (mTup mNil)) (cmpF .Eq))) (mNot (mTru (m1 (.e (mLc (mItems (mVar 0)) (.n 1) mYes (mCall c_is_bag (mCons (mTake 1) mNil) [some 1]) [1])) allF))))) (fun _ => none) mNx) (mIf (mNot (mTru (mCall c_is_rising (mCons (mTake 0) mNil) [some 0]))) (fun _ => none) mNx))
def f_need_bags (c_is_bag c_is_rising : Fn) : Fn := runD 2 1 (fun i => ([true] : List Bool).getD i false) (m_need_bags c_is_bag c_is_rising)
def m_size_of : M Fl := (mRet (m2 (.e (mC (.int 1))) (.e (m1 (.e (mLc (mItems (mVar 0)) (.n 1) mYes (m2 (.v 1) (.e (m1 (.e (mC (.int 1))) negF)) ixF) [1])) maxF)) addF))
def f_size_of : Fn := runD 2 1 (fun i => ([true] : List Bool).getD i false) (m_size_of)
def m_shared_by : M Fl := (mSeq (mSet 2 (mDc (mItems (mVar 1)) (.n 3) mYes (mVar 3) (mC (.bl true)) [3])) (mRet (mLc (mItems (mVar 0)) (.n 3) (mB (m2 (.v 3) (.v 2) (cmpF .In))) (mVar 3) [3])))
def f_shared_by : Fn := runD 4 2 (fun i => ([true, true] : List Bool).getD i false) (m_shared_by)
def m_homes_of (c_size_of : Fn) : M Fl := (mSeq (mSet 1 (mLc (mRg1 (mCall c_size_of (mCons (mTake 0) mNil) [some 0])) (.n 4) mYes (mLst mNil) [4])) (mSeq (mFor (mEnum (mVar 0)) (.t [2, 3]) (mFor (mItems (mVar 3)) (.n 4) (mDo (mApp2 1 (mVar 4) (.v 2))))) (mRet (mTake 1))))
def f_homes_of (c_size_of : Fn) : Fn := runD 5 1 (fun i => ([true] : List Bool).getD i false) (m_homes_of c_size_of)
def m_reached_from : M Fl := (mSeq (mSet2 3 4 (mCons (mDict1 (mVar 2) (mC (.bl true))) (mCons (mLst (mCons (mVar 2) mNil)) mNil))) (mSeq (mWhile (mB (m2 (.v 4) (.e (mLst mNil)) (cmpF .NotEq))) (mFor (mItems (m2 (.v 0) (.e (mPop 4)) ixF)) (.n 5) (mFor (mItems (m2 (.v 1) (.v 5) ixF)) (.n 6) (mIf (mB (m2 (.v 6) (.v 3) (cmpF .NotIn))) (mSeq (mStore 3 (mVar 6) (mC (.bl true))) (mDo (mApp 4 (mVar 6)))) mNx))) 100000) (mRet (mTake 3))))
def f_reached_from : Fn := runD 7 3 (fun i => ([true, true, true] : List Bool).getD i false) (m_reached_from)
def m_bar_of (c_homes_of c_shared_by c_reached_from c_ring_of : Fn) : M Fl := (mSeq (mSet 1 (mCall c_homes_of (mCons (mTake 0) mNil) [some 0])) (mSeq (mFor (mEnum (mVar 1)) (.t [2, 3]) (mIf (mB (m2 (.v 3) (.e (mLst mNil)) (cmpF .Eq))) (mRet (mTup (mCons (mC (.str "bead")) (mCons (mVar 2) mNil)))) mNx)) (mSeq (mFor (mEnum (mVar 0)) (.t [4, 5]) (mFor (mRg1 (mVar 4)) (.n 6) (mIf (mB (m2 (.e (m1 (.e (mCall c_shared_by (mCons (m2 (.v 0) (.v 6) ixF) (mCons (mTake 5) mNil)) [none, some 5])) lenF)) (.e (mC (.int 1))) (cmpF .Gt))) (mRet (mTup (mCons (mC (.str "two")) (mCons (mVar 6) (mCons (mVar 4) mNil))))) mNx))) (mSeq (mIf (mB (m2 (.e (m1 (.e (mCall c_reached_from (mCons (mTake 0) (mCons (mTake 1) (mCons (mC (.int 0)) mNil))) [some 0, some 1, none])) lenF)) (.e (m1 (.v 0) lenF)) (cmpF .Lt))) (mRet (mTup (mCons (mC (.str "apart")) (mCons (m1 (.e (m1 (.e (mCall c_reached_from (mCons (mTake 0) (mCons (mTake 1) (mCons (mC (.int 0)) mNil))) [some 0, some 1, none])) sortLF)) tupcF) mNil)))) mNx) (mSeq (mIf (mB (m2 (.e (m1 (.e (mLc (mItems (mVar 0)) (.n 7) mYes (m2 (.e (m1 (.v 7) lenF)) (.e (mC (.int 1))) subF) [7])) sumF)) (.e (m2 (.e (m1 (.v 1) lenF)) (.e (mC (.int 1))) subF)) (cmpF .Gt))) (mRet (mTup (mCons (mC (.str "ring")) (mCons (m1 (.e (mCall c_ring_of (mCons (mTake 0) (mCons (mTake 1) mNil)) [some 0, some 1])) tupcF) mNil)))) mNx) (mRet (mC .non)))))))
def f_bar_of (c_homes_of c_shared_by c_reached_from c_ring_of : Fn) : Fn := runD 8 1 (fun i => ([true] : List Bool).getD i false) (m_bar_of c_homes_of c_shared_by c_reached_from c_ring_of)
def m_need_family (c_need_bags c_bar_of : Fn) : M Fl := (mSeq (mDo (mCall c_need_bags (mCons (mTake 0) mNil) [some 0])) (mIf (mB (m2 (.e (mCall c_bar_of (mCons (mTake 0) mNil) [some 0])) (.e (mC .non)) (cmpF .IsNot))) (fun _ => none) mNx))
def f_need_family (c_need_bags c_bar_of : Fn) : Fn := runD 1 1 (fun i => ([true] : List Bool).getD i false) (m_need_family c_need_bags c_bar_of)
def m_need_two (c_need_family c_size_of : Fn) : M Fl := (mSeq (mDo (mCall c_need_family (mCons (mTake 0) mNil) [some 0])) (mSeq (mDo (mCall c_need_family (mCons (mTake 1) mNil) [some 1])) (mIf (mB (m2 (.e (mCall c_size_of (mCons (mTake 0) mNil) [some 0])) (.e (mCall c_size_of (mCons (mTake 1) mNil) [some 1])) (cmpF .NotEq))) (fun _ => none) mNx)))
def f_need_two (c_need_family c_size_of : Fn) : Fn := runD 2 2 (fun i => ([true, true] : List Bool).getD i false) (m_need_two c_need_family c_size_of)
def m_is_family (c_is_bag c_is_rising c_bar_of : Fn) : M Fl := (mSeq (mIf (mOr (mNot (mTru (m1 (.v 0) (isiF .tuple)))) (mOr (mB (m2 (.v 0) (.e (mTup mNil)) (cmpF .Eq))) (mNot (mTru (m1 (.e (mLc (mItems (mVar 0)) (.n 1) mYes (mCall c_is_bag (mCons (mTake 1) mNil) [some 1]) [1])) allF))))) (mRet (mC (.bl false))) mNx) (mRet (mD (mAnd (mB (mCall c_is_rising (mCons (mTake 0) mNil) [some 0])) (mB (m2 (.e (mCall c_bar_of (mCons (mTake 0) mNil) [some 0])) (.e (mC .non)) (cmpF .Is)))))))
def f_is_family (c_is_bag c_is_rising c_bar_of : Fn) : Fn := runD 2 1 (fun i => ([true] : List Bool).getD i false) (m_is_family c_is_bag c_is_rising c_bar_of)
def m_bar (c_need_bags c_bar_of : Fn) : M Fl := (mSeq (mDo (mCall c_need_bags (mCons (mTake 0) mNil) [some 0])) (mRet (mCall c_bar_of (mCons (mTake 0) mNil) [some 0])))
def f_bar (c_need_bags c_bar_of : Fn) : Fn := runD 1 1 (fun i => ([true] : List Bool).getD i false) (m_bar c_need_bags c_bar_of)
def m_beads (c_need_family c_size_of : Fn) : M Fl := (mSeq (mDo (mCall c_need_family (mCons (mTake 0) mNil) [some 0])) (mRet (mCall c_size_of (mCons (mTake 0) mNil) [some 0])))
def f_beads (c_need_family c_size_of : Fn) : Fn := runD 1 1 (fun i => ([true] : List Bool).getD i false) (m_beads c_need_family c_size_of)
def m_degrees (c_need_family c_homes_of : Fn) : M Fl := (mSeq (mDo (mCall c_need_family (mCons (mTake 0) mNil) [some 0])) (mRet (m1 (.e (mLc (mItems (mCall c_homes_of (mCons (mTake 0) mNil) [some 0])) (.n 1) mYes (m1 (.v 1) lenF) [1])) tupcF)))
def f_degrees (c_need_family c_homes_of : Fn) : Fn := runD 2 1 (fun i => ([true] : List Bool).getD i false) (m_degrees c_need_family c_homes_of)
def m_sizes (c_need_family : Fn) : M Fl := (mSeq (mDo (mCall c_need_family (mCons (mTake 0) mNil) [some 0])) (mRet (m1 (.e (m1 (.e (mLc (mItems (mVar 0)) (.n 1) mYes (m1 (.v 1) lenF) [1])) sortLF)) tupcF)))
def f_sizes (c_need_family : Fn) : Fn := runD 2 1 (fun i => ([true] : List Bool).getD i false) (m_sizes c_need_family)
def m_one_bag (c_need_number : Fn) : M Fl := (mSeq (mDo (mCall c_need_number (mCons (mTake 0) (mCons (mC (.int 2)) (mCons (mC (.int 60)) mNil))) [some 0, none, none])) (mRet (mTup (mCons (m1 (.v 0) (rg1F .tup)) mNil))))
def f_one_bag (c_need_number : Fn) : Fn := runD 1 1 (fun i => ([true] : List Bool).getD i false) (m_one_bag c_need_number)
def m_rank (c_need_two : Fn) : M Fl := (mSeq (mDo (mCall c_need_two (mLate 0 (mCons (mTake 0) mNil)) [some 0, some 0])) (mRet (m2 (.e (m1 (.v 0) lenF)) (.e (mC (.int 1))) subF)))
def f_rank (c_need_two : Fn) : Fn := runD 1 1 (fun i => ([true] : List Bool).getD i false) (m_rank c_need_two)
def m__law_taken : M Fl := (mSeq (mIf (mB (m2 (.e (m2 (.v 0) (.e (mC (.int 3))) ixF)) (.e (mC (.int 0))) (cmpF .Gt))) (mSeq (mSet 3 (m2 (.e (m1 (.e (m2 (.v 0) (.e (mC (.int 3))) ixF)) intcF)) (.v 1) modF)) (mSeq (mStore 0 (mC (.int 3)) (m2 (.e (m2 (.v 0) (.e (mC (.int 3))) ixF)) (.v 1) fdivF)) (mRet (mTake 3)))) mNx) (mSeq (mStore 0 (mC (.int 1)) (m2 (.e (m2 (.v 0) (.e (mC (.int 1))) ixF)) (.e (mC (.int 1))) addF)) (mSeq (mIf (mB (m2 (.e (m2 (.v 0) (.e (mC (.int 1))) ixF)) (.e (m1 (.e (m2 (.v 0) (.e (mC (.int 0))) ixF)) lenF)) (cmpF .Gt))) (mSeq (mStore 0 (mC (.int 2)) (m2 (.e (m1 (.e (m2 (.e (m2 (.e (m2 (.v 0) (.e (mC (.int 2))) ixF)) (.e (mC (.int 48271))) mulF)) (.e (mC (.int 11))) addF)) intcF)) (.e (mC (.int 2147483647))) modF)) (mRet (m2 (.e (m1 (.e (m2 (.e (m2 (.v 0) (.e (mC (.int 2))) ixF)) (.e (mC (.int 7))) fdivF)) intcF)) (.v 1) modF))) mNx) (mSeq (mSet 2 (m2 (.e (m2 (.v 0) (.e (mC (.int 0))) ixF)) (.e (m2 (.e (m2 (.v 0) (.e (mC (.int 1))) ixF)) (.e (mC (.int 1))) subF)) ixF)) (mSeq (mStore 0 (mC (.int 2)) (m2 (.e (m1 (.e (m2 (.e (m2 (.e (m2 (.e (m2 (.v 0) (.e (mC (.int 2))) ixF)) (.e (mC (.int 48271))) mulF)) (.v 2) addF)) (.e (mC (.int 11))) addF)) intcF)) (.e (mC (.int 2147483647))) modF)) (mSeq (mIf (mB (m2 (.v 2) (.e (m2 (.e (mC (.int 10))) (.e (mC (.int 18))) powF)) (cmpF .GtE))) (mStore 0 (mC (.int 3)) (m2 (.v 2) (.v 1) fdivF)) mNx) (mRet (m2 (.e (m1 (.v 2) intcF)) (.v 1) modF))))))))
def f__law_taken : Fn := runD 4 2 (fun i => ([true, true] : List Bool).getD i false) (m__law_taken)
def m__law_pick (c__law_taken : Fn) : M Fl := (mRet (m2 (.v 1) (.e (mCall c__law_taken (mCons (mTake 0) (mCons (m1 (.v 1) lenF) mNil)) [some 0, none])) ixF))
def f__law_pick (c__law_taken : Fn) : Fn := runD 2 2 (fun i => ([true, true] : List Bool).getD i false) (m__law_pick c__law_taken)
def m__law_alike (c__law_alike : Fn) : M Fl := (mSeq (mIf (mTru (m1 (.v 1) (isi2F .tuple .list))) (mSeq (mIf (mOr (mNot (mTru (m1 (.v 0) (isi2F .tuple .list)))) (mB (m2 (.e (m1 (.v 0) (isiF .list))) (.e (m1 (.v 1) (isiF .list))) (cmpF .NotEq)))) (mRet (mC (.bl false))) mNx) (mSeq (mIf (mB (m2 (.e (m1 (.v 0) lenF)) (.e (m1 (.v 1) lenF)) (cmpF .NotEq))) (mRet (mC (.bl false))) mNx) (mRet (m2 (.e (mLc (mRg1 (m1 (.v 1) lenF)) (.n 2) (mNot (mTru (mCall c__law_alike (mCons (m2 (.v 0) (.v 2) ixF) (mCons (m2 (.v 1) (.v 2) ixF) mNil)) [none, none]))) (mVar 2) [2])) (.e (mLst mNil)) (cmpF .Eq))))) mNx) (mSeq (mIf (mOr (mB (m2 (.v 1) (.e (mC .non)) (cmpF .Is))) (mTru (m1 (.v 1) (isiF .str)))) (mRet (mD (mAnd (mB (m2 (.v 0) (.v 1) (cmpF .Eq))) (mB (m2 (.e (m1 (.v 0) (isiF .str))) (.e (m1 (.v 1) (isiF .str))) (cmpF .Eq)))))) mNx) (mRet (mD (mAnd (mB (m1 (.v 0) (isiF .int))) (mAnd (mB (m2 (.e (m1 (.v 0) (isiF .bool))) (.e (m1 (.v 1) (isiF .bool))) (cmpF .Eq))) (mB (m2 (.v 0) (.v 1) (cmpF .Eq)))))))))
def f__law_alike (c__law_alike : Fn) : Fn := runD 3 2 (fun i => ([true, true] : List Bool).getD i false) (m__law_alike c__law_alike)
def m__law_mixed (c__law_taken : Fn) : M Fl := (mSeq (mSet2 3 4 (mCons (m1 (.v 1) lstcF) (mCons (mLst mNil) mNil))) (mSeq (mFor (mRg1 (m1 (.v 3) lenF)) (.n 2) (mDo (mApp 4 (mPopAt 3 (mCall c__law_taken (mCons (mTake 0) (mCons (m1 (.v 3) lenF) mNil)) [some 0, none]))))) (mRet (mTake 4))))
def f__law_mixed (c__law_taken : Fn) : Fn := runD 5 2 (fun i => ([true, true] : List Bool).getD i false) (m__law_mixed c__law_taken)
def m__law_named : M Fl := (mRet (m1 (.e (m1 (.e (mLc (mItems (mVar 0)) (.n 2) mYes (m1 (.e (m1 (.e (mLc (mItems (mVar 2)) (.n 3) mYes (m2 (.v 1) (.v 3) ixF) [3])) sortLF)) tupcF) [2])) sortLF)) tupcF))
def f__law_named : Fn := runD 4 2 (fun i => ([true, true] : List Bool).getD i false) (m__law_named)
def m__law_family (c__law_pick c__law_taken c__law_mixed c__law_named : Fn) : M Fl := (mSeq (mSet2 4 5 (mCons (m2 (.e (mC (.int 2))) (.e (mCall c__law_taken (mCons (mTake 0) (mCons (m2 (.v 1) (.e (mC (.int 1))) subF) mNil)) [some 0, none])) addF) (mCons (mCall c__law_pick (mCons (mTake 0) (mCons (mLst (mCons (mC (.int 2)) (mCons (mC (.int 3)) (mCons (mC (.int 3)) (mCons (mC (.int 4)) (mCons (mC (.int 9)) mNil)))))) mNil)) [some 0, none]) mNil))) (mSeq (mSet 2 (mLst (mCons (mLst (mCons (mC (.int 0)) (mCons (mC (.int 1)) mNil))) mNil))) (mSeq (mFor (mRg2 (mC (.int 2)) (mVar 4)) (.n 3) (mIf (mB (m2 (.e (mCall c__law_taken (mCons (mTake 0) (mCons (mTake 5) mNil)) [some 0, some 5])) (.e (mC (.int 0))) (cmpF .Eq))) (mDo (mApp2 2 (mCall c__law_taken (mCons (mTake 0) (mCons (m1 (.v 2) lenF) mNil)) [some 0, none]) (.v 3))) (mDo (mApp 2 (mLst (mCons (mCall c__law_taken (mCons (mTake 0) (mCons (mTake 3) mNil)) [some 0, some 3]) (mCons (mVar 3) mNil))))))) (mRet (mCall c__law_named (mCons (mTake 2) (mCons (mCall c__law_mixed (mCons (mTake 0) (mCons (m1 (.v 4) (rg1F (.lst true))) mNil)) [some 0, none]) mNil)) [some 2, none])))))
def f__law_family (c__law_pick c__law_taken c__law_mixed c__law_named : Fn) : Fn := runD 6 2 (fun i => ([true, true] : List Bool).getD i false) (m__law_family c__law_pick c__law_taken c__law_mixed c__law_named)
def m__law_size : M Fl := (mRet (m2 (.e (mC (.int 1))) (.e (m1 (.e (mLc (mItems (mVar 0)) (.n 1) mYes (m2 (.v 1) (.e (m1 (.e (mC (.int 1))) negF)) ixF) [1])) maxF)) addF))
def f__law_size : Fn := runD 2 1 (fun i => ([true] : List Bool).getD i false) (m__law_size)
end Pl
/-! Pl1: the evaluator's words on told states (printed by genev.py) -/
namespace Pl
open Va L2 PySem
@[simp] theorem ev_mC (d : D) (st : S) : mC d st = (some (d, st)) := rfl
@[simp] theorem ev_mVar (i : Nat) (st : S) : mVar i st = (match st[i]? with
  | some (some d) => match imm d with
    | true => some (d, st)
    | false => some (frz d, st.set i (some (frz d)))
  | _ => none) := rfl
@[simp] theorem ev_m1 (o1 : Opd) (f : D → Option D) (st : S) : m1 o1 f st = (match o1.run st with
  | some (r1, s1) => match o1.val r1 s1 with
    | some a => match f a with
      | some z => some (z, s1)
      | none => none
    | none => none
  | none => none) := rfl
@[simp] theorem ev_m2 (o1 o2 : Opd) (f : D → D → Option D) (st : S) : m2 o1 o2 f st = (match o1.run st with
  | some (r1, s1) => match o2.run s1 with
    | some (r2, s2) => match o1.val r1 s2 with
      | some a => match o2.val r2 s2 with
        | some b => match f a b with
          | some z => some (z, s2)
          | none => none
        | none => none
      | none => none
    | none => none
  | none => none) := rfl
@[simp] theorem ev_mB (m : M D) (st : S) : mB m st = (match m st with
  | some (.bl b, s) => some (b, s)
  | _ => none) := rfl
@[simp] theorem ev_mD (m : M Bool) (st : S) : mD m st = (match m st with
  | some (b, s) => some (.bl b, s)
  | _ => none) := rfl
@[simp] theorem ev_mAnd (a b : M Bool) (st : S) : mAnd a b st = (match a st with
  | some (true, s) => b s
  | some (false, s) => some (false, s)
  | none => none) := rfl
@[simp] theorem ev_mOr (a b : M Bool) (st : S) : mOr a b st = (match a st with
  | some (true, s) => some (true, s)
  | some (false, s) => b s
  | none => none) := rfl
@[simp] theorem ev_mNot (a : M Bool) (st : S) : mNot a st = (match a st with
  | some (b, s) => some (!b, s)
  | none => none) := rfl
@[simp] theorem ev_mIte (c : M Bool) (a b : M D) (st : S) : mIte c a b st = (match c st with
  | some (true, s) => a s
  | some (false, s) => b s
  | none => none) := rfl
@[simp] theorem ev_mTru (m : M D) (st : S) : mTru m st = (match m st with
  | some (d, s) => match truD d with
    | some b => some (b, s)
    | none => none
  | none => none) := rfl
@[simp] theorem ev_mChain (op op' : CmpOp) (a b c : Opd) (st : S) : mChain op op' a b c st = (match a.run st with
  | some (r1, s1) => match b.run s1 with
    | some (r2, s2) => match a.val r1 s2, b.val r2 s2 with
      | some x, some y => match cmpF op x y with
        | some (.bl false) => some (.bl false, s2)
        | some (.bl true) => match c.run s2 with
          | some (r3, s3) => match b.val r2 s3, c.val r3 s3 with
            | some y', some z => match cmpF op' y' z with
              | some w => some (w, s3)
              | none => none
            | _, _ => none
          | none => none
        | _ => none
      | _, _ => none
    | none => none
  | none => none) := rfl
@[simp] theorem ev_mNil (st : S) : mNil st = (some ([], st)) := rfl
@[simp] theorem ev_mCons (m : M D) (r : M (List D)) (st : S) : mCons m r st = (match m st with
  | some (d, s) => match r s with
    | some (ds, s') => some (d :: ds, s')
    | none => none
  | none => none) := rfl
@[simp] theorem ev_mStar (m : M D) (r : M (List D)) (st : S) : mStar m r st = (match m st with
  | some (d, s) => match seqOf d with
    | some (_, xs) => match xs.all imm with
      | true => match r s with
        | some (ds, s') => some (xs ++ ds, s')
        | none => none
      | false => none
    | none => none
  | none => none) := rfl
@[simp] theorem ev_mTup (m : M (List D)) (st : S) : mTup m st = (match m st with
  | some (ds, s) => match Nat.ble ds.length LN with
    | true => some (.tup (ds.map frzA), s)
    | false => none
  | none => none) := rfl
@[simp] theorem ev_mLst (m : M (List D)) (st : S) : mLst m st = (match m st with
  | some (ds, s) => match Nat.ble ds.length LN with
    | true => some (.lst true ds, s)
    | false => none
  | none => none) := rfl
@[simp] theorem ev_mPart (m : Option (M D)) (st : S) : mPart m st = (match m with
  | none => some (none, st)
  | some m => match m st with
    | some (.int i, s) => some (some i, s)
    | _ => none) := rfl
@[simp] theorem ev_mSl (o1 : Opd) (lo hi : Option (M D)) (st : S) : mSl o1 lo hi st = (match o1.run st with
  | some (r1, s1) => match mPart lo s1 with
    | some (l, s2) => match mPart hi s2 with
      | some (h, s3) => match o1.val r1 s3 with
        | some a => match slF l h a with
          | some z => some (z, s3)
          | none => none
        | none => none
      | none => none
    | none => none
  | none => none) := rfl
@[simp] theorem ev_mTake (i : Nat) (st : S) : mTake i st = (match st[i]? with
  | some (some d) => match imm d with
    | true => some (d, st)
    | false => some (d, st.set i none)
  | _ => none) := rfl
@[simp] theorem ev_mCall (φ : Fn) (m : M (List D)) (b : Back) (st : S) : mCall φ m b st = (match m st with
  | some (ds, s) => match φ ds with
    | some (d, outs) => some (d, restore b ds outs s)
    | none => none
  | none => none) := rfl
@[simp] theorem ev_mNx (st : S) : mNx st = (some (.nx, st)) := rfl
@[simp] theorem ev_mSeq (a b : M Fl) (st : S) : mSeq a b st = (match a st with
  | some (.nx, s) => b s
  | r => r) := rfl
@[simp] theorem ev_mDo (m : M D) (st : S) : mDo m st = (match m st with
  | some (_, s) => some (.nx, s)
  | none => none) := rfl
@[simp] theorem ev_mRet (m : M D) (st : S) : mRet m st = (match m st with
  | some (d, s) => some (.ret d, s)
  | none => none) := rfl
@[simp] theorem ev_mIf (c : M Bool) (a b : M Fl) (st : S) : mIf c a b st = (match c st with
  | some (true, s) => a s
  | some (false, s) => b s
  | none => none) := rfl
@[simp] theorem ev_mSet (i : Nat) (m : M D) (st : S) : mSet i m st = (match m st with
  | some (d, s) => some (.nx, s.set i (some d))
  | none => none) := rfl
@[simp] theorem ev_mSet2 (i j : Nat) (m : M (List D)) (st : S) : mSet2 i j m st = (match m st with
  | some ([d, e], s) => some (.nx, (s.set i (some d)).set j (some e))
  | _ => none) := rfl
@[simp] theorem ev_mItems (m : M D) (st : S) : mItems m st = (match m st with
  | some (d, s) => match seqOf (frzA d) with
    | some (_, xs) => some (xs, s)
    | none => none
  | none => none) := rfl
@[simp] theorem ev_mEnum (m : M D) (st : S) : mEnum m st = (match mItems m st with
  | some (ds, s) => some (enumD 0 ds, s)
  | none => none) := rfl
@[simp] theorem ev_mRg1 (m : M D) (st : S) : mRg1 m st = (match m st with
  | some (.int n, s) => match smallI n with
    | true => some (rgD 0 n, s)
    | false => none
  | _ => none) := rfl
@[simp] theorem ev_mRg2 (m m' : M D) (st : S) : mRg2 m m' st = (match m st with
  | some (.int a, s) => match m' s with
    | some (.int b, s') => match smallI a && smallI b with
      | true => some (rgD a b, s')
      | false => none
    | _ => none
  | _ => none) := rfl
@[simp] theorem ev_mFor (mi : M (List D)) (t : Tgt) (b : M Fl) (st : S) : mFor mi t b st = (match mi st with
  | some (ds, s) => forL t b ds s
  | none => none) := rfl
@[simp] theorem ev_mYes (st : S) : mYes st = (some (true, st)) := rfl
@[simp] theorem ev_mApp (i : Nat) (m : M D) (st : S) : mApp i m st = (match isLst i st with
  | true => match m st with
    | some (d, s) => match s[i]? with
      | some (some (.lst true xs)) => match Nat.blt xs.length LN with
        | true => some (.non, s.set i (some (.lst true (xs ++ [d]))))
        | false => none
      | _ => none
    | none => none
  | false => none) := rfl
@[simp] theorem ev_mPop (i : Nat) (st : S) : mPop i st = (match st[i]? with
  | some (some (.lst true xs)) => match xs[xs.length - 1]? with
    | some y => some (y, st.set i (some (.lst true (xs.eraseIdx (xs.length - 1)))))
    | none => none
  | _ => none) := rfl
@[simp] theorem ev_mPopAt (i : Nat) (m : M D) (st : S) : mPopAt i m st = (match isLst i st with
  | true => match m st with
    | some (.int j, s) => match s[i]? with
      | some (some (.lst true xs)) => match smallI j with
        | true => match seqIndex? j xs.length with
          | some k => match xs[k]? with
            | some y => some (y, s.set i (some (.lst true (xs.eraseIdx k))))
            | none => none
          | none => none
        | false => none
      | _ => none
    | _ => none
  | false => none) := rfl
@[simp] theorem ev_mStore (i : Nat) (mk mv : M D) (st : S) : mStore i mk mv st = (match mv st with
  | some (d, s1) => match isBox i s1 with
    | true => match mk s1 with
      | some (k, s2) => match storeAt i k d s2 with
        | some s3 => some (.nx, s3)
        | none => none
      | none => none
    | false => none
  | none => none) := rfl
@[simp] theorem ev_mApp2 (i : Nat) (mk : M D) (a : Atm) (st : S) : mApp2 i mk a st = (match isLst i st with
  | true => match mk st with
    | some (.int j, s) => match s[i]?, a.get s with
      | some (some (.lst true xs)), some d => match ixN xs.length j with
        | some j => match xs[j]? with
          | some (.lst true ys) => match Nat.blt ys.length LN with
            | true => some (.non, s.set i (some (.lst true (xs.set j (.lst true (ys ++ [d]))))))
            | false => none
          | _ => none
        | none => none
      | _, _ => none
    | _ => none
  | false => none) := rfl
@[simp] theorem ev_mDict0 (st : S) : mDict0 st = (some (.dic true [], st)) := rfl
@[simp] theorem ev_mDict1 (mk mv : M D) (st : S) : mDict1 mk mv st = (match mk st with
  | some (k, s) => match mv s with
    | some (v, s') => match keyD k with
      | some _ => match imm v with
        | true => some (.dic true [(k, v)], s')
        | false => none
      | none => none
    | none => none
  | none => none) := rfl
@[simp] theorem ev_mZip (m : M (List D)) (st : S) : mZip m st = (match m st with
  | some ([a, b], s) => match frzA a, frzA b with
    | .tup xs, .tup ys => some (zipD xs ys, s)
    | .lst false xs, .lst false ys => some (zipD xs ys, s)
    | _, _ => none
  | _ => none) := rfl
@[simp] theorem ev_mLate (i : Nat) (r : M (List D)) (st : S) : mLate i r st = (match st[i]? with
  | some (some _) => match r st with
    | some (ds, s) => match mTake i s with
      | some (d, s') => some (d :: ds, s')
      | none => none
    | none => none
  | _ => none) := rfl
@[simp] theorem run_v (i : Nat) (st : S) : (Opd.v i).run st = (match st[i]? with
    | some (some _) => some (.non, st)
    | _ => none) := rfl
@[simp] theorem run_e (m : M D) (st : S) : (Opd.e m).run st = m st := rfl
@[simp] theorem val_v (i : Nat) (d : D) (st : S) : (Opd.v i).val d st = (match st[i]? with
    | some (some d) => some d
    | _ => none) := rfl
@[simp] theorem val_e (m : M D) (d : D) (st : S) : (Opd.e m).val d st = some d := rfl
@[simp] theorem ev_sub (i j : Int) : subF (.int i) (.int j) = some (.int (i - j)) := rfl
@[simp] theorem ev_add (i j : Int) : addF (.int i) (.int j) = some (.int (i + j)) := rfl
@[simp] theorem ev_fdiv (i j : Int) : fdivF (.int i) (.int j) = if 0 < j ∧ j.natAbs.log2 < 9000 then some (.int (i / j)) else none := rfl
@[simp] theorem ev_mod (i j : Int) : modF (.int i) (.int j) = if 0 < j then some (.int (i % j)) else none := rfl
@[simp] theorem ev_mul (i j : Int) : mulF (.int i) (.int j) = if i.natAbs.log2 + j.natAbs.log2 < 1000000 then some (.int (i * j)) else none := rfl
@[simp] theorem ev_pow (i j : Int) : powF (.int i) (.int j) = if 0 ≤ j ∧ j ≤ 1000000 ∧ i.natAbs < 2 ^ 64 then some (.int (i ^ j.toNat)) else none := rfl
@[simp] theorem ev_neg (i : Int) : negF (.int i) = some (.int (-i)) := rfl
@[simp] theorem ev_le (i j : Int) : cmpF .LtE (.int i) (.int j) = some (.bl (decide (i ≤ j))) := rfl
@[simp] theorem ev_lt (i j : Int) : cmpF .Lt (.int i) (.int j) = some (.bl (decide (i < j))) := rfl
@[simp] theorem ev_gt (i j : Int) : cmpF .Gt (.int i) (.int j) = some (.bl (decide (j < i))) := rfl
@[simp] theorem ev_ge (i j : Int) : cmpF .GtE (.int i) (.int j) = some (.bl (decide (j ≤ i))) := rfl
@[simp] theorem ev_cEq (a b : D) : cmpF .Eq a b = eqcF a b := rfl
@[simp] theorem ev_cNe (a b : D) : cmpF .NotEq a b = necF a b := rfl
@[simp] theorem ev_cIn (a b : D) : cmpF .In a b = inF a b := rfl
@[simp] theorem ev_cNin (a b : D) : cmpF .NotIn a b = ninF a b := rfl
@[simp] theorem ev_cLtT (xs ys : List D) : cmpF .Lt (.tup xs) (.tup ys) = ltF (.tup xs) (.tup ys) := rfl
@[simp] theorem ev_is (a b : D) : cmpF .Is a b = blO (isB a b) := rfl
@[simp] theorem ev_nis (a b : D) : cmpF .IsNot a b = nisF a b := rfl
@[simp] theorem ev_eqI (i j : Int) : eqcF (.int i) (.int j) = some (.bl (i == j)) := rfl
@[simp] theorem ev_neI (i j : Int) : necF (.int i) (.int j) = some (.bl (!(i == j))) := rfl
@[simp] theorem ev_lenT (xs : List D) : lenF (.tup xs) = some (.int xs.length) := rfl
@[simp] theorem ev_lenR (xs : List D) : lenF (.rol xs) = some (.int xs.length) := rfl
@[simp] theorem ev_lenL (o : Bool) (xs : List D) : lenF (.lst o xs) = some (.int xs.length) := rfl
@[simp] theorem ev_lenD (o : Bool) (xs : List (D × D)) : lenF (.dic o xs) = some (.int xs.length) := rfl
@[simp] theorem ev_int (i : Int) : intcF (.int i) = some (.int i) := rfl
@[simp] theorem ev_ixT (xs : List D) (i : Int) : ixF (.tup xs) (.int i) = immO (atI xs i) := rfl
@[simp] theorem ev_ixR (xs : List D) (i : Int) : ixF (.rol xs) (.int i) = immO (atI xs i) := rfl
@[simp] theorem ev_ixL (o : Bool) (xs : List D) (i : Int) : ixF (.lst o xs) (.int i) = immO (atI xs i) := rfl
@[simp] theorem ev_blO (b : Bool) : blO (some b) = some (.bl b) := rfl
@[simp] theorem imm_non : imm .non = true := rfl
@[simp] theorem imm_bl (b : Bool) : imm (.bl b) = true := rfl
@[simp] theorem imm_int (b : Int) : imm (.int b) = true := rfl
@[simp] theorem imm_str (b : Str) : imm (.str b) = true := rfl
@[simp] theorem imm_tup (b : List D) : imm (.tup b) = true := rfl
@[simp] theorem imm_rol (b : List D) : imm (.rol b) = true := rfl
@[simp] theorem imm_lst (o : Bool) (b : List D) : imm (.lst o b) = !o := rfl
@[simp] theorem imm_dic (o : Bool) (b : List (D × D)) : imm (.dic o b) = !o := rfl
@[simp] theorem immO_some (d : D) : immO (some d) = (match imm d with
    | true => some d
    | false => none) := rfl
@[simp] theorem tru_bl (b : Bool) : truD (.bl b) = some b := rfl
@[simp] theorem tru_int (i : Int) : truD (.int i) = some (i != 0) := rfl
@[simp] theorem tru_non : truD .non = some false := rfl
@[simp] theorem at0 {α : Type} (x : α) (xs : List α) : atI (x :: xs) 0 = some x := by
  have e : ixN (x :: xs).length 0 = some 0 := by simp [ixN]
  unfold atI; rw [e]; rfl
@[simp] theorem at1 {α : Type} (x y : α) (xs : List α) : atI (x :: y :: xs) 1 = some y := by
  have e : ixN (x :: y :: xs).length 1 = some 1 := by simp [ixN]; omega
  unfold atI; rw [e]; rfl
@[simp] theorem at2 {α : Type} (x y z : α) (xs : List α) : atI (x :: y :: z :: xs) 2 = some z := by
  have e : ixN (x :: y :: z :: xs).length 2 = some 2 := by simp [ixN]; omega
  unfold atI; rw [e]; rfl
@[simp] theorem at3 {α : Type} (x y z w : α) (xs : List α) : atI (x :: y :: z :: w :: xs) 3 = some w := by
  have e : ixN (x :: y :: z :: w :: xs).length 3 = some 3 := by simp [ixN]; omega
  unfold atI; rw [e]; rfl
def row (ns : List Int) (a b c : Int) : D := .lst true [.rol (ns.map .int), .int a, .int b, .int c]
theorem ten18 : ((10 : Int) ^ (Int.toNat 18)) = 1000000000000000000 := by decide
theorem log_lt {i : Int} {n k : Nat} (h : i.natAbs < 2 ^ n) (hn : n ≤ k) (hk : 0 < k) : i.natAbs.log2 < k := by
  by_cases h0 : i.natAbs = 0
  · rw [h0]; simpa using hk
  · exact Nat.lt_of_lt_of_le ((Nat.log2_lt h0).mpr h) hn
@[simp] theorem box_some (d : D) (s : S) : isBox 0 (some d :: s) = true := rfl
@[simp] theorem stAt0 (xs : List D) (s : S) (j : Int) (d : D) : storeAt 0 (.int j) d (some (.lst true xs) :: s) = (match ixN xs.length j with
      | some j => some (some (.lst true (xs.set j d)) :: s)
      | none => none) := rfl
theorem ixN4_1 : ixN 4 1 = some 1 := by decide
theorem ixN4_2 : ixN 4 2 = some 2 := by decide
theorem ixN4_3 : ixN 4 3 = some 3 := by decide
theorem atI_ok {α : Type} {xs : List α} {i : Int} (h0 : 0 ≤ i) (h1 : i < xs.length) : atI xs i = xs[i.toNat]? := by
  have e : ixN xs.length i = some i.toNat := by unfold ixN; rw [if_pos h0, if_pos h1]
  unfold atI; rw [e]; rfl
theorem taken_ok (ns : List Int) {a b c many : Int} (ha : 0 ≤ a) (hb : 0 ≤ b) (hb2 : b < 2147483647) (hm : 1 ≤ many) (hm2 : many ≤ 1000000) :
    ∃ r a' b' c', f__law_taken [row ns a b c, .int many] = some (.int r, [some (row ns a' b' c'), some (.int many)]) ∧ 0 ≤ r ∧ r < many ∧ 0 ≤ a' ∧ 0 ≤ b' ∧ b' < 2147483647 := by
  have hm0 : 0 < many := by omega
  have hl : many.natAbs.log2 < 9000 := log_lt (n := 20) (by omega) (by omega) (by omega)
  have hlb : b.natAbs.log2 + Nat.log2 48271 < 1000000 := by
    have h1 : b.natAbs.log2 < 1000 := log_lt (n := 31) (by omega) (by omega) (by omega)
    have h2 : Nat.log2 48271 < 1000 := by decide +kernel
    omega
  have h7 : Nat.log2 7 < 9000 := by decide +kernel
  unfold f__law_taken m__law_taken row
  by_cases h3 : 0 < c
  · refine ⟨c % many, a, b, c / many, ?_, Int.emod_nonneg _ (by omega), Int.emod_lt_of_pos _ (by omega), ha, hb, hb2⟩
    simp [runD, h3, hm0, hl, outsOf, ixN4_3]
  · by_cases hp : (ns.length : Int) < a + 1
    · refine ⟨_, a + 1, (b * 48271 + 11) % 2147483647, c, by
        simp [runD, h3, hm0, hl, hlb, outsOf, ixN4_1, ixN4_2, hp, h7]
        exact rfl, Int.emod_nonneg _ (by omega), Int.emod_lt_of_pos _ (by omega), by omega, Int.emod_nonneg _ (by omega), Int.emod_lt_of_pos _ (by omega)⟩
    · have hat : ∃ x, atI (ns.map D.int) a = some (.int x) := by
        have hx : a < ns.length := by omega
        rw [atI_ok ha (by simpa using hx)]
        refine ⟨ns[a.toNat]'(by omega), ?_⟩
        rw [List.getElem?_map, List.getElem?_eq_getElem (by omega)]
        rfl
      obtain ⟨x, hat⟩ := hat
      by_cases hx : 1000000000000000000 ≤ x
      · refine ⟨_, a + 1, (b * 48271 + x + 11) % 2147483647, x / many, by
          simp [runD, h3, hm0, hl, hlb, outsOf, ixN4_1, ixN4_2, ixN4_3, hp, hat, ten18, hx]
          exact rfl, Int.emod_nonneg _ (by omega), Int.emod_lt_of_pos _ (by omega), by omega, Int.emod_nonneg _ (by omega), Int.emod_lt_of_pos _ (by omega)⟩
      · refine ⟨_, a + 1, (b * 48271 + x + 11) % 2147483647, c, by
          simp [runD, h3, hm0, hl, hlb, outsOf, ixN4_1, ixN4_2, ixN4_3, hp, hat, ten18, hx]
          exact rfl, Int.emod_nonneg _ (by omega), Int.emod_lt_of_pos _ (by omega), by omega, Int.emod_nonneg _ (by omega), Int.emod_lt_of_pos _ (by omega)⟩
end Pl
/-! Pl2: families in plain Lean -/
namespace Pl
open Va

abbrev Bag := List Int
/-- two bags share one bead at most -/
def One (a b : Bag) : Prop := ∀ x y, x ∈ a → x ∈ b → y ∈ a → y ∈ b → x = y
theorem One.symm {a b : Bag} (h : One a b) : One b a := fun x y p q r s => h x y q p s r
/-- a family of n beads, its bags in any order -/
structure Raw (n : Int) (B : List Bag) : Prop where
  len : ∀ b ∈ B, 2 ≤ b.length
  rng : ∀ b ∈ B, ∀ x ∈ b, 0 ≤ x ∧ x < n
  nd : ∀ b ∈ B, b.Nodup
  cov : ∀ x : Int, 0 ≤ x → x < n → ∃ b ∈ B, x ∈ b
  two : B.Pairwise One
  con : ∀ Q : Int → Prop, (∃ x, 0 ≤ x ∧ x < n ∧ Q x) → (∀ b ∈ B, ∀ x ∈ b, ∀ y ∈ b, Q x → Q y) → ∀ x, 0 ≤ x → x < n → Q x
  cnt : (B.map fun b => (b.length : Int) - 1).sum = n - 1
theorem raw2 : Raw 2 [[0, 1]] where
  len b h := by simp at h; subst h; simp
  rng b h x hx := by simp at h; subst h; simp at hx; omega
  nd b h := by simp at h; subst h; decide
  cov x h0 h1 := ⟨[0, 1], by simp, by simp; omega⟩
  two := by simp
  con Q hx hc x h0 h1 := by
    obtain ⟨y, y0, y1, q⟩ := hx
    exact hc [0, 1] (by simp) y (by simp; omega) x (by simp; omega) q
  cnt := by simp
/-- a bead more, in a bag of two -/
theorem Raw.snoc {n : Int} {B : List Bag} (R : Raw n B) {x : Int} (h0 : 0 ≤ x) (h1 : x < n) : Raw (n + 1) (B ++ [[x, n]]) where
  len b h := by
    rcases List.mem_append.mp h with h | h
    · exact R.len b h
    · simp at h; subst h; simp
  rng b h y hy := by
    rcases List.mem_append.mp h with h | h
    · have := R.rng b h y hy; omega
    · simp at h; subst h; simp at hy; omega
  nd b h := by
    rcases List.mem_append.mp h with h | h
    · exact R.nd b h
    · simp at h; subst h; simp; omega
  cov y y0 y1 := by
    by_cases e : y = n
    · exact ⟨[x, n], by simp, by simp [e]⟩
    · obtain ⟨b, hb, hy⟩ := R.cov y y0 (by omega)
      exact ⟨b, List.mem_append_left _ hb, hy⟩
  two := by
    refine List.pairwise_append.mpr ⟨R.two, by simp, fun a ha b hb => ?_⟩
    simp at hb
    subst hb
    intro u v hu hu' hv hv'
    have := R.rng a ha u hu
    have := R.rng a ha v hv
    simp at hu' hv'
    omega
  con Q hx hc y y0 y1 := by
    have old : (∃ z, 0 ≤ z ∧ z < n ∧ Q z) → ∀ z, 0 ≤ z → z < n → Q z := fun h => R.con Q h fun b hb => hc b (List.mem_append_left _ hb)
    have hp := hc [x, n] (by simp)
    have all : ∀ z, 0 ≤ z → z < n → Q z := by
      obtain ⟨z, z0, z1, q⟩ := hx
      by_cases e : z = n
      · subst e
        exact old ⟨x, h0, h1, hp z (by simp) x (by simp) q⟩
      · exact old ⟨z, z0, by omega, q⟩
    by_cases e : y = n
    · subst e
      exact hp x (by simp) y (by simp) (all x h0 h1)
    · exact all y y0 (by omega)
  cnt := by
    have := R.cnt
    simp [this]
theorem mem_set_of {α : Type} {l : List α} {i : Nat} {a b c : α} (h : l[i]? = some a) (hb : b ∈ l.set i c) : b = c ∨ b ∈ l := by
  rcases List.mem_or_eq_of_mem_set hb with h | h
  · exact .inr h
  · exact .inl h
/-- a bead more, into a bag -/
theorem Raw.push {n : Int} {B : List Bag} (R : Raw n B) {i : Nat} {b : Bag} (hi : B[i]? = some b) : Raw (n + 1) (B.set i (b ++ [n])) := by
  obtain ⟨hl, eb⟩ := List.getElem?_eq_some_iff.mp hi
  have hb : b ∈ B := eb ▸ List.getElem_mem hl
  have hb2 := R.len b hb
  have hnew : b ++ [n] ∈ B.set i (b ++ [n]) := List.mem_iff_getElem?.mpr ⟨i, by rw [List.getElem?_set_self hl]⟩
  have hn : ∀ c ∈ B, n ∉ c := fun c hc h => by have := R.rng c hc n h; omega
  have n0 : 0 ≤ n := by
    obtain ⟨x, hx⟩ : ∃ x, x ∈ b := List.exists_mem_of_length_pos (by omega)
    have := R.rng b hb x hx
    omega
  -- what is in an old bag is in a new one
  have up : ∀ c ∈ B, ∃ c' ∈ B.set i (b ++ [n]), ∀ x ∈ c, x ∈ c' := fun c hc => by
    obtain ⟨j, hj⟩ := List.mem_iff_getElem?.mp hc
    by_cases e : i = j
    · subst e
      have : c = b := by rw [hi] at hj; exact (Option.some.inj hj).symm
      subst this
      exact ⟨_, hnew, fun x hx => List.mem_append_left _ hx⟩
    · exact ⟨c, List.mem_iff_getElem?.mpr ⟨j, by rw [List.getElem?_set_ne e]; exact hj⟩, fun x hx => hx⟩
  refine ⟨fun c hc => ?_, fun c hc x hx => ?_, fun c hc => ?_, fun x x0 x1 => ?_, ?_, fun Q hx hc y y0 y1 => ?_, ?_⟩
  · rcases mem_set_of hi hc with rfl | h
    · simp; omega
    · exact R.len c h
  · rcases mem_set_of hi hc with rfl | h
    · rcases List.mem_append.mp hx with h | h
      · have := R.rng b hb x h; omega
      · simp at h; omega
    · have := R.rng c h x hx; omega
  · rcases mem_set_of hi hc with rfl | h
    · refine List.nodup_append.mpr ⟨R.nd b hb, by simp, fun x hx y hy e => ?_⟩
      simp at hy
      subst hy e
      exact hn b hb hx
    · exact R.nd c h
  · by_cases e : x = n
    · exact ⟨_, hnew, by simp [e]⟩
    · obtain ⟨c, hc, hx⟩ := R.cov x x0 (by omega)
      obtain ⟨c', hc', h⟩ := up c hc
      exact ⟨c', hc', h x hx⟩
  · have P := List.pairwise_iff_getElem.mp R.two
    refine List.pairwise_iff_getElem.mpr fun j k hj hk hjk => ?_
    have hj' : j < B.length := by simpa using hj
    have hk' : k < B.length := by simpa using hk
    have base := P j k hj' hk' hjk
    have red : ∀ {c : Bag}, c ∈ B → One b c → One (b ++ [n]) c := fun {c} hc h x y a1 a2 a3 a4 => by
      refine h x y ?_ a2 ?_ a4
      · rcases List.mem_append.mp a1 with q | q
        · exact q
        · simp at q; subst q; exact absurd a2 (hn c hc)
      · rcases List.mem_append.mp a3 with q | q
        · exact q
        · simp at q; subst q; exact absurd a4 (hn c hc)
    rw [List.getElem_set, List.getElem_set]
    by_cases e1 : i = j
    · subst e1
      rw [if_pos rfl, if_neg (by omega)]
      rw [eb] at base
      exact red (List.getElem_mem hk') base
    · rw [if_neg e1]
      by_cases e2 : i = k
      · subst e2
        rw [if_pos rfl]
        rw [eb] at base
        exact (red (List.getElem_mem hj') base.symm).symm
      · rw [if_neg e2]
        exact base
  · have old : (∃ z, 0 ≤ z ∧ z < n ∧ Q z) → ∀ z, 0 ≤ z → z < n → Q z := fun h => R.con Q h fun c hc' x hx y hy q => by
      obtain ⟨c', hc1, hin⟩ := up c hc'
      exact hc c' hc1 x (hin x hx) y (hin y hy) q
    obtain ⟨x, hxb⟩ : ∃ x, x ∈ b := List.exists_mem_of_length_pos (by omega)
    have hxr := R.rng b hb x hxb
    have hp := hc _ hnew
    have all : ∀ z, 0 ≤ z → z < n → Q z := by
      obtain ⟨z, z0, z1, q⟩ := hx
      by_cases e : z = n
      · subst e
        exact old ⟨x, hxr.1, hxr.2, hp z (by simp) x (by simp [hxb]) q⟩
      · exact old ⟨z, z0, by omega, q⟩
    by_cases e : y = n
    · subst e
      exact hp x (by simp [hxb]) y (by simp) (all x hxr.1 hxr.2)
    · exact all y y0 (by omega)
  · have key : ∀ (B : List Bag) (i : Nat), B[i]? = some b → ((B.set i (b ++ [n])).map fun b => (b.length : Int) - 1).sum = (B.map fun b => (b.length : Int) - 1).sum + 1 := fun B => by
      induction B with
      | nil => intro i h; simp at h
      | cons c B ih =>
        intro i h
        cases i with
        | zero => simp at h; subst h; simp; omega
        | succ i =>
          have := ih i (by simpa using h)
          simp only [List.set_cons_succ, List.map_cons, List.sum_cons, this]
          omega
    rw [key B i hi, R.cnt]
    omega
theorem perm_sum : ∀ {a b : List Int}, a.Perm b → a.sum = b.sum := fun h => by
  induction h with
  | nil => rfl
  | cons x _ ih => simp [ih]
  | swap x y l => simp; omega
  | trans _ _ ih1 ih2 => exact ih1.trans ih2
/-- bags in another order -/
theorem Raw.perm {n : Int} {B B' : List Bag} (R : Raw n B) (p : B.Perm B') : Raw n B' where
  len b h := R.len b (p.mem_iff.mpr h)
  rng b h := R.rng b (p.mem_iff.mpr h)
  nd b h := R.nd b (p.mem_iff.mpr h)
  cov x h0 h1 := by obtain ⟨b, hb, hx⟩ := R.cov x h0 h1; exact ⟨b, p.mem_iff.mp hb, hx⟩
  two := (p.pairwise_iff fun h => One.symm h).mp R.two
  con Q hx hc := R.con Q hx fun b hb => hc b (p.mem_iff.mp hb)
  cnt := by rw [← R.cnt]; exact perm_sum (p.symm.map _)
/-- each bag changed into one of the same beads and length -/
theorem Raw.mapB {n : Int} {B : List Bag} (R : Raw n B) {f : Bag → Bag} (p : ∀ b ∈ B, (f b).Perm b) : Raw n (B.map f) where
  len b h := by obtain ⟨c, hc, rfl⟩ := List.mem_map.mp h; rw [(p c hc).length_eq]; exact R.len c hc
  rng b h x hx := by obtain ⟨c, hc, rfl⟩ := List.mem_map.mp h; exact R.rng c hc x ((p c hc).mem_iff.mp hx)
  nd b h := by obtain ⟨c, hc, rfl⟩ := List.mem_map.mp h; exact (p c hc).nodup_iff.mpr (R.nd c hc)
  cov x h0 h1 := by obtain ⟨b, hb, hx⟩ := R.cov x h0 h1; exact ⟨f b, List.mem_map_of_mem hb, (p b hb).mem_iff.mpr hx⟩
  two := by
    refine List.pairwise_map.mpr (R.two.imp_of_mem fun {a b} ha hb h x y a1 a2 a3 a4 => ?_)
    exact h x y ((p a ha).mem_iff.mp a1) ((p b hb).mem_iff.mp a2) ((p a ha).mem_iff.mp a3) ((p b hb).mem_iff.mp a4)
  con Q hx hc := R.con Q hx fun b hb x hx y hy => hc (f b) (List.mem_map_of_mem hb) x ((p b hb).mem_iff.mpr hx) y ((p b hb).mem_iff.mpr hy)
  cnt := by
    rw [← R.cnt, List.map_map]
    congr 1
    refine List.map_congr_left fun b hb => ?_
    simp [(p b hb).length_eq]
/-- beads named anew -/
theorem Raw.named {n : Int} {B : List Bag} (R : Raw n B) {g : Int → Int} (gr : ∀ x, 0 ≤ x → x < n → 0 ≤ g x ∧ g x < n) (gi : ∀ x y, 0 ≤ x → x < n → 0 ≤ y → y < n → g x = g y → x = y) (gs : ∀ y, 0 ≤ y → y < n → ∃ x, 0 ≤ x ∧ x < n ∧ g x = y) : Raw n (B.map (·.map g)) where
  len b h := by obtain ⟨c, hc, rfl⟩ := List.mem_map.mp h; rw [List.length_map]; exact R.len c hc
  rng b h x hx := by
    obtain ⟨c, hc, rfl⟩ := List.mem_map.mp h
    obtain ⟨y, hy, rfl⟩ := List.mem_map.mp hx
    exact gr y (R.rng c hc y hy).1 (R.rng c hc y hy).2
  nd b h := by
    obtain ⟨c, hc, rfl⟩ := List.mem_map.mp h
    refine List.pairwise_map.mpr ((R.nd c hc).imp_of_mem fun {x y} hx hy hne e => hne ?_)
    exact gi x y (R.rng c hc x hx).1 (R.rng c hc x hx).2 (R.rng c hc y hy).1 (R.rng c hc y hy).2 e
  cov y h0 h1 := by
    obtain ⟨x, x0, x1, rfl⟩ := gs y h0 h1
    obtain ⟨b, hb, hx⟩ := R.cov x x0 x1
    exact ⟨b.map g, List.mem_map_of_mem hb, List.mem_map_of_mem hx⟩
  two := by
    refine List.pairwise_map.mpr (R.two.imp_of_mem fun {a b} ha hb h x y a1 a2 a3 a4 => ?_)
    obtain ⟨u, hu, rfl⟩ := List.mem_map.mp a1
    obtain ⟨v, hv, rfl⟩ := List.mem_map.mp a3
    obtain ⟨u', hu', e1⟩ := List.mem_map.mp a2
    obtain ⟨v', hv', e2⟩ := List.mem_map.mp a4
    have e1 := gi u' u (R.rng b hb _ hu').1 (R.rng b hb _ hu').2 (R.rng a ha _ hu).1 (R.rng a ha _ hu).2 e1
    have e2 := gi v' v (R.rng b hb _ hv').1 (R.rng b hb _ hv').2 (R.rng a ha _ hv).1 (R.rng a ha _ hv).2 e2
    subst e1 e2
    rw [h u' v' hu hu' hv hv']
  con Q hx hc y y0 y1 := by
    obtain ⟨x, x0, x1, rfl⟩ := gs y y0 y1
    refine R.con (fun z => Q (g z)) ?_ (fun b hb u hu v hv q => hc (b.map g) (List.mem_map_of_mem hb) (g u) (List.mem_map_of_mem hu) (g v) (List.mem_map_of_mem hv) q) x x0 x1
    obtain ⟨z, z0, z1, q⟩ := hx
    obtain ⟨w, w0, w1, rfl⟩ := gs z z0 z1
    exact ⟨w, w0, w1, q⟩
  cnt := by
    rw [← R.cnt, List.map_map]
    congr 1
    refine List.map_congr_left fun b hb => ?_
    simp
/-- a family as the program has it -/
structure Fam (n : Int) (F : List Bag) : Prop extends Raw n F where
  n2 : 2 ≤ n
  n60 : n ≤ 60
  asc : ∀ b ∈ F, b.Pairwise (· < ·)
  srt : F.Pairwise fun a b => HT.lexLt a b = true
theorem Raw.few {n : Int} {B : List Bag} (R : Raw n B) : (B.length : Int) ≤ n - 1 := by
  rw [← R.cnt]
  have key : ∀ B : List Bag, (∀ b ∈ B, 2 ≤ b.length) → (B.length : Int) ≤ (B.map fun b => (b.length : Int) - 1).sum := fun B => by
    induction B with
    | nil => intro _; simp
    | cons b B ih =>
      intro h
      have := ih fun c hc => h c (List.mem_cons_of_mem _ hc)
      have := h b (List.mem_cons_self ..)
      simp only [List.length_cons, List.map_cons, List.sum_cons]
      omega
  exact key B R.len
theorem Raw.ne {n : Int} {B : List Bag} (R : Raw n B) (h : 2 ≤ n) : B ≠ [] := by
  rintro rfl
  obtain ⟨b, hb, _⟩ := R.cov 0 (by omega) (by omega)
  simp at hb
theorem Raw.bag_le {n : Int} {B : List Bag} (R : Raw n B) : ∀ b ∈ B, (b.length : Int) ≤ n := by
  have key : ∀ B : List Bag, (∀ b ∈ B, 2 ≤ b.length) → 0 ≤ (B.map fun b => (b.length : Int) - 1).sum ∧ ∀ b ∈ B, (b.length : Int) - 1 ≤ (B.map fun b => (b.length : Int) - 1).sum := fun B => by
    induction B with
    | nil => intro _; simp
    | cons b B ih =>
      intro h
      obtain ⟨h1, h2⟩ := ih fun c hc => h c (List.mem_cons_of_mem _ hc)
      have h3 := h b (List.mem_cons_self ..)
      simp only [List.map_cons, List.sum_cons]
      refine ⟨by omega, fun c hc => ?_⟩
      rcases List.mem_cons.mp hc with rfl | hc
      · omega
      · have := h2 c hc; omega
  intro b hb
  have := (key B R.len).2 b hb
  rw [R.cnt] at this
  omega
end Pl
/-! Pl3: loops; small functions -/
namespace Pl
open Va L2 PySem

/-! ### loops -/
theorem forL_inv {t : Tgt} {b : M Fl} (I : Nat → S → Prop) : ∀ {ds : List D} {k : Nat} {st : S}, I k st →
    (∀ i d st, ds[i]? = some d → I (k + i) st → ∃ s1 s2, asgT t d st = some s1 ∧ (b s1 = some (.nx, s2) ∨ b s1 = some (.ct, s2)) ∧ I (k + i + 1) s2) → ∃ st', forL t b ds st = some (.nx, st') ∧ I (k + ds.length) st'
  | [], k, st, h0, _ => ⟨st, rfl, h0⟩
  | d :: ds, k, st, h0, hs => by
    obtain ⟨s1, s2, ha, hb, h2⟩ := hs 0 d st rfl h0
    obtain ⟨st', e, h⟩ := forL_inv I (ds := ds) (k := k + 1) (st := s2) (by simpa using h2) fun i d st hi hI => by
      have := hs (i + 1) d st (by simpa using hi) (by rw [show k + (i + 1) = k + 1 + i by omega]; exact hI)
      rw [show k + (i + 1) = k + 1 + i by omega] at this
      exact this
    refine ⟨st', ?_, by rw [List.length_cons, show k + (ds.length + 1) = k + 1 + ds.length by omega]; exact h⟩
    unfold forL
    rw [ha]
    rcases hb with hb | hb <;> (dsimp only; rw [hb]; exact e)
theorem lcL_fm {t : Tgt} {mt : M Bool} {me : M D} {own : List Nat} {st : S} (f : D → D) (p : D → Bool) : ∀ {ds : List D},
    (∀ d ∈ ds, ∃ s1 s2, asgT t d st = some s1 ∧ mt s1 = some (p d, s2) ∧ (p d = true → ∃ s3, me s2 = some (f d, s3) ∧ wipeS s3 own = st) ∧ (p d = false → wipeS s2 own = st)) → lcL t mt me own ds st = some ((ds.filter p).map f, st)
  | [], _ => rfl
  | d :: ds, h => by
    obtain ⟨s1, s2, h1, h2, h3, h4⟩ := h d (List.mem_cons_self ..)
    have ih := lcL_fm f p (ds := ds) fun d hd => h d (List.mem_cons_of_mem _ hd)
    unfold lcL
    rw [h1]
    dsimp only
    rw [h2]
    cases e : p d with
    | true =>
      obtain ⟨s3, h5, h6⟩ := h3 e
      dsimp only
      rw [h5]
      dsimp only
      rw [h6, ih]
      simp [e]
    | false =>
      dsimp only
      rw [h4 e, ih]
      simp [e]
theorem mLc_fm {mi : M (List D)} {t : Tgt} {mt : M Bool} {me : M D} {own : List Nat} {st s st0 : S} {ds : List D} (f : D → D) (p : D → Bool) (hmi : mi st = some (ds, s)) (ho : ownOk s own = true) (hl : ds.length ≤ LN) (hw : wipeS s own = st0)
    (h : ∀ d ∈ ds, ∃ s1 s2, asgT t d st0 = some s1 ∧ mt s1 = some (p d, s2) ∧ (p d = true → ∃ s3, me s2 = some (f d, s3) ∧ wipeS s3 own = st0) ∧ (p d = false → wipeS s2 own = st0)) : mLc mi t mt me own st = some (.lst true ((ds.filter p).map f), backS s st0 own) := by
  unfold mLc
  rw [hmi]
  dsimp only
  rw [ho, Nat.ble_eq_true_of_le hl, hw]
  simp only [Bool.and_self, lcL_fm f p h]
/-- no test -/
theorem mLc_m {mi : M (List D)} {t : Tgt} {me : M D} {own : List Nat} {st s st0 : S} {ds : List D} (f : D → D) (hmi : mi st = some (ds, s)) (ho : ownOk s own = true) (hl : ds.length ≤ LN) (hw : wipeS s own = st0)
    (h : ∀ d ∈ ds, ∃ s1 s3, asgT t d st0 = some s1 ∧ me s1 = some (f d, s3) ∧ wipeS s3 own = st0) : mLc mi t mYes me own st = some (.lst true (ds.map f), backS s st0 own) := by
  rw [mLc_fm f (fun _ => true) hmi ho hl hw fun d hd => by
    obtain ⟨s1, s3, h1, h2, h3⟩ := h d hd
    exact ⟨s1, s1, h1, rfl, fun _ => ⟨s3, h2, h3⟩, fun e => by cases e⟩]
  rw [List.filter_eq_self.mpr (fun _ _ => rfl)]
@[simp] theorem wipe_nil (s : S) : wipeS s [] = s := rfl
@[simp] theorem wipe_cons (s : S) (v : Nat) (vs : List Nat) : wipeS s (v :: vs) = (wipeS s vs).set v none := rfl
@[simp] theorem back_nil (o s : S) : backS o s [] = s := rfl
@[simp] theorem back_cons (o s : S) (v : Nat) (vs : List Nat) : backS o s (v :: vs) = (backS o s vs).set v (o[v]?.getD none) := rfl
@[simp] theorem asg_n (i : Nat) (d : D) (s : S) : asgT (.n i) d s = some (s.set i (some d)) := rfl
@[simp] theorem asg_t (is : List Nat) (ds : List D) (s : S) : asgT (.t is) (.tup ds) s = asgL is ds s := rfl
@[simp] theorem asgL_nil (s : S) : asgL [] [] s = some s := rfl
@[simp] theorem asgL_cons (i : Nat) (is : List Nat) (d : D) (ds : List D) (s : S) : asgL (i :: is) (d :: ds) s = asgL is ds (s.set i (some d)) := rfl
@[simp] theorem own_nil (s : S) : ownOk s [] = true := rfl
@[simp] theorem own_cons (s : S) (v : Nat) (vs : List Nat) : ownOk s (v :: vs) = ((match s[v]? with
  | some (some d) => imm d
  | _ => true) && ownOk s vs) := rfl
@[simp] theorem frzA_tup (xs : List D) : frzA (.tup xs) = .tup xs := rfl
@[simp] theorem frzA_rol (xs : List D) : frzA (.rol xs) = .rol xs := rfl
@[simp] theorem frzA_lst (o : Bool) (xs : List D) : frzA (.lst o xs) = .lst false (match o with
  | true => frzL xs
  | false => xs) := by cases o <;> rfl
@[simp] theorem frz_lst (xs : List D) : frz (.lst true xs) = .lst false (frzL xs) := by simp [frz]
@[simp] theorem frzA_int (i : Int) : frzA (.int i) = .int i := rfl
@[simp] theorem seq_tup (xs : List D) : seqOf (.tup xs) = some (true, xs) := rfl
@[simp] theorem seq_rol (xs : List D) : seqOf (.rol xs) = some (false, xs) := rfl
@[simp] theorem seq_lst (o : Bool) (xs : List D) : seqOf (.lst o xs) = some (false, xs) := rfl
@[simp] theorem sl_tup (xs : List D) (lo hi : Option Int) : slF lo hi (.tup xs) = some (.tup (cutD xs lo hi)) := rfl
theorem frzL_ints (b : List Int) : frzL (b.map .int) = b.map D.int := by
  induction b with
  | nil => simp [frzL]
  | cons x b ih => simp [frzL, frz, ih]
theorem cut1 (xs : List D) : cutD xs (some 1) none = xs.drop 1 := by
  unfold cutD HT.sIx
  cases xs with
  | nil => simp
  | cons x xs => simp [List.take_of_length_le]
theorem LN_big : LN = 16777216 := rfl

/-! ### data -/
abbrev intsD (b : List Int) : List D := b.map .int
def bagD (b : Bag) : D := .tup (intsD b)
def famD (F : List Bag) : D := .tup (F.map bagD)
theorem all_true {α : Type} (l : List α) : allF (.lst true (l.map fun _ => D.bl true)) = some (.bl true) := by
  have h : ∀ l : List α, toBools (l.map fun _ => D.bl true) = some (l.map fun _ => true) := fun l => by
    induction l with
    | nil => rfl
    | cons x l ih => simp [toBools, ih]
  show boolsF _ _ = _
  unfold boolsF lstOf
  simp [h]
theorem zip_pairs {R : D → D → Prop} : ∀ {xs : List D}, xs.Pairwise R → ∀ d ∈ zipD xs (xs.drop 1), ∃ x y, d = .tup [x, y] ∧ R x y
  | [], _, d, h => by simp [zipD] at h
  | [x], _, d, h => by simp [zipD] at h
  | x :: y :: xs, h, d, hd => by
    simp only [List.drop_succ_cons, List.drop_zero, zipD, List.mem_cons] at hd
    have h1 := List.pairwise_cons.mp h
    rcases hd with rfl | hd
    · exact ⟨x, y, rfl, h1.1 y (List.mem_cons_self ..)⟩
    · exact zip_pairs (xs := y :: xs) h1.2 d (by simpa using hd)
theorem is_rising_ok {xs : List D} (hl : xs.length ≤ LN) (h : xs.Pairwise fun x y => cmpF .Lt x y = some (.bl true)) : f_is_rising [.tup xs] = some (.bl true, [some (.tup xs)]) := by
  unfold f_is_rising m_is_rising
  simp [runD]
  rw [mLc_m (ds := zipD xs (xs.drop 1)) (s := [some (.tup xs), none, none]) (st0 := [some (.tup xs), none, none]) (fun _ => .bl true) (by simp [mSl, mPart, cut1]) (by simp) (by rw [zipD_length]; simp; omega) (by simp) fun d hd => by
    obtain ⟨x, y, rfl, r⟩ := zip_pairs h d hd
    exact ⟨_, _, by simp; rfl, by simp [r]; exact rfl, by simp⟩]
  simp [all_true, outsOf]
end Pl
/-! Pl4: sorting; families drawn -/
namespace Pl
open Va L2 PySem

def insP {α : Type} (lt : α → α → Bool) (x : α) : List α → List α
  | [] => [x]
  | y :: ys => match lt y x with
    | true => y :: insP lt x ys
    | false => x :: y :: ys
def isP {α : Type} (lt : α → α → Bool) : List α → List α
  | [] => []
  | x :: xs => insP lt x (isP lt xs)
theorem insP_perm {α : Type} (lt : α → α → Bool) (x : α) : ∀ ys : List α, (insP lt x ys).Perm (x :: ys)
  | [] => .refl _
  | y :: ys => by
    unfold insP
    split
    · exact ((insP_perm lt x ys).cons y).trans (.swap x y ys)
    · exact .refl _
theorem isP_perm {α : Type} (lt : α → α → Bool) : ∀ ys : List α, (isP lt ys).Perm ys
  | [] => .refl _
  | y :: ys => (insP_perm lt y _).trans ((isP_perm lt ys).cons y)
theorem isP_sorted {α : Type} {lt : α → α → Bool} (asym : ∀ a b, lt a b = true → lt b a = false) (tr : ∀ a b c, lt b a = false → lt c b = false → lt c a = false) : ∀ xs : List α, (isP lt xs).Pairwise fun a b => lt b a = false := by
  have ins : ∀ (x : α) (ys : List α), ys.Pairwise (fun a b => lt b a = false) → (insP lt x ys).Pairwise fun a b => lt b a = false := fun x ys => by
    induction ys with
    | nil => intro _; simp [insP]
    | cons y ys ih =>
      intro h
      have h1 := List.pairwise_cons.mp h
      unfold insP
      cases e : lt y x with
      | true =>
        refine List.pairwise_cons.mpr ⟨fun z hz => ?_, ih h1.2⟩
        rcases List.mem_cons.mp ((insP_perm lt x ys).mem_iff.mp hz) with rfl | hz
        · exact asym _ _ e
        · exact h1.1 z hz
      | false =>
        refine List.pairwise_cons.mpr ⟨fun z hz => ?_, h⟩
        rcases List.mem_cons.mp hz with rfl | hz
        · exact e
        · exact tr _ _ _ e (h1.1 z hz)
  intro xs
  induction xs with
  | nil => exact .nil
  | cons x xs ih => exact ins x _ ih
theorem isort_map {α : Type} {f : α → D} {lt : D → D → Bool} {lt' : α → α → Bool} (h : ∀ a b, lt (f a) (f b) = lt' a b) : ∀ l : List α, isort lt (l.map f) = (isP lt' l).map f := by
  have ins : ∀ (x : α) (l : List α), insD lt (f x) (l.map f) = (insP lt' x l).map f := fun x l => by
    induction l with
    | nil => rfl
    | cons y l ih =>
      simp only [List.map_cons, insD, insP, h]
      cases lt' y x with
      | true => simp [ih]
      | false => simp
  intro l
  induction l with
  | nil => rfl
  | cons x l ih => simp only [List.map_cons, isort, isP, ih, ins]
def ltI (a b : Int) : Bool := decide (a < b)
abbrev srtI (b : Bag) : Bag := isP ltI b
abbrev srtB (F : List Bag) : List Bag := isP HT.lexLt F
theorem srtI_asc {b : Bag} (h : b.Nodup) : (srtI b).Pairwise (· < ·) := by
  have S := isP_sorted (lt := ltI) (fun a b h => by simp [ltI] at h ⊢; omega) (fun a b c h1 h2 => by simp [ltI] at h1 h2 ⊢; omega) b
  have N := (isP_perm ltI b).nodup_iff.mpr h
  refine (List.Pairwise.and S N).imp fun {x y} ⟨h1, h2⟩ => ?_
  simp [ltI] at h1
  omega
theorem lex_asym : ∀ a b : Bag, HT.lexLt a b = true → HT.lexLt b a = false
  | [], [], h => by simp [HT.lexLt] at h
  | [], _ :: _, _ => rfl
  | _ :: _, [], h => by simp [HT.lexLt] at h
  | x :: xs, y :: ys, h => by
    rw [HT.lexLt_cons] at h ⊢
    by_cases e : x = y
    · subst e; rw [if_pos rfl] at h ⊢; exact lex_asym xs ys h
    · rw [if_neg e] at h; rw [if_neg fun q => e q.symm]; simp at h ⊢; omega
theorem lex_tri : ∀ a b : Bag, HT.lexLt a b = false → HT.lexLt b a = false → a = b
  | [], [], _, _ => rfl
  | [], _ :: _, h, _ => by simp [HT.lexLt] at h
  | _ :: _, [], _, h => by simp [HT.lexLt] at h
  | x :: xs, y :: ys, h, h' => by
    rw [HT.lexLt_cons] at h h'
    by_cases e : x = y
    · subst e; rw [if_pos rfl] at h h'; rw [lex_tri xs ys h h']
    · rw [if_neg e] at h; rw [if_neg fun q => e q.symm] at h'; simp at h h'; omega
theorem lex_ntr : ∀ a b c : Bag, HT.lexLt b a = false → HT.lexLt c b = false → HT.lexLt c a = false
  | [], [], [], _, _ => rfl
  | [], [], _ :: _, _, h => h
  | [], _ :: _, [], _, h => by simp [HT.lexLt] at h
  | [], _ :: _, _ :: _, _, _ => rfl
  | _ :: _, [], _, h, _ => by simp [HT.lexLt] at h
  | _ :: _, _ :: _, [], _, h => by simp [HT.lexLt] at h
  | x :: xs, y :: ys, z :: zs, h, h' => by
    rw [HT.lexLt_cons] at h h' ⊢
    have ih := lex_ntr xs ys zs
    by_cases e : y = x
    · subst e
      rw [if_pos rfl] at h
      by_cases e2 : z = y
      · subst e2; rw [if_pos rfl] at h' ⊢; exact ih h h'
      · rw [if_neg e2] at h' ⊢; exact h'
    · rw [if_neg e] at h
      by_cases e2 : z = y
      · subst e2; rw [if_neg e]; exact h
      · rw [if_neg e2] at h'
        simp at h h'
        rw [if_neg (by omega)]
        simp; omega
theorem srtB_srt {F : List Bag} (h : F.Nodup) : (srtB F).Pairwise fun a b => HT.lexLt a b = true := by
  have S := isP_sorted (lt := HT.lexLt) lex_asym lex_ntr F
  have N := (isP_perm HT.lexLt F).nodup_iff.mpr h
  refine (List.Pairwise.and S N).imp fun {x y} ⟨h1, h2⟩ => ?_
  cases e : HT.lexLt x y with
  | true => rfl
  | false => exact absurd (lex_tri x y e h1) h2
theorem Raw.nodup {n : Int} {B : List Bag} (R : Raw n B) : B.Nodup := by
  refine R.two.imp_of_mem fun {a b} ha hb h e => ?_
  subst e
  have hl := R.len a ha
  have nd := R.nd a ha
  match a, hl, nd with
  | x :: y :: _, _, nd =>
    have := h x y (by simp) (by simp) (by simp) (by simp)
    subst this
    simp at nd
/-- in order -/
theorem Raw.fam {n : Int} {B : List Bag} (R : Raw n B) (h2 : 2 ≤ n) (h60 : n ≤ 60) : Fam n (srtB (B.map srtI)) := by
  have R1 := R.mapB (f := srtI) fun b _ => isP_perm _ b
  have R2 := R1.perm (isP_perm HT.lexLt _).symm
  refine { toRaw := R2, n2 := h2, n60 := h60, asc := fun b hb => ?_, srt := srtB_srt R1.nodup }
  obtain ⟨c, hc, rfl⟩ := List.mem_map.mp ((isP_perm _ _).mem_iff.mp hb)
  exact srtI_asc (R.nd c hc)
theorem lvl_ints (b : List Int) : (intsD b).all (lvl 0) = true := by
  rw [List.all_eq_true]
  intro d hd
  obtain ⟨x, _, rfl⟩ := List.mem_map.mp hd
  rfl
theorem sort_ints (o : Bool) (b : List Int) : sortLF (.lst o (intsD b)) = some (.lst true (intsD (srtI b))) := by
  unfold sortLF lvlOf
  simp only [seq_lst, lvl_ints, if_true]
  rw [isort_map (f := D.int) (lt' := ltI) fun a b => rfl]
theorem lt1 (a b : Bag) : ltD 1 (bagD a) (bagD b) = HT.lexLt a b := by
  show ltLs (eqF 1) (ltD 0) (intsD a) (intsD b) = _
  induction a generalizing b with
  | nil => cases b <;> rfl
  | cons x a ih =>
    cases b with
    | nil => rfl
    | cons y b =>
      simp only [List.map_cons, ltLs, HT.lexLt_cons]
      by_cases e : x = y
      · subst e
        have : eqF 1 (D.int x) (D.int x) = true := by simp [eqF]
        rw [this, if_pos rfl]
        exact ih b
      · have : eqF 1 (D.int x) (D.int y) = false := by simp [eqF, e]
        rw [this, if_neg e]
        rfl
theorem lvl1 {b : Bag} (h : b ≠ []) : lvl 1 (bagD b) = true := by
  show (!(intsD b).isEmpty && (intsD b).all (lvl 0)) = true
  rw [lvl_ints]
  cases b with
  | nil => exact absurd rfl h
  | cons x b => rfl
theorem sort_bags (o : Bool) {F : List Bag} (h : ∀ b ∈ F, b ≠ []) (hne : F ≠ []) : sortLF (.lst o (F.map bagD)) = some (.lst true ((srtB F).map bagD)) := by
  have h0 : (F.map bagD).all (lvl 0) = false := by
    cases F with
    | nil => exact absurd rfl hne
    | cons b F => rfl
  have h1 : (F.map bagD).all (lvl 1) = true := by
    rw [List.all_eq_true]
    intro d hd
    obtain ⟨b, hb, rfl⟩ := List.mem_map.mp hd
    exact lvl1 (h b hb)
  unfold sortLF lvlOf
  simp only [seq_lst, h0, h1, if_true]
  simp only [Bool.false_eq_true, if_false]
  rw [isort_map (f := bagD) (lt' := HT.lexLt) lt1]
end Pl
/-! Pl5: families drawn -/
namespace Pl
open Va L2 PySem

def RowOk (ns : List Int) (d : D) : Prop := ∃ a b c, d = row ns a b c ∧ 0 ≤ a ∧ 0 ≤ b ∧ b < 2147483647
@[simp] theorem imm_row (ns : List Int) (a b c : Int) : imm (row ns a b c) = false := rfl
@[simp] theorem res_nil (ds : List D) (os : List (Option D)) (s : S) : restore [] ds os s = s := rfl
@[simp] theorem res_some (i : Nat) (b : Back) (d : D) (ds : List D) (o : Option D) (os : List (Option D)) (s : S) : restore (some i :: b) (d :: ds) (o :: os) s = (match imm d with
    | true => restore b ds os s
    | false => restore b ds os (s.set i o)) := rfl
@[simp] theorem res_none (b : Back) (d : D) (ds : List D) (o : Option D) (os : List (Option D)) (s : S) : restore (none :: b) (d :: ds) (o :: os) s = restore b ds os s := rfl
@[simp] theorem outs0 (RO : Nat → Bool) (j : Nat) (s : S) : outsOf RO j 0 s = [] := rfl
@[simp] theorem outs1 (RO : Nat → Bool) (j n : Nat) (x : Option D) (s : S) : outsOf RO j (n + 1) (x :: s) = (match RO j with
      | true => x
      | false => none) :: outsOf RO (j + 1) n s := rfl
@[simp] theorem isLst0 (o : Bool) (xs : List D) (s : S) : isLst 0 (some (.lst o xs) :: s) = true := rfl
theorem isLst_s (i : Nat) (x : Option D) (s : S) : isLst (i + 1) (x :: s) = isLst i s := by unfold isLst; simp
@[simp] theorem isLst1 (x : Option D) (s : S) : isLst 1 (x :: s) = isLst 0 s := isLst_s 0 x s
@[simp] theorem isLst2 (x : Option D) (s : S) : isLst 2 (x :: s) = isLst 1 s := isLst_s 1 x s
@[simp] theorem isLst3 (x : Option D) (s : S) : isLst 3 (x :: s) = isLst 2 s := isLst_s 2 x s
@[simp] theorem isLst4 (x : Option D) (s : S) : isLst 4 (x :: s) = isLst 3 s := isLst_s 3 x s
@[simp] theorem isLst5 (x : Option D) (s : S) : isLst 5 (x :: s) = isLst 4 s := isLst_s 4 x s
@[simp] theorem isLst6 (x : Option D) (s : S) : isLst 6 (x :: s) = isLst 5 s := isLst_s 5 x s
@[simp] theorem isLst7 (x : Option D) (s : S) : isLst 7 (x :: s) = isLst 6 s := isLst_s 6 x s
@[simp] theorem isLst8 (x : Option D) (s : S) : isLst 8 (x :: s) = isLst 7 s := isLst_s 7 x s
@[simp] theorem isLst9 (x : Option D) (s : S) : isLst 9 (x :: s) = isLst 8 s := isLst_s 8 x s
/-- a number drawn -/
def SpTaken (ns : List Int) (f : Fn) : Prop := ∀ r many, RowOk ns r → 1 ≤ many → many ≤ 1000000 → ∃ x r', f [r, .int many] = some (.int x, [some r', some (.int many)]) ∧ 0 ≤ x ∧ x < many ∧ RowOk ns r'
theorem taken_sp (ns : List Int) : SpTaken ns f__law_taken := fun r many ⟨a, b, c, e, h1, h2, h3⟩ hm hm2 => by
  subst e
  obtain ⟨x, a', b', c', e, k1, k2, k3⟩ := taken_ok ns (c := c) h1 h2 h3 hm hm2
  exact ⟨x, _, e, k1, k2, a', b', c', rfl, k3⟩
theorem RowOk.imm {ns : List Int} {r : D} (h : RowOk ns r) : Va.imm r = false := by
  obtain ⟨a, b, c, rfl, _⟩ := h
  rfl
/-- a thing drawn -/
def SpPick (ns : List Int) (f : Fn) : Prop := ∀ r (o : Bool) (xs : List D), RowOk ns r → xs ≠ [] → xs.length ≤ 1000000 → (∀ x ∈ xs, Va.imm x = true) → ∃ x ∈ xs, ∃ r' o1, f [r, .lst o xs] = some (x, [some r', o1]) ∧ RowOk ns r'
theorem pick_sp {ns : List Int} {f : Fn} (ht : SpTaken ns f) : SpPick ns (f__law_pick f) := fun r o xs hr hne hl hi => by
  have hpos : 0 < xs.length := List.length_pos_iff.mpr hne
  obtain ⟨x, r', e, h0, h1, hr'⟩ := ht r xs.length hr (by omega) (by omega)
  have hx : x.toNat < xs.length := by omega
  refine ⟨xs[x.toNat], List.getElem_mem hx, r', some (.lst o xs), ?_, hr'⟩
  have ha : atI xs x = some xs[x.toNat] := by rw [atI_ok h0 (by omega), List.getElem?_eq_getElem hx]
  unfold f__law_pick m__law_pick
  simp [runD, hr.imm, e, ha, hi _ (List.getElem_mem hx)]
theorem all_imm_ints (b : List Int) : (intsD b).all Va.imm = true := by
  rw [List.all_eq_true]
  intro d hd
  obtain ⟨x, _, rfl⟩ := List.mem_map.mp hd
  rfl
theorem LN_eq' : LN = 16777216 := rfl
theorem ble_ok {n : Nat} (h : n ≤ 16777216) : Nat.ble n LN = true := Nat.ble_eq_true_of_le (LN_eq' ▸ h)
theorem blt_ok {n : Nat} (h : n < 16777216) : Nat.blt n LN = true := ble_ok h
@[simp] theorem ble0 : Nat.ble 0 LN = true := ble_ok (by omega)
@[simp] theorem ble1 : Nat.ble 1 LN = true := ble_ok (by omega)
@[simp] theorem ble2 : Nat.ble 2 LN = true := ble_ok (by omega)
@[simp] theorem ble3 : Nat.ble 3 LN = true := ble_ok (by omega)
@[simp] theorem ble4 : Nat.ble 4 LN = true := ble_ok (by omega)
@[simp] theorem ble5 : Nat.ble 5 LN = true := ble_ok (by omega)
@[simp] theorem ble6 : Nat.ble 6 LN = true := ble_ok (by omega)
theorem erase_map {α β : Type} (f : α → β) (l : List α) (i : Nat) : (l.map f).eraseIdx i = (l.eraseIdx i).map f := by
  induction l generalizing i with
  | nil => simp
  | cons x l ih => cases i <;> simp [ih]
theorem small_of {i : Int} (h : -16777216 ≤ i) (h2 : i ≤ 16777216) : smallI i = true := smallI_of (by omega) (by omega)
theorem rgD_len (a b : Int) : (rgD a b).length = (b - a).toNat := by simp [rgD]
theorem erase_perm {b : List Int} {i : Nat} (h : i < b.length) : b.Perm (b[i] :: b.eraseIdx i) := by
  induction b generalizing i with
  | nil => simp at h
  | cons x b ih =>
    cases i with
    | zero => simp
    | succ i =>
      simp only [List.eraseIdx_cons_succ, List.getElem_cons_succ]
      exact ((ih (i := i) (by simpa using h)).cons x).trans (.swap _ _ _)
theorem seqIx {i : Int} {n : Nat} (h0 : 0 ≤ i) (h1 : i < n) : seqIndex? i n = some i.toNat := by
  have e : ixN n i = some i.toNat := by unfold ixN; rw [if_pos h0, if_pos h1]
  exact (ixN_seq e).1
/-- mixed -/
def SpMixed (ns : List Int) (f : Fn) : Prop := ∀ r (o : Bool) (b : List Int), RowOk ns r → b.length ≤ 1000000 → ∃ c r' o1, f [r, .lst o (intsD b)] = some (.lst true (intsD c), [some r', o1]) ∧ c.Perm b ∧ RowOk ns r'
theorem mixed_sp {ns : List Int} {f : Fn} (ht : SpTaken ns f) : SpMixed ns (f__law_mixed f) := fun r o b hr hl => by
  unfold f__law_mixed m__law_mixed
  have key := forL_inv (t := .n 2) (b := mDo (mApp 4 (mPopAt 3 (mCall f (mCons (mTake 0) (mCons (m1 (.v 3) lenF) mNil)) [some 0, none]))))
    (fun i st => ∃ r' left found x, st = [some r', some (.lst o (intsD b)), x, some (.lst true (intsD left)), some (.lst true (intsD found))] ∧ RowOk ns r' ∧ (left ++ found).Perm b ∧ left.length + i = b.length)
    (ds := rgD 0 b.length) (k := 0) (st := [some r, some (.lst o (intsD b)), none, some (.lst true (intsD b)), some (.lst true (intsD []))])
    ⟨r, b, [], none, rfl, hr, by simp, by simp⟩ fun i d st hi ⟨r', left, found, x, e, hr', hp, hn⟩ => by
      subst e
      have hi' : i < b.length := by
        have := (List.getElem?_eq_some_iff.mp hi).1
        rw [rgD_len] at this
        omega
      have hll : 0 < left.length := by omega
      obtain ⟨x, r2, e, h0, h1, hr2⟩ := ht r' left.length hr' (by omega) (by omega)
      have hx : x.toNat < left.length := by omega
      have hfl : found.length < 16777216 := by
        have := hp.length_eq
        rw [List.length_append] at this
        omega
      refine ⟨_, [some r2, some (.lst o (intsD b)), some d, some (.lst true (intsD (left.eraseIdx x.toNat))), some (.lst true (intsD (found ++ [left[x.toNat]])))], rfl, .inl ?_, r2, left.eraseIdx x.toNat, found ++ [left[x.toNat]], some d, rfl, hr2, ?_, ?_⟩
      · have hs := small_of (i := x) (by omega) (by omega)
        simp [hr'.imm, e, seqIx h0 h1, hs, blt_ok hfl, List.getElem?_eq_getElem hx, erase_map]
      · refine List.Perm.trans ?_ hp
        rw [← List.append_assoc]
        refine List.Perm.trans List.perm_append_comm ?_
        simp only [List.singleton_append, ← List.cons_append]
        exact (erase_perm hx).symm.append_right found
      · rw [List.length_eraseIdx, if_pos hx]
        omega
  obtain ⟨st', e, r', left, found, x, rfl, hr', hp, hn⟩ := key
  have h62 := small_of (i := b.length) (by omega) (by omega)
  have hlc : lstcF (.lst o (intsD b)) = some (.lst true (intsD b)) := by
    unfold lstcF
    simp only [seq_lst, all_imm_ints]
  have hl0 : left = [] := by
    rw [rgD_len] at hn
    exact List.length_eq_zero_iff.mp (by omega)
  subst hl0
  refine ⟨found, r', some (.lst o (intsD b)), ?_, by simpa using hp, hr'⟩
  simp only [List.map_nil] at e
  simp [runD, hlc, h62, e]
end Pl
/-! Pl6: families drawn (2) -/
namespace Pl
open Va L2 PySem

theorem lcL_a {α : Type} {t : Tgt} {mt : M Bool} {me : M D} {own : List Nat} {st : S} (enc : α → D) (f : α → D) (p : α → Bool) : ∀ {l : List α},
    (∀ a ∈ l, ∃ s1 s2, asgT t (enc a) st = some s1 ∧ mt s1 = some (p a, s2) ∧ (p a = true → ∃ s3, me s2 = some (f a, s3) ∧ wipeS s3 own = st) ∧ (p a = false → wipeS s2 own = st)) → lcL t mt me own (l.map enc) st = some ((l.filter p).map f, st)
  | [], _ => rfl
  | a :: l, h => by
    obtain ⟨s1, s2, h1, h2, h3, h4⟩ := h a (List.mem_cons_self ..)
    have ih := lcL_a enc f p (l := l) fun d hd => h d (List.mem_cons_of_mem _ hd)
    rw [List.map_cons]
    unfold lcL
    rw [h1]
    dsimp only
    rw [h2]
    cases e : p a with
    | true =>
      obtain ⟨s3, h5, h6⟩ := h3 e
      dsimp only
      rw [h5]
      dsimp only
      rw [h6, ih]
      simp [e]
    | false =>
      dsimp only
      rw [h4 e, ih]
      simp [e]
theorem mLc_af {α : Type} {mi : M (List D)} {t : Tgt} {mt : M Bool} {me : M D} {own : List Nat} {st s st0 : S} {l : List α} (enc : α → D) (f : α → D) (p : α → Bool) (hmi : mi st = some (l.map enc, s)) (ho : ownOk s own = true) (hl : l.length ≤ 16777216) (hw : wipeS s own = st0)
    (h : ∀ a ∈ l, ∃ s1 s2, asgT t (enc a) st0 = some s1 ∧ mt s1 = some (p a, s2) ∧ (p a = true → ∃ s3, me s2 = some (f a, s3) ∧ wipeS s3 own = st0) ∧ (p a = false → wipeS s2 own = st0)) : mLc mi t mt me own st = some (.lst true ((l.filter p).map f), backS s st0 own) := by
  unfold mLc
  rw [hmi]
  dsimp only
  rw [ho, ble_ok (by rw [List.length_map]; exact hl), hw]
  simp only [Bool.and_self, lcL_a enc f p h]
theorem mLc_a {α : Type} {mi : M (List D)} {t : Tgt} {me : M D} {own : List Nat} {st s st0 : S} {l : List α} (enc : α → D) (f : α → D) (hmi : mi st = some (l.map enc, s)) (ho : ownOk s own = true) (hl : l.length ≤ 16777216) (hw : wipeS s own = st0)
    (h : ∀ a ∈ l, ∃ s1 s3, asgT t (enc a) st0 = some s1 ∧ me s1 = some (f a, s3) ∧ wipeS s3 own = st0) : mLc mi t mYes me own st = some (.lst true (l.map f), backS s st0 own) := by
  rw [mLc_af enc f (fun _ => true) hmi ho hl hw fun d hd => by
    obtain ⟨s1, s3, h1, h2, h3⟩ := h d hd
    exact ⟨s1, s1, h1, rfl, fun _ => ⟨s3, h2, h3⟩, fun e => by cases e⟩]
  rw [List.filter_eq_self.mpr (fun _ _ => rfl)]
def lstD (o : Bool) (b : Bag) : D := .lst o (intsD b)
@[simp] theorem imm_lstD (o : Bool) (b : Bag) : imm (lstD o b) = !o := rfl
@[simp] theorem tup_ints (o : Bool) (b : Bag) : tupcF (.lst o (intsD b)) = some (bagD b) := by
  unfold tupcF
  simp only [all_imm_ints]
  rfl
theorem all_imm_bags (F : List Bag) : (F.map bagD).all Va.imm = true := by
  rw [List.all_eq_true]
  intro d hd
  obtain ⟨x, _, rfl⟩ := List.mem_map.mp hd
  rfl
@[simp] theorem tup_bags (o : Bool) (F : List Bag) : tupcF (.lst o (F.map bagD)) = some (famD F) := by
  unfold tupcF
  simp only [all_imm_bags]
  rfl
theorem frzL_bags (B : List Bag) : frzL (B.map (lstD true)) = B.map (lstD false) := by
  induction B with
  | nil => simp [frzL]
  | cons b B ih => simp [frzL, ih, lstD, frz, frzL_ints]
@[simp] theorem frzA_lstD (o : Bool) (b : Bag) : frzA (lstD o b) = lstD false b := by
  unfold lstD
  rw [frzA_lst]
  cases o <;> simp [frzL_ints]
@[simp] theorem seq_lstD (o : Bool) (b : Bag) : seqOf (lstD o b) = some (false, intsD b) := rfl
theorem atI_ints {b : List Int} {x : Int} (h0 : 0 ≤ x) (h1 : x < b.length) : atI (intsD b) x = some (.int (b.getD x.toNat 0)) := by
  rw [atI_ok h0 (by simpa using h1), List.getElem?_map]
  have : x.toNat < b.length := by omega
  simp [List.getElem?_eq_getElem this]
def nm (names : List Int) (x : Int) : Int := names.getD x.toNat 0
def renB (names : List Int) (B : List Bag) : List Bag := B.map fun b => srtI (b.map (nm names))
theorem named_ok {B : List Bag} {names : List Int} (hne : B ≠ []) (hb : ∀ b ∈ B, b ≠ [] ∧ b.length ≤ 1000000 ∧ ∀ x ∈ b, 0 ≤ x ∧ x < names.length) (hl : B.length ≤ 1000000) :
    ∃ o1 o2, f__law_named [.lst true (B.map (lstD true)), lstD true names] = some (famD (srtB (renB names B)), [o1, o2]) := by
  unfold f__law_named m__law_named
  refine ⟨some (.lst false (B.map (lstD false))), some (lstD true names), ?_⟩
  simp [runD, frzL_bags]
  rw [mLc_a (l := B) (lstD false) (fun b => bagD (srtI (b.map (nm names)))) (s := [some (.lst false (B.map (lstD false))), some (lstD true names), none, none]) (st0 := [some (.lst false (B.map (lstD false))), some (lstD true names), none, none])
    (by simp [frzL_bags]) (by simp) (by omega) (by simp) fun b hbB => by
      obtain ⟨h1, h2, h3⟩ := hb b hbB
      refine ⟨_, [some (.lst false (B.map (lstD false))), some (lstD true names), some (lstD false b), none], by simp; rfl, ?_, by simp⟩
      simp
      rw [mLc_a (l := b) D.int (fun x => .int (nm names x)) (s := [some (.lst false (B.map (lstD false))), some (lstD true names), some (lstD false b), none]) (st0 := [some (.lst false (B.map (lstD false))), some (lstD true names), some (lstD false b), none])
        (by simp) (by simp) (by omega) (by simp) fun x hx => by
          refine ⟨_, [some (.lst false (B.map (lstD false))), some (lstD true names), some (lstD false b), some (.int x)], by simp; rfl, ?_, by simp⟩
          have : atI (intsD names) x = some (.int (nm names x)) := atI_ints (h3 x hx).1 (h3 x hx).2
          simp [lstD, this]]
      have e : (b.map fun x => D.int (nm names x)) = intsD (b.map (nm names)) := by simp
      rw [e]
      simp [sort_ints, -List.map_map]]
  have e : (B.map fun b => bagD (srtI (b.map (nm names)))) = (renB names B).map bagD := by unfold renB; rw [List.map_map]; rfl
  rw [e]
  have hs := sort_bags true (F := renB names B) (fun c hc => by
    obtain ⟨b, hb', rfl⟩ := List.mem_map.mp hc
    intro h0
    have := (isP_perm ltI (b.map (nm names))).length_eq
    rw [show isP ltI (b.map (nm names)) = [] from h0] at this
    simp at this
    exact (hb b hb').1 (List.length_eq_zero_iff.mp this.symm)) (by simpa [renB] using hne)
  simp [hs]
end Pl
/-! Pl7: families drawn (3) -/
namespace Pl
open Va L2 PySem

def iot (n : Int) : List Int := (List.range n.toNat).map fun (i : Nat) => (i : Int)
theorem rgD0 (n : Int) : rgD 0 n = intsD (iot n) := by
  unfold rgD iot
  simp
theorem iot_len (n : Int) : (iot n).length = n.toNat := by simp [iot]
theorem iot_mem {n x : Int} : x ∈ iot n ↔ 0 ≤ x ∧ x < n := by
  unfold iot
  simp only [List.mem_map, List.mem_range]
  constructor
  · rintro ⟨i, hi, rfl⟩; omega
  · rintro ⟨h0, h1⟩; exact ⟨x.toNat, by omega, by omega⟩
theorem iot_nodup (n : Int) : (iot n).Nodup := by
  unfold iot
  refine List.pairwise_map.mpr (List.nodup_range.imp fun {a b} h e => h ?_)
  omega
/-- names mixed -/
theorem Raw.ren {n : Int} {B : List Bag} (R : Raw n B) {c : List Int} (hc : c.Perm (iot n)) : Raw n (renB c B) := by
  have hl : c.length = n.toNat := by rw [hc.length_eq, iot_len]
  have nd : c.Nodup := hc.nodup_iff.mpr (iot_nodup n)
  have at' : ∀ x, 0 ≤ x → x < n → ∃ h : x.toNat < c.length, nm c x = c[x.toNat] := fun x h0 h1 => by
    have h : x.toNat < c.length := by omega
    refine ⟨h, ?_⟩
    unfold nm
    simp [List.getD, List.getElem?_eq_getElem h]
  have R1 := R.named (g := nm c) (fun x h0 h1 => by
      obtain ⟨h, e⟩ := at' x h0 h1
      rw [e]
      exact iot_mem.mp (hc.mem_iff.mp (List.getElem_mem h)))
    (fun x y x0 x1 y0 y1 e => by
      obtain ⟨h, e1⟩ := at' x x0 x1
      obtain ⟨h', e2⟩ := at' y y0 y1
      rw [e1, e2] at e
      have := (List.getElem_inj nd).mp e
      omega)
    (fun y y0 y1 => by
      have : y ∈ c := hc.mem_iff.mpr (iot_mem.mpr ⟨y0, y1⟩)
      obtain ⟨i, hi, e⟩ := List.getElem_of_mem this
      refine ⟨i, by omega, by omega, ?_⟩
      obtain ⟨h, e1⟩ := at' i (by omega) (by omega)
      rw [e1]
      simpa using e)
  have R2 := R1.mapB (f := srtI) fun b _ => isP_perm _ b
  unfold renB
  rw [List.map_map] at R2
  exact R2
/-- a family drawn -/
def SpFamily (ns : List Int) (f : Fn) : Prop := ∀ r most, RowOk ns r → 2 ≤ most → most ≤ 60 → ∃ F n r', Fam n F ∧ n ≤ most ∧ f [r, .int most] = some (famD F, [some r', some (.int most)]) ∧ RowOk ns r'
def bagsD (B : List Bag) : D := .lst true (B.map (lstD true))
@[simp] theorem imm_bagsD (B : List Bag) : imm (bagsD B) = false := rfl
@[simp] theorem len_bagsD (B : List Bag) : lenF (bagsD B) = some (.int B.length) := by simp [bagsD]
theorem isLst_bagsD (B : List Bag) (s : S) : isLst 0 (some (bagsD B) :: s) = true := rfl
theorem eq0 (x : Int) : (x == 0) = decide (x = 0) := by by_cases h : x = 0 <;> simp [h]
theorem family_sp {ns : List Int} {ct cp cm cn : Fn} (ht : SpTaken ns ct) (hp : SpPick ns cp) (hm : SpMixed ns cm) (hn : ∀ {B : List Bag} {names : List Int}, B ≠ [] → (∀ b ∈ B, b ≠ [] ∧ b.length ≤ 1000000 ∧ ∀ x ∈ b, 0 ≤ x ∧ x < names.length) → B.length ≤ 1000000 → ∃ o1 o2, cn [.lst true (B.map (lstD true)), lstD true names] = some (famD (srtB (renB names B)), [o1, o2])) :
    SpFamily ns (f__law_family cp ct cm cn) := fun r most hr hm2 hm60 => by
  obtain ⟨x1, r1, e1, x0, x1l, hr1⟩ := ht r (most - 1) hr (by omega) (by omega)
  obtain ⟨y, hy, r2, o2, e2, hr2⟩ := hp r1 true [.int 2, .int 3, .int 3, .int 4, .int 9] hr1 (by simp) (by simp) (by simp)
  obtain ⟨o, rfl, o0, o9⟩ : ∃ o : Int, y = .int o ∧ 2 ≤ o ∧ o ≤ 9 := by
    simp at hy
    rcases hy with rfl | rfl | rfl | rfl | rfl
    all_goals exact ⟨_, rfl, by omega, by omega⟩
  have key := forL_inv (t := .n 3) (b := (mIf (mB (m2 (.e (mCall ct (mCons (mTake 0) (mCons (mTake 5) mNil)) [some 0, some 5])) (.e (mC (.int 0))) (cmpF .Eq))) (mDo (mApp2 2 (mCall ct (mCons (mTake 0) (mCons (m1 (.v 2) lenF) mNil)) [some 0, none]) (.v 3))) (mDo (mApp 2 (mLst (mCons (mCall ct (mCons (mTake 0) (mCons (mTake 3) mNil)) [some 0, some 3]) (mCons (mVar 3) mNil)))))))
    (fun i st => ∃ r' B x, st = [some r', some (.int most), some (bagsD B), x, some (.int (2 + x1)), some (.int o)] ∧ RowOk ns r' ∧ Raw (2 + (i : Int)) B)
    (ds := rgD 2 (2 + x1)) (k := 0) (st := [some r2, some (.int most), some (bagsD [[0, 1]]), none, some (.int (2 + x1)), some (.int o)])
    ⟨r2, [[0, 1]], none, rfl, hr2, by simpa using raw2⟩ fun i d st hi ⟨r', B, x, e, hr', R⟩ => by
      subst e
      have hd := rgD_get hi
      subst hd
      have hi' : i < x1.toNat := by
        have := (List.getElem?_eq_some_iff.mp hi).1
        rw [rgD_len] at this
        omega
      rw [Nat.zero_add] at R
      rw [Nat.zero_add]
      obtain ⟨z, r3, e3, z0, z1, hr3⟩ := ht r' o hr' (by omega) (by omega)
      have hfew := R.few
      by_cases hz : z = 0
      · subst hz
        have hBne := R.ne (by omega)
        have hBpos : 0 < B.length := List.length_pos_iff.mpr hBne
        obtain ⟨j, r4, e4, j0, j1, hr4⟩ := ht r3 B.length hr3 (by omega) (by omega)
        have hj : j.toNat < B.length := by omega
        have hbl := R.bag_le B[j.toNat] (List.getElem_mem hj)
        refine ⟨_, [some r4, some (.int most), some (bagsD (B.set j.toNat (B[j.toNat] ++ [2 + (i : Int)]))), some (.int (2 + (i : Nat))), some (.int (2 + x1)), some (.int o)], rfl, .inl ?_, r4, _, _, rfl, hr4, ?_⟩
        · have hix : ixN B.length j = some j.toNat := by unfold ixN; rw [if_pos j0, if_pos j1]
          have hg : B[j.toNat]? = some B[j.toNat] := List.getElem?_eq_getElem hj
          have hblt : Nat.blt B[j.toNat].length LN = true := blt_ok (by omega)
          simp [hr'.imm, hr3.imm, e3, isLst_bagsD, e4]
          simp [bagsD, hix, hg, lstD, hblt, Atm.get]
        · rw [show (2 : Int) + ((i + 1 : Nat) : Int) = (2 + (i : Int)) + 1 by omega]
          exact R.push (List.getElem?_eq_getElem hj)
      · obtain ⟨j, r4, e4, j0, j1, hr4⟩ := ht r3 (2 + (i : Int)) hr3 (by omega) (by omega)
        refine ⟨_, [some r4, some (.int most), some (bagsD (B ++ [[j, 2 + (i : Int)]])), some (.int (2 + (i : Nat))), some (.int (2 + x1)), some (.int o)], rfl, .inl ?_, r4, _, _, rfl, hr4, ?_⟩
        · have hblt : Nat.blt B.length LN = true := blt_ok (by omega)
          have hzb : (z == 0) = false := by simpa using hz
          simp [hr'.imm, hr3.imm, e3, isLst_bagsD, e4, hzb]
          simp [bagsD, hblt, lstD]
        · rw [show (2 : Int) + ((i + 1 : Nat) : Int) = (2 + (i : Int)) + 1 by omega]
          exact R.snoc j0 j1
  obtain ⟨st', e, r', B, x, rfl, hr', R⟩ := key
  rw [rgD_len, Nat.zero_add, show (2 : Int) + (((2 + x1 - 2).toNat : Nat) : Int) = 2 + x1 by omega] at R
  have hlen := iot_len (2 + x1)
  obtain ⟨c, r5, o5, e5, hc, hr5⟩ := hm r' true (iot (2 + x1)) hr' (by omega)
  have hcl : c.length = (2 + x1).toNat := by rw [hc.length_eq, iot_len]
  have hfew := R.few
  obtain ⟨o6, o7, e6⟩ := hn (B := B) (names := c) (R.ne (by omega)) (fun b hb => by
    have h1 := R.len b hb
    have h2 := R.bag_le b hb
    refine ⟨fun h => by rw [h] at h1; simp at h1, by omega, fun x hx => ?_⟩
    have := R.rng b hb x hx
    omega) (by omega)
  refine ⟨srtB (renB c B), 2 + x1, r5, ?_, by omega, ?_, hr5⟩
  · have F := (R.ren hc).perm (isP_perm HT.lexLt _).symm
    refine { toRaw := F, n2 := by omega, n60 := by omega, asc := fun b hb => ?_, srt := srtB_srt (R.ren hc).nodup }
    have hb' := (isP_perm HT.lexLt _).mem_iff.mp hb
    obtain ⟨b0, hb0, rfl⟩ := List.mem_map.mp hb'
    refine srtI_asc ?_
    exact (isP_perm ltI _).nodup_iff.mp ((R.ren hc).nd _ hb')
  · have hs2 := small_of (i := (2 : Int)) (by omega) (by omega)
    have hsz := small_of (i := 2 + x1) (by omega) (by omega)
    have hrg := rgOk_of (n := 2 + x1) (by omega) (by omega)
    unfold f__law_family m__law_family
    simp [runD, hr.imm, hr1.imm, e1, e2, hs2, hsz]
    have hb0 : bagsD [[0, 1]] = .lst true [.lst true [.int 0, .int 1]] := rfl
    rw [hb0] at e
    simp [e, rg1F, hrg, rgD0, hr'.imm, e5, hr5.imm]
    have e6' : cn [bagsD B, .lst true (intsD c)] = some (famD (srtB (renB c B)), [o6, o7]) := e6
    simp [e6']
end Pl
/-! Pl8: what is asked of a family (1) -/
namespace Pl
open Va L2 PySem

@[simp] theorem isi_int (i : Int) : isiF .int (.int i) = some (.bl true) := rfl
@[simp] theorem isi_int_b (i : Int) : isiF .bool (.int i) = some (.bl false) := rfl
@[simp] theorem isi_int_s (i : Int) : isiF .str (.int i) = some (.bl false) := rfl
@[simp] theorem isi_tup (xs : List D) : isiF .tuple (.tup xs) = some (.bl true) := rfl
@[simp] theorem isi_tup_l (xs : List D) : isiF .list (.tup xs) = some (.bl false) := rfl
@[simp] theorem imm_bag (b : Bag) : imm (bagD b) = true := rfl
@[simp] theorem imm_fam (F : List Bag) : imm (famD F) = true := rfl
@[simp] theorem isi_bag (b : Bag) : isiF .tuple (bagD b) = some (.bl true) := rfl
@[simp] theorem isi_fam (b : List Bag) : isiF .tuple (famD b) = some (.bl true) := rfl
@[simp] theorem len_bag (b : Bag) : lenF (bagD b) = some (.int b.length) := by simp [bagD]
@[simp] theorem len_fam (b : List Bag) : lenF (famD b) = some (.int b.length) := by simp [famD]
@[simp] theorem frzA_bag (b : Bag) : frzA (bagD b) = bagD b := rfl
@[simp] theorem frzA_fam (b : List Bag) : frzA (famD b) = famD b := rfl
@[simp] theorem seq_bag (b : Bag) : seqOf (bagD b) = some (true, intsD b) := rfl
@[simp] theorem seq_fam (b : List Bag) : seqOf (famD b) = some (true, b.map bagD) := rfl
theorem is_int_ok (n : Int) : f_is_int [.int n] = some (.bl true, [some (.int n)]) := by
  unfold f_is_int m_is_int
  simp [runD]
theorem is_in_ok {c : Fn} (hc : ∀ n, c [.int n] = some (.bl true, [some (.int n)])) {v lo hi : Int} (h1 : lo ≤ v) (h2 : v ≤ hi) : f_is_in c [.int v, .int lo, .int hi] = some (.bl true, [some (.int v), some (.int lo), some (.int hi)]) := by
  unfold f_is_in m_is_in
  simp [runD, hc, h1, h2]
theorem need_number_ok {c : Fn} {v lo hi : Int} (hc : c [.int v, .int lo, .int hi] = some (.bl true, [some (.int v), some (.int lo), some (.int hi)])) : f_need_number c [.int v, .int lo, .int hi] = some (.non, [some (.int v), some (.int lo), some (.int hi)]) := by
  unfold f_need_number m_need_number
  simp [runD, hc]
/-- an ascending tuple -/
def SpRis (f : Fn) : Prop := ∀ xs : List D, xs.length ≤ 16777216 → (xs.Pairwise fun x y => cmpF .Lt x y = some (.bl true)) → f [.tup xs] = some (.bl true, [some (.tup xs)])
theorem ris_sp : SpRis f_is_rising := fun xs hl h => is_rising_ok (by rw [LN_eq']; exact hl) h
theorem bag_ris {f : Fn} (hf : SpRis f) {b : Bag} (hl : b.length ≤ 16777216) (h : b.Pairwise (· < ·)) : f [bagD b] = some (.bl true, [some (bagD b)]) :=
  hf (intsD b) (by simpa using hl) (List.pairwise_map.mpr (h.imp fun {x y} h => by simp [h]))
theorem toInts_ints (b : List Int) : toInts (intsD b) = some b := by
  induction b with
  | nil => rfl
  | cons x b ih => simp [toInts, ih]
theorem fam_ris {f : Fn} (hf : SpRis f) {F : List Bag} (hl : F.length ≤ 16777216) (h : F.Pairwise fun a b => HT.lexLt a b = true) : f [famD F] = some (.bl true, [some (famD F)]) :=
  hf (F.map bagD) (by simpa using hl) (List.pairwise_map.mpr (h.imp fun {x y} h => by
    show ltF (.tup (intsD x)) (.tup (intsD y)) = _
    simp only [ltF, toInts_ints, h]))
theorem is_bag_ok {ci cr : Fn} (hi : ∀ v, 0 ≤ v → v ≤ 59 → ci [.int v, .int 0, .int 59] = some (.bl true, [some (.int v), some (.int 0), some (.int 59)])) (hr : SpRis cr) {b : Bag} (h2 : 2 ≤ b.length) (hl : b.length ≤ 1000000) (hx : ∀ x ∈ b, 0 ≤ x ∧ x ≤ 59) (ha : b.Pairwise (· < ·)) :
    f_is_bag ci cr [bagD b] = some (.bl true, [some (bagD b)]) := by
  have h2' : ¬ ((b.length : Int) < 2) := by omega
  have hr' := bag_ris hr (by omega) ha
  unfold f_is_bag m_is_bag
  simp [runD, h2']
  rw [mLc_a (l := b) D.int (fun x => .bl true) (s := [some (bagD b), none]) (st0 := [some (bagD b), none]) (by simp) (by simp) (by omega) (by simp) fun x hxb => by
    refine ⟨_, [some (bagD b), some (.int x)], by simp; rfl, ?_, by simp⟩
    simp [hi x (hx x hxb).1 (hx x hxb).2]]
  simp [all_true, hr']
theorem shp_ints (n : Nat) (b : List Int) : (intsD b).all (shp (n + 1)) = true := by
  rw [List.all_eq_true]
  intro d hd
  obtain ⟨x, _, rfl⟩ := List.mem_map.mp hd
  rfl
theorem shp_bags (n : Nat) (F : List Bag) : (F.map bagD).all (shp (n + 2)) = true := by
  rw [List.all_eq_true]
  intro d hd
  obtain ⟨x, _, rfl⟩ := List.mem_map.mp hd
  exact shp_ints n x
theorem eq_fam0 {F : List Bag} (h : F ≠ []) : eqcF (famD F) (.tup []) = some (.bl false) := by
  have s1 : shp 60 (famD F) = true := shp_bags 57 F
  have s2 : shp 60 (.tup []) = true := rfl
  unfold eqcF eqD
  rw [s1, s2]
  cases F with
  | nil => exact absurd rfl h
  | cons b F => rfl
def SpBag (f : Fn) : Prop := ∀ {n : Int} {b : Bag}, n ≤ 60 → 2 ≤ b.length → b.length ≤ 1000000 → (∀ x ∈ b, 0 ≤ x ∧ x < n) → b.Pairwise (· < ·) → f [bagD b] = some (.bl true, [some (bagD b)])
theorem bag_sp {ci cr : Fn} (hi : ∀ v, 0 ≤ v → v ≤ 59 → ci [.int v, .int 0, .int 59] = some (.bl true, [some (.int v), some (.int 0), some (.int 59)])) (hr : SpRis cr) : SpBag (f_is_bag ci cr) := fun hn h2 hl hx ha =>
  is_bag_ok hi hr h2 hl (fun x h => by have := hx x h; omega) ha
theorem Fam.bagOk {n : Int} {F : List Bag} (H : Fam n F) {f : Fn} (hf : SpBag f) {b : Bag} (hb : b ∈ F) : f [bagD b] = some (.bl true, [some (bagD b)]) := by
  have h1 := H.bag_le b hb
  have h2 := H.n60
  exact hf H.n60 (H.len b hb) (by omega) (H.rng b hb) (H.asc b hb)
theorem Fam.len_le {n : Int} {F : List Bag} (H : Fam n F) : F.length ≤ 59 := by
  have h1 := H.few
  have h2 := H.n60
  omega
theorem need_bags_ok {cb cr : Fn} (hb : SpBag cb) (hr : SpRis cr) {n : Int} {F : List Bag} (H : Fam n F) : f_need_bags cb cr [famD F] = some (.non, [some (famD F)]) := by
  have hl := H.len_le
  have hr' := fam_ris hr (by omega) H.srt
  unfold f_need_bags m_need_bags
  simp [runD, eq_fam0 (H.ne H.n2)]
  rw [mLc_a (l := F) bagD (fun x => .bl true) (s := [some (famD F), none]) (st0 := [some (famD F), none]) (by simp) (by simp) (by omega) (by simp) fun b hbF => by
    refine ⟨_, [some (famD F), some (bagD b)], by simp; rfl, ?_, by simp⟩
    simp [H.bagOk hb hbF]]
  simp [all_true, hr']
theorem is_family_ok {cb cr cbar : Fn} (hb : SpBag cb) (hr : SpRis cr) {n : Int} {F : List Bag} (H : Fam n F) (hbar : cbar [famD F] = some (.non, [some (famD F)])) : f_is_family cb cr cbar [famD F] = some (.bl true, [some (famD F)]) := by
  have hl := H.len_le
  have hr' := fam_ris hr (by omega) H.srt
  unfold f_is_family m_is_family
  simp [runD, eq_fam0 (H.ne H.n2)]
  rw [mLc_a (l := F) bagD (fun x => .bl true) (s := [some (famD F), none]) (st0 := [some (famD F), none]) (by simp) (by simp) (by omega) (by simp) fun b hbF => by
    refine ⟨_, [some (famD F), some (bagD b)], by simp; rfl, ?_, by simp⟩
    simp [H.bagOk hb hbF]]
  simp [all_true, hr', hbar, isB]
theorem getLast_atI {b : Bag} (h : b ≠ []) : atI (intsD b) (-1) = some (.int (b.getLast h)) := by
  have hl : 0 < b.length := List.length_pos_iff.mpr h
  have e : ixN (intsD b).length (-1) = some (b.length - 1) := by
    unfold ixN
    rw [if_neg (by omega), if_pos (by simp; omega)]
    simp
    omega
  unfold atI
  rw [e]
  simp [List.getLast_eq_getElem, List.getElem?_eq_getElem (show b.length - 1 < b.length by omega)]
/-- the greatest bead -/
theorem Fam.greatest {n : Int} {F : List Bag} (H : Fam n F) : maxF (.lst true (F.map fun b => D.int (b.getLast?.getD 0))) = some (.int (n - 1)) := by
  have h1 : ∀ b ∈ F, b.getLast?.getD 0 ≤ n - 1 ∧ (n - 1 ∈ b → b.getLast?.getD 0 = n - 1) := fun b hb => by
    have hne : b ≠ [] := fun e => by have := H.len b hb; rw [e] at this; simp at this
    rw [List.getLast?_eq_some_getLast hne]
    have hm := List.getLast_mem hne
    have := H.rng b hb _ hm
    refine ⟨by simp; omega, fun hn => ?_⟩
    simp
    have ha := H.asc b hb
    rw [← List.dropLast_concat_getLast hne] at ha hn
    rcases List.mem_append.mp hn with q | q
    · have := (List.pairwise_append.mp ha).2.2 _ q (b.getLast hne) (by simp)
      omega
    · simp at q; omega
  obtain ⟨b, hb, hn⟩ := H.cov (n - 1) (by have := H.n2; omega) (by omega)
  have e : F.map (fun b => D.int (b.getLast?.getD 0)) = intsD (F.map fun b => b.getLast?.getD 0) := by unfold intsD; rw [List.map_map]; rfl
  rw [e]
  unfold maxF intsF lstOf
  simp only [toInts_ints]
  cases hF : F.map (fun b => b.getLast?.getD 0) with
  | nil => rw [List.map_eq_nil_iff] at hF; rw [hF] at hb; simp at hb
  | cons x xs =>
    obtain ⟨i1, i2⟩ := imax_spec xs x
    have m1 : imax x xs ∈ F.map (fun b => b.getLast?.getD 0) := by rw [hF]; exact i1
    obtain ⟨c, hc, ec⟩ := List.mem_map.mp m1
    have m2 : n - 1 ∈ F.map (fun b => b.getLast?.getD 0) := List.mem_map.mpr ⟨b, hb, (h1 b hb).2 hn⟩
    have m3 := i2 (n - 1) (by rw [← hF]; exact m2)
    have m4 := (h1 c hc).1
    have : imax x xs = n - 1 := by omega
    simp [this]
theorem Fam.lastAt {n : Int} {F : List Bag} (H : Fam n F) {b : Bag} (hb : b ∈ F) : ixF (bagD b) (.int (-1)) = some (.int (b.getLast?.getD 0)) := by
  have hne : b ≠ [] := fun e => by have := H.len b hb; rw [e] at this; simp at this
  show immO (atI (intsD b) (-1)) = _
  rw [getLast_atI hne, List.getLast?_eq_some_getLast hne]
  rfl
theorem size_of_ok {n : Int} {F : List Bag} (H : Fam n F) : f_size_of [famD F] = some (.int n, [some (famD F)]) := by
  have hl := H.len_le
  unfold f_size_of m_size_of
  simp [runD]
  rw [mLc_a (l := F) bagD (fun b => .int (b.getLast?.getD 0)) (s := [some (famD F), none]) (st0 := [some (famD F), none]) (by simp) (by simp) (by omega) (by simp) fun b hbF => by
    refine ⟨_, [some (famD F), some (bagD b)], by simp; rfl, ?_, by simp⟩
    simp [H.lastAt hbF]]
  simp [H.greatest]
  omega
theorem law_size_ok {n : Int} {F : List Bag} (H : Fam n F) : f__law_size [famD F] = some (.int n, [some (famD F)]) := by
  have hl := H.len_le
  unfold f__law_size m__law_size
  simp [runD]
  rw [mLc_a (l := F) bagD (fun b => .int (b.getLast?.getD 0)) (s := [some (famD F), none]) (st0 := [some (famD F), none]) (by simp) (by simp) (by omega) (by simp) fun b hbF => by
    refine ⟨_, [some (famD F), some (bagD b)], by simp; rfl, ?_, by simp⟩
    simp [H.lastAt hbF]]
  simp [H.greatest]
  omega
end Pl
/-! Pl9: homes, shared beads -/
namespace Pl
open Va L2 PySem

/-! ### dicts of ints told by their keys -/
def kset (l : List Int) : List (D × D) := l.map fun x => (.int x, .bl true)
theorem has_kset (l : List Int) (y : Int) : hasD (kset l) (.int y) = decide (y ∈ l) := by
  induction l with
  | nil => rfl
  | cons x l ih =>
    have e : hasD (kset (x :: l)) (.int y) = (x == y || hasD (kset l) (.int y)) := by
      show (match x == y with
        | true => true
        | false => hasD (kset l) (.int y)) = _
      cases x == y <;> rfl
    rw [e, ih]
    by_cases h : x = y
    · subst h; simp
    · have : (x == y) = false := by simpa using h
      rw [this, Bool.false_or]
      simp [show ¬ y = x from fun e => h e.symm]
theorem look_kset (l : List Int) (y : Int) : (lookD (kset l) (.int y)).isSome = decide (y ∈ l) := by
  induction l with
  | nil => rfl
  | cons x l ih =>
    by_cases h : x = y
    · subst h; simp [kset, lookD, keyEq]
    · have : (x == y) = false := by simpa using h
      have e : lookD (kset (x :: l)) (.int y) = lookD (kset l) (.int y) := by simp [kset, lookD, keyEq, this]
      rw [e, ih]
      simp [show ¬ y = x from fun e => h e.symm]
theorem put_kset {l : List Int} {y : Int} (h : y ∉ l) : putD (kset l) (.int y) (.bl true) = kset (l ++ [y]) := by
  unfold putD
  rw [has_kset, decide_eq_false h]
  simp [kset]
@[simp] theorem in_kset (o : Bool) (l : List Int) (y : Int) : inF (.int y) (.dic o (kset l)) = some (.bl (decide (y ∈ l))) := by
  show blO (some (lookD (kset l) (.int y)).isSome) = _
  rw [look_kset]
  rfl
@[simp] theorem nin_kset (o : Bool) (l : List Int) (y : Int) : ninF (.int y) (.dic o (kset l)) = some (.bl (!decide (y ∈ l))) := by
  unfold ninF
  show (match some (lookD (kset l) (.int y)).isSome with | some c => some (D.bl (!c)) | none => none) = _
  rw [look_kset]
@[simp] theorem kset_len (l : List Int) : (kset l).length = l.length := by simp [kset]
theorem dcL_set {t : Tgt} {mk mv : M D} {own : List Nat} {st : S} : ∀ {l acc : List Int}, (acc ++ l).Nodup →
    (∀ x ∈ l, ∃ s1 s2 s3, asgT t (.int x) st = some s1 ∧ mk s1 = some (.int x, s2) ∧ mv s2 = some (.bl true, s3) ∧ wipeS s3 own = st) → dcL t mYes mk mv own (intsD l) (kset acc) st = some (kset (acc ++ l), st)
  | [], acc, _, _ => by simp [dcL]
  | x :: l, acc, nd, h => by
    obtain ⟨s1, s2, s3, h1, h2, h3, h4⟩ := h x (List.mem_cons_self ..)
    have hx : x ∉ acc := fun hm => (List.nodup_append.mp nd).2.2 x hm x (List.mem_cons_self ..) rfl
    have ih := dcL_set (t := t) (mk := mk) (mv := mv) (own := own) (st := st) (l := l) (acc := acc ++ [x]) (by simpa using nd) fun y hy => h y (List.mem_cons_of_mem _ hy)
    show dcL t mYes mk mv own (.int x :: intsD l) (kset acc) st = _
    unfold dcL
    rw [h1]
    simp only [ev_mYes, h2, h3, keyD, imm_bl, put_kset hx, h4]
    rw [ih]
    simp
theorem mDc_set {mi : M (List D)} {t : Tgt} {mk mv : M D} {own : List Nat} {st s st0 : S} {l : List Int} (hmi : mi st = some (intsD l, s)) (ho : ownOk s own = true) (hl : l.length ≤ 16777216) (nd : l.Nodup) (hw : wipeS s own = st0)
    (h : ∀ x ∈ l, ∃ s1 s2 s3, asgT t (.int x) st0 = some s1 ∧ mk s1 = some (.int x, s2) ∧ mv s2 = some (.bl true, s3) ∧ wipeS s3 own = st0) : mDc mi t mYes mk mv own st = some (.dic true (kset l), backS s st0 own) := by
  unfold mDc
  rw [hmi]
  dsimp only
  rw [ho, ble_ok (by rw [List.length_map]; exact hl), hw]
  have := dcL_set (t := t) (mk := mk) (mv := mv) (own := own) (st := st0) (l := l) (acc := []) (by simpa using nd) h
  simp only [kset, List.map_nil, List.nil_append] at this
  simp only [Bool.and_self, this, kset]
/-- the beads that two bags share -/
theorem shared_ok {a b : Bag} (ha : a.length ≤ 16777216) (hb : b.length ≤ 16777216) (nd : b.Nodup) : f_shared_by [bagD a, bagD b] = some (.lst true (intsD (a.filter fun x => decide (x ∈ b))), [some (bagD a), some (bagD b)]) := by
  unfold f_shared_by m_shared_by
  simp [runD]
  rw [mDc_set (l := b) (s := [some (bagD a), some (bagD b), none, none]) (st0 := [some (bagD a), some (bagD b), none, none]) (by simp) (by simp) hb nd (by simp) fun x hx => by
    refine ⟨_, [some (bagD a), some (bagD b), none, some (.int x)], [some (bagD a), some (bagD b), none, some (.int x)], by simp; rfl, by simp, by simp, by simp⟩]
  simp
  rw [mLc_af (l := a) D.int D.int (fun x => decide (x ∈ b)) (s := [some (bagD a), some (bagD b), some (.dic true (kset b)), none]) (st0 := [some (bagD a), some (bagD b), some (.dic true (kset b)), none]) (by simp) (by simp) ha (by simp) fun x hx => by
    refine ⟨_, [some (bagD a), some (bagD b), some (.dic true (kset b)), some (.int x)], by simp; rfl, by simp, fun _ => ⟨[some (bagD a), some (bagD b), some (.dic true (kset b)), some (.int x)], by simp, by simp⟩, fun _ => by simp⟩]
  simp
theorem One.few {a b : Bag} (h : One a b) (nd : a.Nodup) : (a.filter fun x => decide (x ∈ b)).length ≤ 1 := by
  have n2 : (a.filter fun x => decide (x ∈ b)).Nodup := nd.sublist List.filter_sublist
  match e : (a.filter fun x => decide (x ∈ b)) with
  | [] => simp
  | [_] => simp
  | x :: y :: r =>
    rw [e] at n2
    have hx : x ∈ (a.filter fun x => decide (x ∈ b)) := by rw [e]; simp
    have hy : y ∈ (a.filter fun x => decide (x ∈ b)) := by rw [e]; simp
    simp only [List.mem_filter, decide_eq_true_eq] at hx hy
    have := h x y hx.1 hx.2 hy.1 hy.2
    subst this
    simp at n2
/-! ### homes -/
/-- the bags that hold a bead, by index -/
def hms (F : List Bag) (x : Int) : List Int := (F.zipIdx.filter fun p => decide (x ∈ p.1)).map fun p => (p.2 : Int)
theorem hms_snoc (F : List Bag) (b : Bag) (x : Int) : hms (F ++ [b]) x = hms F x ++ if x ∈ b then [(F.length : Int)] else [] := by
  unfold hms
  rw [List.zipIdx_append, List.filter_append, List.map_append]
  congr 1
  by_cases h : x ∈ b <;> simp [h]
theorem hms_mem {F : List Bag} {x i : Int} : i ∈ hms F x ↔ ∃ (k : Nat) (b : Bag), i = k ∧ F[k]? = some b ∧ x ∈ b := by
  unfold hms
  simp only [List.mem_map, List.mem_filter, decide_eq_true_eq, Prod.exists]
  constructor
  · rintro ⟨b, k, ⟨h1, h2⟩, rfl⟩
    have := List.mem_zipIdx_iff_getElem?.mp h1
    exact ⟨k, b, rfl, this, h2⟩
  · rintro ⟨k, b, rfl, h1, h2⟩
    exact ⟨b, k, ⟨List.mem_zipIdx_iff_getElem?.mpr h1, h2⟩, rfl⟩
theorem iot_get {n : Int} {i : Nat} (h : i < n.toNat) : (iot n)[i]? = some (i : Int) := by
  unfold iot
  simp [h]
theorem iot_set {n y : Int} (y0 : 0 ≤ y) (y1 : y < n) (g : Int → D) (v : D) : ((iot n).map g).set y.toNat v = (iot n).map fun x => if x = y then v else g x := by
  apply List.ext_getElem?
  intro i
  by_cases hi : i < n.toNat
  · rw [List.getElem?_map, iot_get hi]
    by_cases e : y.toNat = i
    · subst e
      rw [List.getElem?_set_self (by rw [List.length_map, iot_len]; exact hi)]
      simp
      omega
    · rw [List.getElem?_set_ne e, List.getElem?_map, iot_get hi]
      simp
      intro h
      omega
  · rw [List.getElem?_eq_none (by rw [List.length_set, List.length_map, iot_len]; omega), List.getElem?_eq_none (by rw [List.length_map, iot_len]; omega)]
def homesL (o : Bool) (n : Int) (h : Int → List Int) : D := .lst o ((iot n).map fun x => lstD o (h x))
theorem homes_ok {cs : Fn} {n : Int} {F : List Bag} (H : Fam n F) (hc : cs [famD F] = some (.int n, [some (famD F)])) : f_homes_of cs [famD F] = some (homesL true n (hms F), [some (famD F)]) := by
  have hl := H.len_le
  have h60 := H.n60
  have h2 := H.n2
  have hsm := small_of (i := n) (by omega) (by omega)
  have inner : ∀ (k : Nat) (b : Bag) (bd : Option D) (h0 : Int → List Int), b.Nodup → (∀ x ∈ b, 0 ≤ x ∧ x < n) → (∀ x, (h0 x).length ≤ 1000000) → ∃ st', forL (.n 4) (mDo (mApp2 1 (mVar 4) (.v 2))) (intsD b) [some (famD F), some (homesL true n h0), some (.int k), some (bagD b), bd] = some (.nx, st') ∧
      ∃ c, st' = [some (famD F), some (homesL true n fun x => h0 x ++ if x ∈ b then [(k : Int)] else []), some (.int k), some (bagD b), c] := fun k b bd h0 nd hr hlen => by
    obtain ⟨st', e, c, es⟩ := forL_inv (t := .n 4) (b := mDo (mApp2 1 (mVar 4) (.v 2))) (fun j st => ∃ c, st = [some (famD F), some (homesL true n fun x => h0 x ++ if x ∈ b.take j then [(k : Int)] else []), some (.int k), some (bagD b), c])
      (ds := intsD b) (k := 0) (st := [some (famD F), some (homesL true n h0), some (.int k), some (bagD b), bd]) ⟨bd, by simp⟩ fun j d st hj ⟨c, es⟩ => by
        subst es
        rw [Nat.zero_add]
        rw [List.getElem?_map] at hj
        cases hy : b[j]? with
        | none => rw [hy] at hj; cases hj
        | some y =>
          rw [hy] at hj
          cases hj
          obtain ⟨hjl, ey⟩ := List.getElem?_eq_some_iff.mp hy
          have hyb : y ∈ b := ey ▸ List.getElem_mem hjl
          obtain ⟨y0, y1⟩ := hr y hyb
          have hyt : y ∉ b.take j := fun hm => by
            have nd2 := nd
            rw [← List.take_append_drop j b] at nd2
            have hd : y ∈ b.drop j := by rw [List.drop_eq_getElem_cons hjl, ey]; simp
            exact (List.nodup_append.mp nd2).2.2 y hm y hd rfl
          have htk : b.take (j + 1) = b.take j ++ [y] := by rw [List.take_succ, hy]; rfl
          refine ⟨_, [some (famD F), some (homesL true n fun x => h0 x ++ if x ∈ b.take (j + 1) then [(k : Int)] else []), some (.int k), some (bagD b), some (.int y)], rfl, .inl ?_, _, rfl⟩
          have hix : ixN (iot n).length y = some y.toNat := by unfold ixN; rw [if_pos y0, if_pos (by rw [iot_len]; omega)]
          have hg : (iot n)[y.toNat]? = some y := by rw [iot_get (by omega)]; congr 1; omega
          have hbl : Nat.blt (h0 y).length LN = true := blt_ok (by have := hlen y; omega)
          simp [homesL, hix, hg, lstD, Atm.get, hyt, hbl, iot_set y0 y1]
          intro x hx
          by_cases e : x = y
          · subst e; simp [htk]
          · simp [htk, e]
    refine ⟨st', e, c, ?_⟩
    rw [es]
    simp
  obtain ⟨st', e, c, d, f, es⟩ := forL_inv (t := .t [2, 3]) (b := mFor (mItems (mVar 3)) (.n 4) (mDo (mApp2 1 (mVar 4) (.v 2)))) (fun k st => ∃ a b c, st = [some (famD F), some (homesL true n (hms (F.take k))), a, b, c])
    (ds := enumD 0 (F.map bagD)) (k := 0) (st := [some (famD F), some (homesL true n (hms [])), none, none, none]) ⟨none, none, none, by simp⟩ fun k d st hk ⟨a1, b1, c1, es⟩ => by
      subst es
      rw [Nat.zero_add]
      obtain ⟨d', hd', rfl⟩ := enumD_get _ 0 k d hk
      rw [List.getElem?_map] at hd'
      cases hb : F[k]? with
      | none => rw [hb] at hd'; cases hd'
      | some b =>
        rw [hb] at hd'
        cases hd'
        obtain ⟨hkl, eb⟩ := List.getElem?_eq_some_iff.mp hb
        have hbF : b ∈ F := eb ▸ List.getElem_mem hkl
        obtain ⟨st', e, c, es⟩ := inner k b c1 (hms (F.take k)) (H.nd b hbF) (H.rng b hbF) (fun x => by
          unfold hms
          rw [List.length_map]
          have := List.length_filter_le (fun p : Bag × Nat => decide (x ∈ p.1)) (F.take k).zipIdx
          simp at this
          omega)
        refine ⟨_, st', by simp; rfl, .inl ?_, some (.int k), some (bagD b), c, ?_⟩
        · simp [e]
        · rw [es]
          have htk : F.take (k + 1) = F.take k ++ [b] := by rw [List.take_succ, hb]; rfl
          have : (hms (F.take (k + 1))) = fun x => hms (F.take k) x ++ if x ∈ b then [(k : Int)] else [] := by
            funext x
            rw [htk, hms_snoc, List.length_take, Nat.min_eq_left (by omega)]
          rw [this]
  rw [enumD_length, List.length_map, Nat.zero_add, List.take_of_length_le (Nat.le_refl _)] at es
  subst es
  unfold f_homes_of m_homes_of
  simp [runD]
  rw [mLc_a (l := iot n) D.int (fun _ => .lst true []) (s := [some (famD F), none, none, none, none]) (st0 := [some (famD F), none, none, none, none]) (by simp [hc, hsm, rgD0]) (by simp) (by rw [iot_len]; omega) (by simp) fun x hx => by
    refine ⟨_, [some (famD F), none, none, none, some (.int x)], by simp; rfl, by simp, by simp⟩]
  have h0 : homesL true n (hms []) = .lst true ((iot n).map fun _ => .lst true []) := by simp [homesL, hms, lstD]
  rw [h0] at e
  simp [e]
  simp [homesL]
end Pl
/-! Pl10: all bags are reached -/
namespace Pl
open Va L2 PySem

@[simp] theorem ev_storeAt (i : Nat) (k d : D) (s : S) : storeAt i k d s = (match s[i]? with
  | some (some (.lst true xs)) => match k with
    | .int j => match ixN xs.length j with
      | some j => some (s.set i (some (.lst true (xs.set j d))))
      | none => none
    | _ => none
  | some (some (.dic true kvs)) => match keyD k with
    | some _ => match imm d && Nat.blt kvs.length LN with
      | true => some (s.set i (some (.dic true (putD kvs k d))))
      | false => none
    | none => none
  | _ => none) := rfl
@[simp] theorem ev_isBox (i : Nat) (s : S) : isBox i s = (match s[i]? with
  | some (some _) => true
  | _ => false) := rfl
@[simp] theorem key_int (i : Int) : keyD (.int i) = some (.inl i) := rfl
theorem nodup_sub : ∀ {l S : List Int}, l.Nodup → (∀ x ∈ l, x ∈ S) → l.length ≤ S.length
  | [], _, _, _ => by simp
  | x :: l, S, nd, h => by
    have hx := h x (List.mem_cons_self ..)
    have nd1 := List.nodup_cons.mp nd
    have ih := nodup_sub (l := l) (S := S.erase x) nd1.2 fun y hy => by
      have hne : y ≠ x := fun e => nd1.1 (e ▸ hy)
      exact (List.mem_erase_of_ne hne).mpr (h y (List.mem_cons_of_mem _ hy))
    rw [List.length_erase_of_mem hx] at ih
    have := List.length_pos_of_mem hx
    simp
    omega
theorem while_inv {c : M Bool} {b : M Fl} {Post : S → Prop} (I : Nat → S → Prop) (h : ∀ μ st, I μ st → ∃ t s, c st = some (t, s) ∧ (t = false → Post s) ∧ (t = true → ∃ s2, b s = some (.nx, s2) ∧ ∃ μ', μ' < μ ∧ I μ' s2)) :
    ∀ (fuel μ : Nat) (st : S), I μ st → μ < fuel → ∃ s, mWhile c b fuel st = some (.nx, s) ∧ Post s
  | 0, _, _, _, hf => by omega
  | fuel + 1, μ, st, hI, hf => by
    obtain ⟨t, s, e, h0, h1⟩ := h μ st hI
    unfold mWhile
    rw [e]
    cases t with
    | false => exact ⟨s, rfl, h0 rfl⟩
    | true =>
      obtain ⟨s2, e2, μ', hm, hI'⟩ := h1 rfl
      dsimp only
      rw [e2]
      exact while_inv I h fuel μ' s2 hI' (by omega)
theorem frz_homes (n : Int) (h : Int → List Int) : frzL ((iot n).map fun x => lstD true (h x)) = (iot n).map fun x => lstD false (h x) := by
  induction iot n with
  | nil => simp [frzL]
  | cons x l ih =>
    simp only [List.map_cons, frzL, ih]
    simp [lstD, frz, frzL_ints]
theorem ix_fam {F : List Bag} {i : Int} {b : Bag} {k : Nat} (hk : i = k) (hb : F[k]? = some b) : ixF (famD F) (.int i) = some (bagD b) := by
  have hl := (List.getElem?_eq_some_iff.mp hb).1
  show immO (atI (F.map bagD) i) = _
  rw [atI_ok (by omega) (by rw [List.length_map]; omega), hk, List.getElem?_map]
  simp [hb]
theorem ix_homes {n x : Int} (o : Bool) (h : Int → List Int) (x0 : 0 ≤ x) (x1 : x < n) : ixF (homesL false n h) (.int x) = some (lstD false (h x)) := by
  show immO (atI ((iot n).map fun x => lstD false (h x)) x) = _
  rw [atI_ok x0 (by rw [List.length_map, iot_len]; omega), List.getElem?_map, iot_get (by omega), show ((x.toNat : Nat) : Int) = x by omega]
  rfl
/-- the bags i and j share a bead -/
def Nb (F : List Bag) (i j : Int) : Prop := ∃ x, i ∈ hms F x ∧ j ∈ hms F x
/-- found and rim; i is being seen to -/
structure Rch (F : List Bag) (S W : List Int) : Prop where
  nd : S.Nodup
  rng : ∀ i ∈ S, 0 ≤ i ∧ i < F.length
  sub : ∀ i ∈ W, i ∈ S
  zero : (0 : Int) ∈ S
def Closed (F : List Bag) (S W : List Int) : Prop := ∀ i ∈ S, i ∉ W → ∀ j, Nb F i j → j ∈ S
theorem eq_nil_ints (o o' : Bool) (W : List Int) : necF (.lst o (intsD W)) (.lst o' []) = some (.bl (!W.isEmpty)) := by
  have s1 : shp 60 (.lst o (intsD W)) = true := shp_ints 58 W
  have s2 : shp 60 (.lst o' []) = true := rfl
  unfold necF eqD
  rw [s1, s2]
  cases W with
  | nil => rfl
  | cons x W => rfl
theorem eq_nil_intsE (o o' : Bool) (W : List Int) : eqcF (.lst o (intsD W)) (.lst o' []) = some (.bl W.isEmpty) := by
  have s1 : shp 60 (.lst o (intsD W)) = true := shp_ints 58 W
  have s2 : shp 60 (.lst o' []) = true := rfl
  unfold eqcF eqD
  rw [s1, s2]
  cases W with
  | nil => rfl
  | cons x W => rfl
/-- at the end all is found -/
theorem Fam.reach {n : Int} {F : List Bag} (H : Fam n F) {S : List Int} (R : Rch F S []) (C : Closed F S []) : S.length = F.length := by
  have C' : ∀ i ∈ S, ∀ j, Nb F i j → j ∈ S := fun i hi => C i hi (by simp)
  have hpos : 0 < F.length := List.length_pos_iff.mpr (H.ne H.n2)
  have key : ∀ x, 0 ≤ x → x < n → ∃ i ∈ S, i ∈ hms F x := by
    refine H.con (fun x => ∃ i ∈ S, i ∈ hms F x) ?_ fun b hb x hx y hy ⟨i, hi, hix⟩ => ?_
    · obtain ⟨b, hb⟩ : ∃ b, F[0]? = some b := ⟨F[0], List.getElem?_eq_getElem hpos⟩
      have hbF : b ∈ F := List.mem_of_getElem? hb
      obtain ⟨x, hx⟩ : ∃ x, x ∈ b := List.exists_mem_of_length_pos (by have := H.len b hbF; omega)
      have := H.rng b hbF x hx
      exact ⟨x, this.1, this.2, 0, R.zero, hms_mem.mpr ⟨0, b, rfl, hb, hx⟩⟩
    · obtain ⟨k, hk⟩ := List.mem_iff_getElem?.mp hb
      have h1 : (k : Int) ∈ hms F x := hms_mem.mpr ⟨k, b, rfl, hk, hx⟩
      exact ⟨k, C' i hi k ⟨x, hix, h1⟩, hms_mem.mpr ⟨k, b, rfl, hk, hy⟩⟩
  have all : ∀ k : Nat, k < F.length → (k : Int) ∈ S := fun k hk => by
    have hb : F[k]? = some F[k] := List.getElem?_eq_getElem hk
    have hbF := List.getElem_mem hk
    obtain ⟨x, hx⟩ : ∃ x, x ∈ F[k] := List.exists_mem_of_length_pos (l := F[k]) (by have := H.len _ hbF; omega)
    have := H.rng _ hbF x hx
    obtain ⟨i, hi, hix⟩ := key x this.1 this.2
    exact C' i hi k ⟨x, hix, hms_mem.mpr ⟨k, _, rfl, hb, hx⟩⟩
  have h1 := nodup_sub R.nd (S := iot F.length) fun i hi => iot_mem.mpr (by have := R.rng i hi; omega)
  have h2 := nodup_sub (iot_nodup F.length) (S := S) fun i hi => by
    have := iot_mem.mp hi
    have := all i.toNat (by omega)
    rwa [show ((i.toNat : Nat) : Int) = i by omega] at this
  rw [iot_len] at h1 h2
  omega
def stR (F : List Bag) (n : Int) (S W : List Int) (a b : Option D) : Va.S := [some (famD F), some (homesL false n (hms F)), some (.int 0), some (.dic true (kset S)), some (.lst true (intsD W)), a, b]
theorem reached_ok {n : Int} {F : List Bag} (H : Fam n F) : ∃ S : List Int, S.length = F.length ∧ f_reached_from [famD F, homesL false n (hms F), .int 0] = some (.dic true (kset S), [some (famD F), some (homesL false n (hms F)), some (.int 0)]) := by
  have hl := H.len_le
  have hpos : 0 < F.length := List.length_pos_iff.mpr (H.ne H.n2)
  have bound : ∀ {S W : List Int}, Rch F S W → S.length ≤ F.length := fun {S W} R => by
    have := nodup_sub R.nd (S := iot F.length) fun i hi => iot_mem.mpr (by have := R.rng i hi; omega)
    rw [iot_len] at this
    omega
  -- the bags of a bead
  have inner : ∀ (x : Int) (S W : List Int) (c : Option D), 0 ≤ x → x < n → W.length ≤ 1000 → Rch F S W → ∃ S' W' c', forL (.n 6) (mIf (mB (m2 (.v 6) (.v 3) (cmpF .NotIn))) (mSeq (mStore 3 (mVar 6) (mC (.bl true))) (mDo (mApp 4 (mVar 6)))) mNx) (intsD (hms F x)) (stR F n S W (some (.int x)) c) = some (.nx, stR F n S' W' (some (.int x)) c') ∧
      Rch F S' W' ∧ (∀ i ∈ S, i ∈ S') ∧ (∀ i ∈ W, i ∈ W') ∧ (∀ i ∈ S', i ∈ S ∨ i ∈ W') ∧ (∀ j ∈ hms F x, j ∈ S') ∧ W'.length + S.length = W.length + S'.length := fun x S W c x0 x1 hW0 R => by
    obtain ⟨st', e, S', W', c', es, R', h1, h2, h3, h4, h5⟩ := forL_inv (t := .n 6) (b := mIf (mB (m2 (.v 6) (.v 3) (cmpF .NotIn))) (mSeq (mStore 3 (mVar 6) (mC (.bl true))) (mDo (mApp 4 (mVar 6)))) mNx)
      (fun k st => ∃ S' W' c', st = stR F n S' W' (some (.int x)) c' ∧ Rch F S' W' ∧ (∀ i ∈ S, i ∈ S') ∧ (∀ i ∈ W, i ∈ W') ∧ (∀ i ∈ S', i ∈ S ∨ i ∈ W') ∧ (∀ j ∈ (hms F x).take k, j ∈ S') ∧ W'.length + S.length = W.length + S'.length)
      (ds := intsD (hms F x)) (k := 0) (st := stR F n S W (some (.int x)) c) ⟨S, W, c, rfl, R, fun _ h => h, fun _ h => h, fun _ h => .inl h, by simp, rfl⟩ fun k d st hk ⟨S', W', c', es, R', h1, h2, h3, h4, h5⟩ => by
        subst es
        rw [Nat.zero_add] at h4
        rw [Nat.zero_add]
        rw [List.getElem?_map] at hk
        cases hj : (hms F x)[k]? with
        | none => rw [hj] at hk; cases hk
        | some j =>
          rw [hj] at hk
          cases hk
          have hjm : j ∈ hms F x := List.mem_of_getElem? hj
          obtain ⟨kk, b, ej, hkb, hxb⟩ := hms_mem.mp hjm
          have hkl := (List.getElem?_eq_some_iff.mp hkb).1
          have htk : (hms F x).take (k + 1) = (hms F x).take k ++ [j] := by rw [List.take_succ, hj]; rfl
          have hb := bound R'
          by_cases hin : j ∈ S'
          · refine ⟨_, stR F n S' W' (some (.int x)) (some (.int j)), rfl, .inl ?_, S', W', _, rfl, R', h1, h2, h3, fun i hi => ?_, h5⟩
            · simp [stR, hin]
            · rw [htk] at hi
              rcases List.mem_append.mp hi with q | q
              · exact h4 i q
              · simp at q; subst q; exact hin
          · have R2 : Rch F (S' ++ [j]) (W' ++ [j]) := ⟨List.nodup_append.mpr ⟨R'.nd, by simp, fun a ha b hb e => by simp at hb; subst hb e; exact hin ha⟩, fun i hi => by
              rcases List.mem_append.mp hi with q | q
              · exact R'.rng i q
              · simp at q; subst q; omega, fun i hi => by
              rcases List.mem_append.mp hi with q | q
              · exact List.mem_append_left _ (R'.sub i q)
              · exact List.mem_append_right _ q, List.mem_append_left _ R'.zero⟩
            have hb2 := bound R2
            rw [List.length_append, List.length_singleton] at hb2
            have hW : W'.length ≤ W.length + S'.length := by omega
            have b1 : Nat.blt S'.length LN = true := blt_ok (by omega)
            have b2 : Nat.blt W'.length LN = true := blt_ok (by omega)
            refine ⟨_, stR F n (S' ++ [j]) (W' ++ [j]) (some (.int x)) (some (.int j)), rfl, .inl ?_, S' ++ [j], W' ++ [j], _, rfl, R2, fun i hi => List.mem_append_left _ (h1 i hi), fun i hi => List.mem_append_left _ (h2 i hi), fun i hi => ?_, fun i hi => ?_, ?_⟩
            · simp [stR, hin, put_kset hin, b1, b2]
            · rcases List.mem_append.mp hi with q | q
              · exact (h3 i q).imp id fun z => List.mem_append_left _ z
              · exact .inr (List.mem_append_right _ q)
            · rw [htk] at hi
              rcases List.mem_append.mp hi with q | q
              · exact List.mem_append_left _ (h4 i q)
              · exact List.mem_append_right _ q
            · simp
              omega
    refine ⟨S', W', c', ?_, R', h1, h2, h3, fun j hj => h4 j (by rw [List.length_map, Nat.zero_add, List.take_length]; exact hj), h5⟩
    rw [e, es]
  -- the beads of a bag
  have middle : ∀ (b : Bag) (S W : List Int) (a c : Option D), b ∈ F → W.length + (F.length - S.length) ≤ 59 → Rch F S W → ∃ S' W' a' c', forL (.n 5) (mFor (mItems (m2 (.v 1) (.v 5) ixF)) (.n 6) (mIf (mB (m2 (.v 6) (.v 3) (cmpF .NotIn))) (mSeq (mStore 3 (mVar 6) (mC (.bl true))) (mDo (mApp 4 (mVar 6)))) mNx)) (intsD b) (stR F n S W a c) = some (.nx, stR F n S' W' a' c') ∧
      Rch F S' W' ∧ (∀ i ∈ S, i ∈ S') ∧ (∀ i ∈ W, i ∈ W') ∧ (∀ i ∈ S', i ∈ S ∨ i ∈ W') ∧ (∀ x ∈ b, ∀ j ∈ hms F x, j ∈ S') ∧ W'.length + S.length = W.length + S'.length := fun b S W a c hbF hW R => by
    obtain ⟨st', e, S', W', a', c', es, R', h1, h2, h3, h4, h5⟩ := forL_inv (t := .n 5) (b := mFor (mItems (m2 (.v 1) (.v 5) ixF)) (.n 6) (mIf (mB (m2 (.v 6) (.v 3) (cmpF .NotIn))) (mSeq (mStore 3 (mVar 6) (mC (.bl true))) (mDo (mApp 4 (mVar 6)))) mNx))
      (fun k st => ∃ S' W' a' c', st = stR F n S' W' a' c' ∧ Rch F S' W' ∧ (∀ i ∈ S, i ∈ S') ∧ (∀ i ∈ W, i ∈ W') ∧ (∀ i ∈ S', i ∈ S ∨ i ∈ W') ∧ (∀ x ∈ b.take k, ∀ j ∈ hms F x, j ∈ S') ∧ W'.length + S.length = W.length + S'.length)
      (ds := intsD b) (k := 0) (st := stR F n S W a c) ⟨S, W, a, c, rfl, R, fun _ h => h, fun _ h => h, fun _ h => .inl h, by simp, rfl⟩ fun k d st hk ⟨S', W', a', c', es, R', h1, h2, h3, h4, h5⟩ => by
        subst es
        rw [Nat.zero_add] at h4
        rw [Nat.zero_add]
        rw [List.getElem?_map] at hk
        cases hx : b[k]? with
        | none => rw [hx] at hk; cases hk
        | some x =>
          rw [hx] at hk
          cases hk
          have hxr := H.rng b hbF x (List.mem_of_getElem? hx)
          have htk : b.take (k + 1) = b.take k ++ [x] := by rw [List.take_succ, hx]; rfl
          have hb := bound R'
          have hb0 := bound R
          obtain ⟨S2, W2, c2, e2, R2, g1, g2, g3, g4, g5⟩ := inner x S' W' c' hxr.1 hxr.2 (by omega) R'
          refine ⟨_, stR F n S2 W2 (some (.int x)) c2, rfl, .inl ?_, S2, W2, _, c2, rfl, R2, fun i hi => g1 i (h1 i hi), fun i hi => g2 i (h2 i hi), fun i hi => ?_, fun y hy j hj => ?_, by omega⟩
          · have e3 : (stR F n S' W' a' c').set 5 (some (.int x)) = stR F n S' W' (some (.int x)) c' := rfl
            rw [e3]
            have hix := ix_homes (n := n) false (hms F) hxr.1 hxr.2
            have e4 : mItems (m2 (.v 1) (.v 5) ixF) (stR F n S' W' (some (.int x)) c') = some (intsD (hms F x), stR F n S' W' (some (.int x)) c') := by
              simp [stR, hix]
            rw [ev_mFor, e4]
            exact e2
          · rcases g3 i hi with q | q
            · exact (h3 i q).imp id (g2 i)
            · exact .inr q
          · rw [htk] at hy
            rcases List.mem_append.mp hy with q | q
            · exact g1 j (h4 y q j hj)
            · simp at q; subst q; exact g4 j hj
    refine ⟨S', W', a', c', ?_, R', h1, h2, h3, fun x hx j hj => h4 x (by rw [List.length_map, Nat.zero_add, List.take_length]; exact hx) j hj, h5⟩
    rw [e, es]
  obtain ⟨s, e, S, a, c, es, R, C⟩ := while_inv (c := mB (m2 (.v 4) (.e (mLst mNil)) (cmpF .NotEq))) (b := mFor (mItems (m2 (.v 0) (.e (mPop 4)) ixF)) (.n 5) (mFor (mItems (m2 (.v 1) (.v 5) ixF)) (.n 6) (mIf (mB (m2 (.v 6) (.v 3) (cmpF .NotIn))) (mSeq (mStore 3 (mVar 6) (mC (.bl true))) (mDo (mApp 4 (mVar 6)))) mNx)))
    (Post := fun st => ∃ S a c, st = stR F n S [] a c ∧ Rch F S [] ∧ Closed F S []) (fun μ st => ∃ S W a c, st = stR F n S W a c ∧ Rch F S W ∧ Closed F S W ∧ W.length + (F.length - S.length) = μ ∧ μ ≤ 59) (fun μ st ⟨S, W, a, c, es, R, C, hm, h59⟩ => by
      subst es
      refine ⟨!W.isEmpty, stR F n S W a c, ?_, fun ht => ?_, fun ht => ?_⟩
      · simp [stR]
        rw [show D.lst true ([] : List D) = D.lst true [] from rfl, eq_nil_ints]
      · have : W = [] := by cases W with
          | nil => rfl
          | cons => simp at ht
        subst this
        exact ⟨S, a, c, rfl, R, C⟩
      · rcases List.eq_nil_or_concat W with h0 | ⟨W', i, hW⟩
        · subst h0; simp at ht
        · rw [List.concat_eq_append] at hW
          subst hW
          have hiS := R.sub i (by simp)
          have hir := R.rng i hiS
          have hb := bound R
          obtain ⟨b, hkb⟩ : ∃ b, F[i.toNat]? = some b := ⟨F[i.toNat]'(by omega), List.getElem?_eq_getElem (by omega)⟩
          have hbF := List.mem_of_getElem? hkb
          have R1 : Rch F S W' := ⟨R.nd, R.rng, fun j hj => R.sub j (List.mem_append_left _ hj), R.zero⟩
          rw [List.length_append, List.length_singleton] at hm
          obtain ⟨S2, W2, a2, c2, e2, R2, g1, g2, g3, g4, g5⟩ := middle b S W' a c hbF (by omega) R1
          have hb2 := bound R2
          refine ⟨stR F n S2 W2 a2 c2, ?_, μ - 1, by omega, S2, W2, a2, c2, rfl, R2, fun k hk hkW j hj => ?_, by omega, by omega⟩
          · have hix := ix_fam (F := F) (i := i) (k := i.toNat) (by omega) hkb
            have e4 : mItems (m2 (.v 0) (.e (mPop 4)) ixF) (stR F n S (W' ++ [i]) a c) = some (intsD b, stR F n S W' a c) := by
              have p1 : (intsD (W' ++ [i]))[(intsD (W' ++ [i])).length - 1]? = some (.int i) := by simp
              have p2 : (intsD (W' ++ [i])).eraseIdx ((intsD (W' ++ [i])).length - 1) = intsD W' := by simp [List.eraseIdx_append]
              simp only [stR, ev_mItems, ev_m2, run_v, run_e, val_v, val_e, ev_mPop, List.getElem?_cons_zero, List.getElem?_cons_succ, p1, p2, hix, List.set_cons_zero, List.set_cons_succ, frzA_bag, seq_bag]
            rw [ev_mFor, e4]
            exact e2
          · rcases g3 k hk with q | q
            · by_cases hki : k = i
              · subst hki
                obtain ⟨x, hx1, hx2⟩ := hj
                obtain ⟨kk, b', ek, hb', hxb⟩ := hms_mem.mp hx1
                have : b' = b := by
                  have : kk = k.toNat := by omega
                  rw [this, hkb] at hb'
                  exact (Option.some.inj hb').symm
                subst this
                exact g4 x hxb j hx2
              · by_cases hkW' : k ∈ W'
                · exact absurd (g2 k hkW') hkW
                · exact g1 j (C k q (fun hm' => by
                    rcases List.mem_append.mp hm' with z | z
                    · exact hkW' z
                    · simp at z; exact hki z) j hj)
            · exact absurd q hkW)
    100000 F.length (stR F n [0] [0] none none) ⟨[0], [0], none, none, rfl, ⟨by simp, fun i hi => by simp at hi; omega, fun i hi => hi, by simp⟩, fun i hi hn => absurd hi hn, by simp; omega, hl⟩ (by omega)
  subst es
  refine ⟨S, H.reach R C, ?_⟩
  unfold f_reached_from m_reached_from
  have e0 : D.dic true [(D.int 0, D.bl true)] = .dic true (kset [0]) := rfl
  have e1 : D.lst true [D.int 0] = .lst true (intsD [0]) := rfl
  simp only [stR] at e
  rw [← e0, ← e1] at e
  have himm : imm (homesL false n (hms F)) = true := rfl
  simp [runD, e, himm]
end Pl
/-! Pl11: a family is not barred -/
namespace Pl
open Va L2 PySem

theorem frz_homesL (n : Int) (h : Int → List Int) : frz (homesL true n h) = homesL false n h := by
  unfold homesL
  rw [frz_lst, frz_homes]
@[simp] theorem imm_homesL (o : Bool) (n : Int) (h : Int → List Int) : imm (homesL o n h) = !o := rfl
@[simp] theorem frzA_homesL (n : Int) (h : Int → List Int) : frzA (homesL false n h) = homesL false n h := rfl
@[simp] theorem seq_homesL (o : Bool) (n : Int) (h : Int → List Int) : seqOf (homesL o n h) = some (false, (iot n).map fun x => lstD o (h x)) := rfl
theorem len_homesL (o : Bool) {n : Int} (h : Int → List Int) (hn : 0 ≤ n) : lenF (homesL o n h) = some (.int n) := by
  unfold homesL
  simp [iot_len]
  omega
theorem bar_of_ok {ch cs cr cg : Fn} {n : Int} {F : List Bag} (H : Fam n F) (hh : ch [famD F] = some (homesL true n (hms F), [some (famD F)]))
    (hs : ∀ a ∈ F, ∀ b ∈ F, cs [bagD a, bagD b] = some (.lst true (intsD (a.filter fun x => decide (x ∈ b))), [some (bagD a), some (bagD b)]))
    (hr : ∃ S : List Int, S.length = F.length ∧ cr [famD F, homesL false n (hms F), .int 0] = some (.dic true (kset S), [some (famD F), some (homesL false n (hms F)), some (.int 0)])) :
    f_bar_of ch cs cr cg [famD F] = some (.non, [some (famD F)]) := by
  have hl := H.len_le
  have h60 := H.n60
  have h2 := H.n2
  -- no bead without a bag
  obtain ⟨st1, e1, a1, b1, es1⟩ := forL_inv (t := .t [2, 3]) (b := mIf (mB (m2 (.v 3) (.e (mLst mNil)) (cmpF .Eq))) (mRet (mTup (mCons (mC (.str "bead")) (mCons (mVar 2) mNil)))) mNx)
    (fun _ st => ∃ a b, st = [some (famD F), some (homesL false n (hms F)), a, b, none, none, none, none]) (ds := enumD 0 ((iot n).map fun x => lstD false (hms F x))) (k := 0) (st := [some (famD F), some (homesL false n (hms F)), none, none, none, none, none, none]) ⟨none, none, rfl⟩ fun k d st hk ⟨a, b, es⟩ => by
      subst es
      obtain ⟨d', hd', rfl⟩ := enumD_get _ 0 k d hk
      rw [List.getElem?_map] at hd'
      cases hx : (iot n)[k]? with
      | none => rw [hx] at hd'; cases hd'
      | some x =>
        rw [hx] at hd'
        cases hd'
        have hxr := iot_mem.mp (List.mem_of_getElem? hx)
        obtain ⟨b, hb, hxb⟩ := H.cov x hxr.1 hxr.2
        obtain ⟨i, hi⟩ := List.mem_iff_getElem?.mp hb
        have hne : (hms F x).isEmpty = false := by
          have : (i : Int) ∈ hms F x := hms_mem.mpr ⟨i, b, rfl, hi, hxb⟩
          cases e : hms F x with
          | nil => rw [e] at this; simp at this
          | cons => rfl
        refine ⟨_, [some (famD F), some (homesL false n (hms F)), some (.int ((0 + k : Nat) : Int)), some (lstD false (hms F x)), none, none, none, none], by simp; rfl, .inl ?_, _, _, rfl⟩
        have e := eq_nil_intsE false true (hms F x)
        rw [hne] at e
        simp [lstD, e]
  subst es1
  -- two bags share one bead at most
  obtain ⟨st2, e2, a2, b2, c2, es2⟩ := forL_inv (t := .t [4, 5]) (b := mFor (mRg1 (mVar 4)) (.n 6) (mIf (mB (m2 (.e (m1 (.e (mCall cs (mCons (m2 (.v 0) (.v 6) ixF) (mCons (mTake 5) mNil)) [none, some 5])) lenF)) (.e (mC (.int 1))) (cmpF .Gt))) (mRet (mTup (mCons (mC (.str "two")) (mCons (mVar 6) (mCons (mVar 4) mNil))))) mNx))
    (fun _ st => ∃ a b c, st = [some (famD F), some (homesL false n (hms F)), a1, b1, a, b, c, none]) (ds := enumD 0 (F.map bagD)) (k := 0) (st := [some (famD F), some (homesL false n (hms F)), a1, b1, none, none, none, none]) ⟨none, none, none, rfl⟩ fun k d st hk ⟨a, b, c, es⟩ => by
      subst es
      obtain ⟨d', hd', rfl⟩ := enumD_get _ 0 k d hk
      rw [List.getElem?_map] at hd'
      cases hx : F[k]? with
      | none => rw [hx] at hd'; cases hd'
      | some x =>
        rw [hx] at hd'
        cases hd'
        have hxF := List.mem_of_getElem? hx
        have hkl := (List.getElem?_eq_some_iff.mp hx).1
        obtain ⟨st3, e3, c3, es3⟩ := forL_inv (t := .n 6) (b := mIf (mB (m2 (.e (m1 (.e (mCall cs (mCons (m2 (.v 0) (.v 6) ixF) (mCons (mTake 5) mNil)) [none, some 5])) lenF)) (.e (mC (.int 1))) (cmpF .Gt))) (mRet (mTup (mCons (mC (.str "two")) (mCons (mVar 6) (mCons (mVar 4) mNil))))) mNx)
          (fun _ st => ∃ c, st = [some (famD F), some (homesL false n (hms F)), a1, b1, some (.int k), some (bagD x), c, none]) (ds := rgD 0 k) (k := 0) (st := [some (famD F), some (homesL false n (hms F)), a1, b1, some (.int k), some (bagD x), c, none]) ⟨c, rfl⟩ fun j d st hj ⟨c, es⟩ => by
            subst es
            have hd := rgD_get hj
            subst hd
            have hjl := (List.getElem?_eq_some_iff.mp hj).1
            rw [rgD_len] at hjl
            obtain ⟨y, hy⟩ : ∃ y, F[j]? = some y := ⟨F[j]'(by omega), List.getElem?_eq_getElem (by omega)⟩
            have hyF := List.mem_of_getElem? hy
            have one : One y x := by
              obtain ⟨p1, p2⟩ := List.getElem?_eq_some_iff.mp hy
              obtain ⟨q1, q2⟩ := List.getElem?_eq_some_iff.mp hx
              have := List.pairwise_iff_getElem.mp H.two j k p1 q1 (by omega)
              rwa [p2, q2] at this
            have few := one.few (H.nd y hyF)
            refine ⟨_, [some (famD F), some (homesL false n (hms F)), a1, b1, some (.int k), some (bagD x), some (.int (0 + (j : Nat))), none], rfl, .inl ?_, _, rfl⟩
            have hix := ix_fam (F := F) (i := 0 + (j : Nat)) (k := j) (by omega) hy
            rw [Int.zero_add] at hix
            have hs' := hs y hyF x hxF
            have hlt : ¬ ((1 : Int) < ((y.filter fun z => decide (z ∈ x)).length : Nat)) := by omega
            simp only [Int.zero_add]
            have hdf : decide ((1 : Int) < ((y.filter fun z => decide (z ∈ x)).length : Nat)) = false := decide_eq_false hlt
            simp [hix, hs', hdf]
        refine ⟨_, st3, by simp; rfl, .inl ?_, _, _, _, es3⟩
        have hsm := small_of (i := (k : Int)) (by omega) (by omega)
        simp [hsm, e3]
  subst es2
  obtain ⟨S, hS, hr⟩ := hr
  have hsum : sumF (.lst true (F.map fun b => D.int ((b.length : Int) - 1))) = some (.int (n - 1)) := by
    have e : F.map (fun b => D.int ((b.length : Int) - 1)) = intsD (F.map fun b => (b.length : Int) - 1) := by unfold intsD; rw [List.map_map]; rfl
    rw [e]
    unfold sumF intsF lstOf
    simp only [toInts_ints, isum_sum, H.cnt]
  unfold f_bar_of m_bar_of
  simp [runD, hh, frz_homesL, e1, e2, hr, hS]
  rw [mLc_a (l := F) bagD (fun b => .int ((b.length : Int) - 1)) (s := [some (famD F), some (homesL false n (hms F)), a1, b1, a2, b2, c2, none]) (st0 := [some (famD F), some (homesL false n (hms F)), a1, b1, a2, b2, c2, none]) (by simp) (by simp) (by omega) (by simp) fun b hbF => by
    refine ⟨_, [some (famD F), some (homesL false n (hms F)), a1, b1, a2, b2, c2, some (bagD b)], by simp; rfl, by simp, by simp⟩]
  simp [hsum, len_homesL false (hms F) (show 0 ≤ n by omega)]
end Pl
/-! Pl12: what a family answers (1) -/
namespace Pl
open Va L2 PySem

/-- a family is let through -/
def SpNeed (f : Fn) : Prop := ∀ {n : Int} {F : List Bag}, Fam n F → f [famD F] = some (.non, [some (famD F)])
def SpSize (f : Fn) : Prop := ∀ {n : Int} {F : List Bag}, Fam n F → f [famD F] = some (.int n, [some (famD F)])
def SpHomes (f : Fn) : Prop := ∀ {n : Int} {F : List Bag}, Fam n F → f [famD F] = some (homesL true n (hms F), [some (famD F)])
theorem need_family_sp {cb cr : Fn} (hb : SpNeed cb) (hr : SpNeed cr) : SpNeed (f_need_family cb cr) := fun {n F} H => by
  unfold f_need_family m_need_family
  simp [runD, hb H, hr H, nisF, isB]
theorem bar_sp {cb cr : Fn} (hb : SpNeed cb) (hr : SpNeed cr) : SpNeed (f_bar cb cr) := fun {n F} H => by
  unfold f_bar m_bar
  simp [runD, hb H, hr H]
theorem beads_sp {cn cs : Fn} (hn : SpNeed cn) (hs : SpSize cs) : SpSize (f_beads cn cs) := fun {n F} H => by
  unfold f_beads m_beads
  simp [runD, hn H, hs H]
/-- two families of the same beads -/
def SpNeed2 (f : Fn) : Prop := ∀ {n : Int} {F G : List Bag}, Fam n F → Fam n G → f [famD F, famD G] = some (.non, [some (famD F), some (famD G)])
theorem need_two_sp {cn cs : Fn} (hn : SpNeed cn) (hs : SpSize cs) : SpNeed2 (f_need_two cn cs) := fun {n F G} H H' => by
  unfold f_need_two m_need_two
  simp [runD, hn H, hn H', hs H, hs H']
theorem rank_ok {c : Fn} (hc : SpNeed2 c) {n : Int} {F : List Bag} (H : Fam n F) : f_rank c [famD F] = some (.int (F.length - 1), [some (famD F)]) := by
  unfold f_rank m_rank
  simp [runD, hc H H]
theorem hms_len (F : List Bag) (x : Int) : (hms F x).length = (F.filter fun b => decide (x ∈ b)).length := by
  unfold hms
  rw [List.length_map]
  generalize 0 = k
  induction F generalizing k with
  | nil => rfl
  | cons b F ih =>
    rw [List.zipIdx_cons]
    by_cases h : x ∈ b
    · simp [h, ih]
    · simp [h, ih]
def degD (n : Int) (F : List Bag) : D := .tup ((iot n).map fun x => .int (F.filter fun b => decide (x ∈ b)).length)
theorem tup_iotI (n : Int) (g : Int → Int) (o : Bool) : tupcF (.lst o ((iot n).map fun x => D.int (g x))) = some (.tup ((iot n).map fun x => D.int (g x))) := by
  have : ((iot n).map fun x => D.int (g x)).all Va.imm = true := by
    rw [List.all_eq_true]
    intro d hd
    obtain ⟨x, _, rfl⟩ := List.mem_map.mp hd
    rfl
  unfold tupcF
  simp only [this]
theorem degrees_ok {cn ch : Fn} (hn : SpNeed cn) (hh : SpHomes ch) {n : Int} {F : List Bag} (H : Fam n F) : f_degrees cn ch [famD F] = some (degD n F, [some (famD F)]) := by
  have h2 := H.n60
  unfold f_degrees m_degrees
  simp [runD, hn H]
  rw [mLc_a (l := iot n) (fun x => lstD false (hms F x)) (fun x => .int ((F.filter fun b => decide (x ∈ b)).length : Nat)) (s := [some (famD F), none]) (st0 := [some (famD F), none]) (by
      have e : frzA (homesL true n (hms F)) = homesL false n (hms F) := frz_homesL n _
      simp [hh H, e]) (by simp) (by rw [iot_len]; omega) (by simp) fun x hx => by
    refine ⟨_, [some (famD F), some (lstD false (hms F x))], by simp; rfl, by simp [lstD, hms_len], by simp⟩]
  simp [tup_iotI n (fun x => ((F.filter fun b => decide (x ∈ b)).length : Nat)), degD]
def szD (F : List Bag) : D := .tup (intsD (srtI (F.map fun b => (b.length : Int))))
theorem sizes_ok {cn : Fn} (hn : SpNeed cn) {n : Int} {F : List Bag} (H : Fam n F) : f_sizes cn [famD F] = some (szD F, [some (famD F)]) := by
  have hl := H.len_le
  unfold f_sizes m_sizes
  simp [runD, hn H]
  rw [mLc_a (l := F) bagD (fun b => .int b.length) (s := [some (famD F), none]) (st0 := [some (famD F), none]) (by simp) (by simp) (by omega) (by simp) fun x hx => by
    refine ⟨_, [some (famD F), some (bagD x)], by simp; rfl, by simp, by simp⟩]
  have e : (F.map fun b => D.int (b.length : Int)) = intsD (F.map fun b => (b.length : Int)) := by unfold intsD; rw [List.map_map]; rfl
  rw [e]
  simp [sort_ints, -List.map_map, szD, bagD]
theorem one_bag_ok {c : Fn} {n : Int} (h2 : 2 ≤ n) (h60 : n ≤ 60) (hc : c [.int n, .int 2, .int 60] = some (.non, [some (.int n), some (.int 2), some (.int 60)])) : f_one_bag c [.int n] = some (famD [iot n], [some (.int n)]) := by
  have hrg := rgOk_of (n := n) (by omega) (by omega)
  unfold f_one_bag m_one_bag
  simp [runD, hc, rg1F, hrg, rgD0]
  rfl
/-! ### alike -/
def SpAl (c : Fn) (d : D) : Prop := Va.imm d = true ∧ ∃ o1 o2, c [d, d] = some (.bl true, [o1, o2])
theorem alike_int (c : Fn) (i : Int) : SpAl (f__law_alike c) (.int i) := by
  refine ⟨rfl, some (.int i), some (.int i), ?_⟩
  unfold f__law_alike m__law_alike
  have h0 : isi2F .tuple .list (.int i) = some (.bl false) := rfl
  have h1 : eqcF (.bl false) (.bl false) = some (.bl true) := rfl
  simp [runD, h0, h1, isB]
theorem alike_tup {c : Fn} {xs : List D} (hl : xs.length ≤ 1000000) (h : ∀ x ∈ xs, SpAl c x) : SpAl (f__law_alike c) (.tup xs) := by
  refine ⟨rfl, some (.tup xs), some (.tup xs), ?_⟩
  have h0 : isi2F .tuple .list (.tup xs) = some (.bl true) := rfl
  have h1 : necF (.bl false) (.bl false) = some (.bl false) := rfl
  have hsm := small_of (i := (xs.length : Int)) (by omega) (by omega)
  unfold f__law_alike m__law_alike
  simp [runD, h0, h1]
  rw [mLc_af (l := iot xs.length) D.int D.int (fun _ => false) (s := [some (.tup xs), some (.tup xs), none]) (st0 := [some (.tup xs), some (.tup xs), none]) (by simp [hsm, rgD0]) (by simp) (by rw [iot_len]; omega) (by simp) fun i hi => by
    have hr := iot_mem.mp hi
    have hil : i.toNat < xs.length := by omega
    obtain ⟨hm, o1, o2, e⟩ := h _ (List.getElem_mem hil)
    have ha : atI xs i = some xs[i.toNat] := by rw [atI_ok hr.1 hr.2, List.getElem?_eq_getElem hil]
    refine ⟨_, [some (.tup xs), some (.tup xs), some (.int i)], by simp; rfl, by simp [ha, hm, e], (fun h => by cases h), fun _ => by simp⟩]
  have e1 : eqcF (.lst true []) (.lst true []) = some (.bl true) := rfl
  have e2 : (iot xs.length).filter (fun _ => false) = [] := List.filter_eq_nil_iff.mpr (by simp)
  rw [e2]
  simp [e1]
theorem alike_ints (c : Fn) {b : List Int} (hl : b.length ≤ 1000000) : SpAl (f__law_alike (f__law_alike c)) (.tup (intsD b)) :=
  alike_tup (by simpa using hl) fun x hx => by
    obtain ⟨i, _, rfl⟩ := List.mem_map.mp hx
    exact alike_int c i
theorem alike_fam (c : Fn) {F : List Bag} (hl : F.length ≤ 1000000) (hb : ∀ b ∈ F, b.length ≤ 1000000) : SpAl (f__law_alike (f__law_alike (f__law_alike c))) (famD F) :=
  alike_tup (by simpa using hl) fun x hx => by
    obtain ⟨b, hb', rfl⟩ := List.mem_map.mp hx
    exact alike_ints c (hb b hb')
end Pl
/-! Pl13: a bead in a bag -/
namespace Pl
open Va L2 PySem
theorem in_bag (x : Int) (b : Bag) : inF (.int x) (bagD b) = some (.bl (decide (x ∈ b))) := by
  have h1 : (flat (.int x) && (intsD b).all flat) = true := by
    have : (intsD b).all flat = true := by
      rw [List.all_eq_true]
      intro d hd
      obtain ⟨y, _, rfl⟩ := List.mem_map.mp hd
      rfl
    rw [this]
    rfl
  have h2 : (intsD b).any (fun y => eqF 1 y (.int x)) = decide (x ∈ b) := by
    induction b with
    | nil => rfl
    | cons y b ih =>
      have h1' : (flat (.int x) && (intsD b).all flat) = true := by
        simp only [List.map_cons, List.all_cons, Bool.and_eq_true] at h1 ⊢
        exact ⟨h1.1, h1.2.2⟩
      show (eqF 1 (D.int y) (D.int x) || (intsD b).any fun y => eqF 1 y (.int x)) = _
      rw [ih h1']
      have : eqF 1 (D.int y) (D.int x) = (y == x) := by simp [eqF]
      rw [this]
      by_cases e : y = x
      · subst e; simp
      · have : (y == x) = false := by simpa using e
        rw [this]
        simp [show ¬ x = y from fun z => e z.symm]
  show blO (inB (.int x) (.tup (intsD b))) = _
  unfold inB
  simp only [h1, if_true, h2]
  rfl
end Pl
/-! Nm0: what the number functions compute (printed by gen.py) -/
namespace Pl
open Va
def m_product_to : M Fl := (mSeq (mSet 1 (mC (.int 1))) (mSeq (mFor (mRg2 (mC (.int 2)) (m2 (.v 0) (.e (mC (.int 1))) addF)) (.n 2) (mSet 1 (m2 (.v 1) (.v 2) mulF))) (mRet (mTake 1))))
def f_product_to : Fn := runD 3 1 (fun i => ([true] : List Bool).getD i false) (m_product_to)
def m_power : M Fl := (mSeq (mSet 2 (mC (.int 1))) (mSeq (mFor (mRg1 (mVar 1)) (.n 3) (mSet 2 (m2 (.v 2) (.v 0) mulF))) (mRet (mTake 2))))
def f_power : Fn := runD 4 2 (fun i => ([true, true] : List Bool).getD i false) (m_power)
def m_partitions_row : M Fl := (mSeq (mSet 1 (mLst (mCons (mC (.int 1)) mNil))) (mSeq (mFor (mRg1 (mVar 0)) (.n 2) (mSet 1 (mLc (mRg1 (m2 (.e (m1 (.v 1) lenF)) (.e (mC (.int 1))) addF)) (.n 3) mYes (m2 (.e (mIte (mB (m2 (.v 3) (.e (mC (.int 0))) (cmpF .Gt))) (m2 (.v 1) (.e (m2 (.v 3) (.e (mC (.int 1))) subF)) ixF) (mC (.int 0)))) (.e (mIte (mB (m2 (.v 3) (.e (m1 (.v 1) lenF)) (cmpF .Lt))) (m2 (.v 3) (.e (m2 (.v 1) (.v 3) ixF)) mulF) (mC (.int 0)))) addF) [3]))) (mRet (mTake 1))))
def f_partitions_row : Fn := runD 4 1 (fun i => ([true] : List Bool).getD i false) (m_partitions_row)
def m_families_row (c_partitions_row c_power : Fn) : M Fl := (mSeq (mSet 1 (mCall c_partitions_row (mCons (m2 (.v 0) (.e (mC (.int 1))) subF) mNil) [none])) (mRet (m2 (.e (mLst (mCons (mC (.int 0)) mNil))) (.e (mLc (mRg2 (mC (.int 1)) (m1 (.v 1) lenF)) (.n 2) mYes (m2 (.e (mCall c_power (mCons (mTake 0) (mCons (m2 (.v 2) (.e (mC (.int 1))) subF) mNil)) [some 0, none])) (.e (m2 (.v 1) (.v 2) ixF)) mulF) [2])) addF)))
def f_families_row (c_partitions_row c_power : Fn) : Fn := runD 3 1 (fun i => ([true] : List Bool).getD i false) (m_families_row c_partitions_row c_power)
def m_tally (c_need_number c_families_row : Fn) : M Fl := (mSeq (mDo (mCall c_need_number (mCons (mTake 0) (mCons (mC (.int 2)) (mCons (mC (.int 200)) mNil))) [some 0, none, none])) (mRet (m1 (.e (mSl (.e (mCall c_families_row (mCons (mTake 0) mNil) [some 0])) (some (mC (.int 1))) none)) tupcF)))
def f_tally (c_need_number c_families_row : Fn) : Fn := runD 1 1 (fun i => ([true] : List Bool).getD i false) (m_tally c_need_number c_families_row)
def m_common : M Fl := (mSeq (mWhile (mB (m2 (.v 1) (.e (mC (.int 0))) (cmpF .NotEq))) (mSet2 0 1 (mCons (mVar 1) (mCons (m2 (.v 0) (.v 1) modF) mNil))) 100000) (mRet (m1 (.v 0) absF)))
def f_common : Fn := runD 2 2 (fun i => ([false, false] : List Bool).getD i false) (m_common)
def m_lowered (c_common : Fn) : M Fl := (mSeq (mSet 2 (mCall c_common (mCons (mTake 0) (mCons (mTake 1) mNil)) [some 0, some 1])) (mRet (mTup (mCons (m2 (.v 0) (.v 2) fdivF) (mCons (m2 (.v 1) (.v 2) fdivF) mNil)))))
def f_lowered (c_common : Fn) : Fn := runD 3 2 (fun i => ([true, true] : List Bool).getD i false) (m_lowered c_common)
def m_is_list_of (c_is_in : Fn) : M Fl := (mSeq (mIf (mOr (mNot (mTru (m1 (.v 0) (isiF .tuple)))) (mB (m2 (.v 0) (.e (mTup mNil)) (cmpF .Eq)))) (mRet (mC (.bl false))) mNx) (mRet (m1 (.e (mLc (mItems (mVar 0)) (.n 3) mYes (mCall c_is_in (mCons (mTake 3) (mCons (mTake 1) (mCons (mTake 2) mNil))) [some 3, some 1, some 2]) [3])) allF)))
def f_is_list_of (c_is_in : Fn) : Fn := runD 4 3 (fun i => ([true, true, true] : List Bool).getD i false) (m_is_list_of c_is_in)
def m_need_bag_number (c_need_number : Fn) : M Fl := (mSeq (mDo (mCall c_need_number (mCons (mTake 0) (mCons (mC (.int 2)) (mCons (mC (.int 200)) mNil))) [some 0, none, none])) (mDo (mCall c_need_number (mCons (mTake 1) (mCons (mC (.int 1)) (mCons (m2 (.v 0) (.e (mC (.int 1))) subF) mNil))) [some 1, none, none])))
def f_need_bag_number (c_need_number : Fn) : Fn := runD 2 2 (fun i => ([true, true] : List Bool).getD i false) (m_need_bag_number c_need_number)
def m_count_with_bags (c_need_bag_number c_families_row : Fn) : M Fl := (mSeq (mDo (mCall c_need_bag_number (mCons (mTake 0) (mCons (mTake 1) mNil)) [some 0, some 1])) (mRet (m2 (.e (mCall c_families_row (mCons (mTake 0) mNil) [some 0])) (.v 1) ixF)))
def f_count_with_bags (c_need_bag_number c_families_row : Fn) : Fn := runD 2 2 (fun i => ([true, true] : List Bool).getD i false) (m_count_with_bags c_need_bag_number c_families_row)
def m_count_with_sizes (c_is_list_of c_product_to c_power : Fn) : M Fl := (mSeq (mIf (mOr (mNot (mTru (mCall c_is_list_of (mCons (mTake 0) (mCons (mC (.int 2)) (mCons (mC (.int 200)) mNil))) [some 0, none, none]))) (mB (m2 (.e (m1 (.e (mLc (mItems (mVar 0)) (.n 1) mYes (m2 (.v 1) (.e (mC (.int 1))) subF) [1])) sumF)) (.e (mC (.int 200))) (cmpF .GtE)))) (fun _ => none) mNx) (mSeq (mSet 1 (m2 (.e (mC (.int 1))) (.e (m1 (.e (mLc (mItems (mVar 0)) (.n 3) mYes (m2 (.v 3) (.e (mC (.int 1))) subF) [3])) sumF)) addF)) (mSeq (mSet 2 (m2 (.e (mCall c_product_to (mCons (m2 (.v 1) (.e (mC (.int 1))) subF) mNil) [none])) (.e (mCall c_power (mCons (mTake 1) (mCons (m2 (.e (m1 (.v 0) lenF)) (.e (mC (.int 1))) subF) mNil)) [some 1, none])) mulF)) (mSeq (mFor (mItems (mVar 0)) (.n 3) (mAug 2 fdivF (mCall c_product_to (mCons (m2 (.v 3) (.e (mC (.int 1))) subF) mNil) [none]))) (mSeq (mFor (mKeys (mDc (mItems (mVar 0)) (.n 4) mYes (mVar 4) (mC (.bl true)) [4])) (.n 3) (mAug 2 fdivF (mCall c_product_to (mCons (m1 (.e (mLc (mItems (mVar 0)) (.n 4) (mB (m2 (.v 4) (.v 3) (cmpF .Eq))) (mC (.int 1)) [4])) lenF) mNil) [none]))) (mRet (mTake 2)))))))
def f_count_with_sizes (c_is_list_of c_product_to c_power : Fn) : Fn := runD 5 1 (fun i => ([true] : List Bool).getD i false) (m_count_with_sizes c_is_list_of c_product_to c_power)
def m_count_with_degrees (c_is_list_of c_partitions_row c_product_to : Fn) : M Fl := (mSeq (mIf (mOr (mNot (mTru (mCall c_is_list_of (mCons (mTake 0) (mCons (mC (.int 1)) (mCons (mC (.int 200)) mNil))) [some 0, none, none]))) (mNot (mB (mChain .LtE .LtE (.e (mC (.int 2))) (.e (m1 (.v 0) lenF)) (.e (mC (.int 200))))))) (fun _ => none) mNx) (mSeq (mSet 1 (m2 (.e (mC (.int 1))) (.e (m1 (.e (mLc (mItems (mVar 0)) (.n 3) mYes (m2 (.v 3) (.e (mC (.int 1))) subF) [3])) sumF)) addF)) (mSeq (mIf (mB (m2 (.v 1) (.e (m2 (.e (m1 (.v 0) lenF)) (.e (mC (.int 1))) subF)) (cmpF .Gt))) (mRet (mC (.int 0))) mNx) (mSeq (mSet 2 (m2 (.e (m2 (.e (mCall c_partitions_row (mCons (m2 (.e (m1 (.v 0) lenF)) (.e (mC (.int 1))) subF) mNil) [none])) (.v 1) ixF)) (.e (mCall c_product_to (mCons (m2 (.v 1) (.e (mC (.int 1))) subF) mNil) [none])) mulF)) (mSeq (mFor (mItems (mVar 0)) (.n 3) (mAug 2 fdivF (mCall c_product_to (mCons (m2 (.v 3) (.e (mC (.int 1))) subF) mNil) [none]))) (mRet (mTake 2)))))))
def f_count_with_degrees (c_is_list_of c_partitions_row c_product_to : Fn) : Fn := runD 4 1 (fun i => ([true] : List Bool).getD i false) (m_count_with_degrees c_is_list_of c_partitions_row c_product_to)
def m_mean_degree (c_need_bag_number c_lowered : Fn) : M Fl := (mSeq (mDo (mCall c_need_bag_number (mCons (mTake 0) (mCons (mTake 1) mNil)) [some 0, some 1])) (mRet (mCall c_lowered (mCons (m2 (.e (m2 (.v 0) (.v 1) addF)) (.e (mC (.int 1))) subF) (mCons (mTake 0) mNil)) [none, some 0])))
def f_mean_degree (c_need_bag_number c_lowered : Fn) : Fn := runD 2 2 (fun i => ([true, true] : List Bool).getD i false) (m_mean_degree c_need_bag_number c_lowered)
def m_degree_share (c_need_bag_number c_need_number c_product_to c_power c_lowered : Fn) : M Fl := (mSeq (mDo (mCall c_need_bag_number (mCons (mTake 0) (mCons (mTake 1) mNil)) [some 0, some 1])) (mSeq (mDo (mCall c_need_number (mCons (mTake 2) (mCons (mC (.int 1)) (mCons (mC (.int 200)) mNil))) [some 2, none, none])) (mSeq (mIf (mB (m2 (.v 2) (.v 1) (cmpF .Gt))) (mRet (mTup (mCons (mC (.int 0)) (mCons (mC (.int 1)) mNil)))) mNx) (mSeq (mSet 3 (m2 (.e (m2 (.v 1) (.e (mC (.int 1))) subF)) (.e (m2 (.v 2) (.e (mC (.int 1))) subF)) subF)) (mSeq (mSet 4 (m2 (.e (mCall c_product_to (mCons (m2 (.v 1) (.e (mC (.int 1))) subF) mNil) [none])) (.e (m2 (.e (mCall c_product_to (mCons (m2 (.v 2) (.e (mC (.int 1))) subF) mNil) [none])) (.e (mCall c_product_to (mCons (mTake 3) mNil) [some 3])) mulF)) fdivF)) (mRet (mCall c_lowered (mCons (m2 (.v 4) (.e (mCall c_power (mCons (m2 (.v 0) (.e (mC (.int 1))) subF) (mCons (mTake 3) mNil)) [none, some 3])) mulF) (mCons (mCall c_power (mCons (mTake 0) (mCons (m2 (.v 1) (.e (mC (.int 1))) subF) mNil)) [some 0, none]) mNil)) [none, none])))))))
def f_degree_share (c_need_bag_number c_need_number c_product_to c_power c_lowered : Fn) : Fn := runD 5 3 (fun i => ([true, true, true] : List Bool).getD i false) (m_degree_share c_need_bag_number c_need_number c_product_to c_power c_lowered)
def m_outer_mean (c_degree_share c_lowered : Fn) : M Fl := (mSeq (mAsg (.t [2, 3]) (mCall c_degree_share (mCons (mTake 0) (mCons (mTake 1) (mCons (mC (.int 1)) mNil))) [some 0, some 1, none])) (mRet (mCall c_lowered (mCons (m2 (.v 2) (.v 0) mulF) (mCons (mTake 3) mNil)) [none, some 3])))
def f_outer_mean (c_degree_share c_lowered : Fn) : Fn := runD 4 2 (fun i => ([true, true] : List Bool).getD i false) (m_outer_mean c_degree_share c_lowered)
def m__law_common : M Fl := (mSeq (mSet2 0 1 (mCons (m1 (.v 0) absF) (mCons (m1 (.v 1) absF) mNil))) (mSeq (mWhile (mB (m2 (.v 1) (.e (mC (.int 0))) (cmpF .NotEq))) (mSet2 0 1 (mCons (mVar 1) (mCons (m2 (.v 0) (.v 1) modF) mNil))) 100000) (mRet (mTake 0))))
def f__law_common : Fn := runD 2 2 (fun i => ([false, false] : List Bool).getD i false) (m__law_common)
def m__law_lowered (c__law_common : Fn) : M Fl := (mSeq (mSet 2 (mCall c__law_common (mCons (mTake 0) (mCons (mTake 1) mNil)) [some 0, some 1])) (mRet (mTup (mCons (m2 (.v 0) (.v 2) fdivF) (mCons (m2 (.v 1) (.v 2) fdivF) mNil)))))
def f__law_lowered (c__law_common : Fn) : Fn := runD 3 2 (fun i => ([true, true] : List Bool).getD i false) (m__law_lowered c__law_common)
def m__law_ways : M Fl := (mSeq (mSet 2 (mC (.int 1))) (mSeq (mFor (mRg1 (mVar 1)) (.n 3) (mSet 2 (m2 (.e (m2 (.v 2) (.e (m2 (.v 0) (.v 3) subF)) mulF)) (.e (m2 (.v 3) (.e (mC (.int 1))) addF)) fdivF))) (mRet (mTake 2))))
def f__law_ways : Fn := runD 4 2 (fun i => ([true, true] : List Bool).getD i false) (m__law_ways)
end Pl
/-! Nm1: factorials, choices, partitions into bags: plain numbers -/
namespace Nm
def fac : Nat → Nat
  | 0 => 1
  | n + 1 => (n + 1) * fac n
def ch : Nat → Nat → Nat
  | _, 0 => 1
  | 0, _ + 1 => 0
  | n + 1, k + 1 => ch n k + ch n (k + 1)
def s2 : Nat → Nat → Nat
  | 0, 0 => 1
  | 0, _ + 1 => 0
  | _ + 1, 0 => 0
  | n + 1, k + 1 => s2 n k + (k + 1) * s2 n (k + 1)
theorem fac_pos : ∀ n, 0 < fac n
  | 0 => by simp [fac]
  | n + 1 => Nat.mul_pos (by omega) (fac_pos n)
theorem ch_gt : ∀ n k, n < k → ch n k = 0
  | _, 0, h => by omega
  | 0, k + 1, _ => rfl
  | n + 1, k + 1, h => by unfold ch; rw [ch_gt n k (by omega), ch_gt n (k + 1) (by omega)]
theorem ch_self : ∀ n, ch n n = 1
  | 0 => rfl
  | n + 1 => by unfold ch; rw [ch_self n, ch_gt n (n + 1) (by omega)]
theorem ch_zero (n : Nat) : ch n 0 = 1 := by cases n <;> rfl
theorem ch_fac : ∀ a b, ch (a + b) a * (fac a * fac b) = fac (a + b)
  | 0, b => by simp [ch_zero, fac]
  | a + 1, 0 => by simp [ch_self, fac]
  | a + 1, b + 1 => by
    have h1 := ch_fac a (b + 1)
    have h2 := ch_fac (a + 1) b
    have e : ch (a + 1 + (b + 1)) (a + 1) = ch (a + (b + 1)) a + ch (a + 1 + b) (a + 1) := by
      rw [show a + 1 + (b + 1) = (a + b + 1) + 1 by omega, show a + (b + 1) = a + b + 1 by omega, show a + 1 + b = a + b + 1 by omega]
      rfl
    have f : fac (a + 1 + (b + 1)) = (a + b + 2) * fac (a + b + 1) := by
      rw [show a + 1 + (b + 1) = (a + b + 1) + 1 by omega]
      rfl
    rw [show a + (b + 1) = a + b + 1 by omega] at h1 e
    rw [show a + 1 + b = a + b + 1 by omega] at h2 e
    rw [e, f]
    have fa : fac (a + 1) = (a + 1) * fac a := rfl
    have fb : fac (b + 1) = (b + 1) * fac b := rfl
    rw [fb] at h1 ⊢
    rw [fa] at h2 ⊢
    generalize fac (a + b + 1) = F at *
    generalize ch (a + b + 1) a = X at *
    generalize ch (a + b + 1) (a + 1) = Y at *
    generalize fac a = p at *
    generalize fac b = q at *
    grind
theorem ch_step (n t : Nat) : ch n (t + 1) * (t + 1) = ch n t * (n - t) := by
  by_cases h : n ≤ t
  · rw [ch_gt n (t + 1) (by omega), Nat.sub_eq_zero_of_le h]; simp
  · obtain ⟨b, rfl⟩ : ∃ b, n = t + 1 + b := ⟨n - t - 1, by omega⟩
    have h1 := ch_fac (t + 1) b
    have h2 := ch_fac t (b + 1)
    rw [show t + (b + 1) = t + 1 + b by omega] at h2
    have fa : fac (t + 1) = (t + 1) * fac t := rfl
    have fb : fac (b + 1) = (b + 1) * fac b := rfl
    rw [fa] at h1
    rw [fb] at h2
    rw [show t + 1 + b - t = b + 1 by omega]
    have hp : 0 < fac t * fac b := Nat.mul_pos (fac_pos t) (fac_pos b)
    refine Nat.eq_of_mul_eq_mul_right hp ?_
    generalize fac (t + 1 + b) = F at *
    generalize ch (t + 1 + b) t = X at *
    generalize ch (t + 1 + b) (t + 1) = Y at *
    generalize fac t = p at *
    generalize fac b = q at *
    grind
theorem ch_mul (n t : Nat) : ch (n + 1) (t + 1) * (t + 1) = (n + 1) * ch n t := by
  by_cases h : n < t
  · rw [ch_gt (n + 1) (t + 1) (by omega), ch_gt n t h]; simp
  · obtain ⟨b, rfl⟩ : ∃ b, n = t + b := ⟨n - t, by omega⟩
    have h1 := ch_fac (t + 1) b
    have h2 := ch_fac t b
    have fa : fac (t + 1) = (t + 1) * fac t := rfl
    have fb : fac (t + b + 1) = (t + b + 1) * fac (t + b) := rfl
    rw [show t + 1 + b = t + b + 1 by omega, fa, fb, ← h2] at h1
    have hp : 0 < fac t * fac b := Nat.mul_pos (fac_pos t) (fac_pos b)
    refine Nat.eq_of_mul_eq_mul_right hp ?_
    generalize ch (t + b) t = X at *
    generalize ch (t + b + 1) (t + 1) = Y at *
    generalize fac t = p at *
    generalize fac b = q at *
    grind
theorem ch_comp (n t : Nat) : ch (n + 1) t * (n + 1 - t) = (n + 1) * ch n t := by
  rw [← ch_step, ch_mul]
theorem s2_gt : ∀ n k, n < k → s2 n k = 0
  | _, 0, h => by omega
  | 0, k + 1, _ => rfl
  | n + 1, k + 1, h => by unfold s2; rw [s2_gt n k (by omega), s2_gt n (k + 1) (by omega)]; rfl
theorem s2_pos : ∀ n k, 1 ≤ k → k ≤ n → 0 < s2 n k
  | 0, k, h, h' => by omega
  | n + 1, 0, h, _ => by omega
  | n + 1, k + 1, h, h' => by
    unfold s2
    by_cases hk : k = 0
    · subst hk
      by_cases hn : n = 0
      · subst hn; decide
      · have := s2_pos n 1 (by omega) (by omega)
        show 0 < s2 n 0 + (0 + 1) * s2 n 1
        omega
    · have := s2_pos n k (by omega) (by omega)
      omega
/-- products of factorials -/
def pf : List Nat → Nat
  | [] => 1
  | a :: l => fac a * pf l
theorem pf_pos : ∀ l, 0 < pf l
  | [] => by decide
  | a :: l => Nat.mul_pos (fac_pos a) (pf_pos l)
theorem pf_dvd : ∀ l : List Nat, pf l ∣ fac l.sum
  | [] => ⟨1, rfl⟩
  | a :: l => by
    obtain ⟨c, h⟩ := pf_dvd l
    refine ⟨c * ch (a + l.sum) a, ?_⟩
    rw [List.sum_cons, ← ch_fac, h, pf]
    generalize ch (a + pf l * c) a = X
    grind
theorem pf_perm {l l' : List Nat} (h : l.Perm l') : pf l = pf l' := by
  induction h with
  | nil => rfl
  | cons x _ ih => simp [pf, ih]
  | swap x y l => simp [pf]; rw [← Nat.mul_assoc, ← Nat.mul_assoc, Nat.mul_comm (fac y)]
  | trans _ _ ih1 ih2 => rw [ih1, ih2]
theorem div_all : ∀ (l : List Nat) (x : Nat), l.foldl (fun x a => x / fac a) x = x / pf l
  | [], x => by simp [pf]
  | a :: l, x => by rw [List.foldl_cons, div_all l, pf, Nat.div_div_eq_div_mul]

/-! ### inclusion and exclusion -/
def sg (j : Nat) : Int := if j % 2 = 0 then 1 else -1
theorem sg_succ (j : Nat) : sg (j + 1) = - sg j := by
  unfold sg
  by_cases h : j % 2 = 0
  · rw [if_neg (by omega), if_pos h]
  · rw [if_pos (by omega), if_neg h]; rfl
def sumZ (f : Nat → Int) : Nat → Int
  | 0 => 0
  | m + 1 => sumZ f m + f m
theorem sumZ_congr {f g : Nat → Int} : ∀ {m : Nat}, (∀ j, j < m → f j = g j) → sumZ f m = sumZ g m
  | 0, _ => rfl
  | m + 1, h => by rw [sumZ, sumZ, sumZ_congr fun j hj => h j (by omega), h m (by omega)]
theorem sumZ_mul (c : Int) (f : Nat → Int) : ∀ m, sumZ (fun j => c * f j) m = c * sumZ f m
  | 0 => by simp [sumZ]
  | m + 1 => by rw [sumZ, sumZ, sumZ_mul c f m, Int.mul_add]
theorem alt_part (k : Nat) : ∀ m, sumZ (fun j => sg j * (ch (k + 1) j : Int)) (m + 1) = sg m * (ch k m : Int)
  | 0 => by simp [sumZ, ch_zero]
  | m + 1 => by
    rw [sumZ, alt_part k m, sg_succ]
    have e : ch (k + 1) (m + 1) = ch k m + ch k (m + 1) := rfl
    rw [e]
    push_cast
    grind
theorem shift (k : Nat) (g : Nat → Int) : ∀ m, sumZ (fun j => sg j * (ch (k + 1) j : Int) * g j) (m + 1) = sumZ (fun j => sg j * (ch k j : Int) * g j) (m + 1) - sumZ (fun j => sg j * (ch k j : Int) * g (j + 1)) m
  | 0 => by simp [sumZ, ch_zero]
  | m + 1 => by
    rw [sumZ, shift k g m]
    have e : ch (k + 1) (m + 1) = ch k m + ch k (m + 1) := rfl
    show _ = (sumZ (fun j => sg j * (ch k j : Int) * g j) (m + 1) + sg (m + 1) * (ch k (m + 1) : Int) * g (m + 1)) - (sumZ (fun j => sg j * (ch k j : Int) * g (j + 1)) m + sg m * (ch k m : Int) * g (m + 1))
    rw [e, sg_succ]
    push_cast
    grind
def tt (n k : Nat) : Int := sumZ (fun j => sg j * (ch k j : Int) * (((k : Int) - (j : Int)) ^ n)) (k + 1)
theorem tt_ok : ∀ n k, tt n k = ((fac k * s2 n k : Nat) : Int)
  | 0, 0 => by decide
  | 0, k + 1 => by
    unfold tt
    rw [sumZ_congr (g := fun j => sg j * (ch (k + 1) j : Int)) fun j _ => by simp, alt_part k (k + 1), ch_gt k (k + 1) (by omega)]
    simp [s2]
  | n + 1, 0 => by simp [tt, sumZ, s2, Int.pow_succ]
  | n + 1, k + 1 => by
    have i1 := tt_ok n k
    have i2 := tt_ok n (k + 1)
    have u : tt n (k + 1) = sumZ (fun j => sg j * (ch k j : Int) * ((((k + 1 : Nat) : Int) - (j : Int)) ^ n)) (k + 1) - tt n k := by
      unfold tt
      rw [shift k (fun j => (((k + 1 : Nat) : Int) - (j : Int)) ^ n) (k + 1), sumZ, ch_gt k (k + 1) (by omega)]
      rw [sumZ_congr (f := fun j => sg j * (ch k j : Int) * ((((k + 1 : Nat) : Int) - ((j + 1 : Nat) : Int)) ^ n)) (g := fun j => sg j * (ch k j : Int) * (((k : Int) - (j : Int)) ^ n)) fun j _ => by
        rw [show (((k + 1 : Nat) : Int) - ((j + 1 : Nat) : Int)) = (k : Int) - (j : Int) by omega]]
      simp
    have v : tt (n + 1) (k + 1) = ((k + 1 : Nat) : Int) * sumZ (fun j => sg j * (ch k j : Int) * ((((k + 1 : Nat) : Int) - (j : Int)) ^ n)) (k + 1) := by
      unfold tt
      rw [sumZ, ← sumZ_mul, sumZ_congr (g := fun j => ((k + 1 : Nat) : Int) * (sg j * (ch k j : Int) * ((((k + 1 : Nat) : Int) - (j : Int)) ^ n))) fun j hj => by
        have c := ch_comp k j
        have c' : (ch (k + 1) j : Int) * (((k + 1 : Nat) : Int) - (j : Int)) = ((k + 1 : Nat) : Int) * (ch k j : Int) := by
          rw [← Int.natCast_sub (by omega), ← Int.natCast_mul, c, Int.natCast_mul]
        rw [Int.pow_succ]
        generalize (((k + 1 : Nat) : Int) - (j : Int)) ^ n = P
        generalize ((k + 1 : Nat) : Int) - (j : Int) = Q at *
        generalize (ch (k + 1) j : Int) = A at *
        generalize (ch k j : Int) = B at *
        generalize ((k + 1 : Nat) : Int) = R at *
        generalize sg j = W
        grind]
      simp [Int.pow_succ]
    have w : sumZ (fun j => sg j * (ch k j : Int) * ((((k + 1 : Nat) : Int) - (j : Int)) ^ n)) (k + 1) = tt n k + tt n (k + 1) := by rw [u]; omega
    rw [v, w, i1, i2]
    have e1 : s2 (n + 1) (k + 1) = s2 n k + (k + 1) * s2 n (k + 1) := rfl
    have e2 : fac (k + 1) = (k + 1) * fac k := rfl
    rw [e1, e2, ← Int.natCast_add, ← Int.natCast_mul]
    congr 1
    grind
end Nm
/-! Nm2: the number functions compute what Nm1 tells (1) -/
namespace Pl
open Va L2 PySem Nm

/-! ### sizes of numbers -/
def Lg (a k : Nat) : Prop := a < 2 ^ k
theorem Lg.log {a k : Nat} (h : Lg a k) : a.log2 ≤ k := by
  by_cases h0 : a = 0
  · subst h0; simp
  · exact Nat.le_of_lt ((Nat.log2_lt h0).mpr h)
theorem Lg.mono {a i j : Nat} (h : Lg a i) (hij : i ≤ j) : Lg a j := Nat.lt_of_lt_of_le h (Nat.pow_le_pow_right (by omega) hij)
theorem Lg.le {a b i : Nat} (h : Lg b i) (hab : a ≤ b) : Lg a i := Nat.lt_of_le_of_lt hab h
theorem Lg.mul {a b i j : Nat} (h : Lg a i) (h' : Lg b j) : Lg (a * b) (i + j) := by
  unfold Lg at *
  rw [Nat.pow_add]
  exact Nat.mul_lt_mul'' h h'
theorem Lg.add {a b i : Nat} (h : Lg a i) (h' : Lg b i) : Lg (a + b) (i + 1) := by
  unfold Lg at *
  rw [Nat.pow_succ]
  omega
theorem Lg.pow {a i : Nat} (h : Lg a i) : ∀ k, Lg (a ^ k) (i * k + 1)
  | 0 => by unfold Lg; simp
  | k + 1 => by
    rw [Nat.pow_succ]
    exact ((Lg.pow h k).mul h).mono (by rw [Nat.mul_succ]; omega)
theorem Lg.of8 {a : Nat} (h : a < 256) : Lg a 8 := h
theorem Lg_fac {n : Nat} (h : n ≤ 200) : Lg (fac n) (8 * n + 1) := by
  induction n with
  | zero => unfold Lg; decide
  | succ n ih =>
    have h1 : Lg (n + 1) 8 := Lg.of8 (by omega)
    exact (h1.mul (ih (by omega))).mono (by omega)
theorem s2_le : ∀ n k, n ≤ 200 → s2 n k ≤ 256 ^ n
  | 0, 0, _ => by simp [s2]
  | 0, k + 1, _ => by simp [s2]
  | n + 1, 0, _ => by simp [s2]
  | n + 1, k + 1, h => by
    by_cases hk : n < k
    · rw [s2_gt (n + 1) (k + 1) (by omega)]; exact Nat.zero_le _
    · have h1 := s2_le n k (by omega)
      have h2 := s2_le n (k + 1) (by omega)
      show s2 n k + (k + 1) * s2 n (k + 1) ≤ _
      have h3 : (k + 1) * s2 n (k + 1) ≤ 201 * 256 ^ n := Nat.mul_le_mul (by omega) h2
      rw [Nat.pow_succ]
      omega
theorem Lg_s2 {n k : Nat} (h : n ≤ 200) : Lg (s2 n k) (8 * n + 1) := by
  have h1 : Lg (256 ^ n) (8 * n + 1) := by
    unfold Lg
    rw [show 256 = 2 ^ 8 from rfl, ← Nat.pow_mul]
    exact Nat.pow_lt_pow_right (by omega) (by omega)
  exact h1.le (s2_le n k h)
theorem ch_le : ∀ n k, ch n k ≤ 2 ^ n
  | 0, 0 => by simp [ch]
  | 0, k + 1 => by simp [ch]
  | n + 1, 0 => by simp [ch_zero, Nat.one_le_two_pow]
  | n + 1, k + 1 => by
    show ch n k + ch n (k + 1) ≤ _
    have h1 := ch_le n k
    have h2 := ch_le n (k + 1)
    rw [Nat.pow_succ]; omega
theorem Lg_ch {n k : Nat} : Lg (ch n k) (n + 1) := by
  unfold Lg
  have := ch_le n k
  rw [Nat.pow_succ]
  have := Nat.two_pow_pos n
  omega
theorem mulN {a b : Nat} {x y : Int} (i j : Nat) (ha : Lg a i) (hb : Lg b j) (hx : x = a) (hy : y = b) (h : i + j < 1000000) : mulF (.int x) (.int y) = some (.int ((a * b : Nat) : Int)) := by
  subst hx hy
  have h1 := ha.log
  have h2 := hb.log
  show (if _ then _ else _) = _
  rw [if_pos (by simp only [Int.natAbs_natCast]; omega)]
  rw [Int.natCast_mul]
theorem fdivN {a b : Nat} {x y : Int} (j : Nat) (hb : 0 < b) (hl : Lg b j) (hx : x = a) (hy : y = b) (h : j < 9000) : fdivF (.int x) (.int y) = some (.int ((a / b : Nat) : Int)) := by
  subst hx hy
  have h2 := hl.log
  show (if _ then _ else _) = _
  rw [if_pos ⟨by omega, by simp only [Int.natAbs_natCast]; omega⟩]
  rfl

theorem product_to_ok {n : Nat} (hn : n ≤ 200) : f_product_to [.int (n : Int)] = some (.int ((fac n : Nat) : Int), [some (.int (n : Int))]) := by
  obtain ⟨st', e, x, rfl⟩ := forL_inv (t := .n 2) (b := mSet 1 (m2 (.v 1) (.v 2) mulF)) (fun i st => ∃ x, st = [some (.int (n : Int)), some (.int ((fac (i + 1) : Nat) : Int)), x]) (ds := rgD 2 ((n : Int) + 1)) (k := 0) (st := [some (.int (n : Int)), some (.int 1), none]) ⟨none, rfl⟩ fun i d st hi ⟨x, hst⟩ => by
    subst hst
    have hd := rgD_get hi
    have hi' : i + 1 < n := by
      have := (List.getElem?_eq_some_iff.mp hi).1
      rw [rgD_len] at this
      omega
    subst hd
    have e : mulF (.int ((fac (i + 1) : Nat) : Int)) (.int (2 + (i : Nat))) = some (.int ((fac (i + 1) * (i + 2) : Nat) : Int)) :=
      mulN (8 * (i + 1) + 1) 8 (Lg_fac (by omega)) (Lg.of8 (by omega)) rfl (by omega) (by omega)
    have e2 : fac (0 + i + 1 + 1) = fac (i + 1) * (i + 2) := by
      rw [Nat.zero_add]
      show (i + 2) * fac (i + 1) = _
      rw [Nat.mul_comm]
    refine ⟨_, _, rfl, .inl ?_, some (.int (2 + (i : Nat))), rfl⟩
    rw [e2]
    simp [e]
  have hs := small_of (i := (n : Int) + 1) (by omega) (by omega)
  have hs2 := small_of (i := 2) (by omega) (by omega)
  have e2 : fac (0 + (rgD 2 ((n : Int) + 1)).length + 1) = fac n := by
    rw [rgD_len]
    by_cases h0 : n = 0
    · subst h0; rfl
    · rw [show 0 + ((n : Int) + 1 - 2).toNat + 1 = n by omega]
  rw [e2] at e
  unfold f_product_to m_product_to
  simp [runD, hs, hs2, e]
theorem power_ok {b k : Nat} (hb : b ≤ 200) (hk : k ≤ 200) : f_power [.int (b : Int), .int (k : Int)] = some (.int ((b ^ k : Nat) : Int), [some (.int (b : Int)), some (.int (k : Int))]) := by
  obtain ⟨st', e, x, rfl⟩ := forL_inv (t := .n 3) (b := mSet 2 (m2 (.v 2) (.v 0) mulF)) (fun i st => ∃ x, st = [some (.int (b : Int)), some (.int (k : Int)), some (.int ((b ^ i : Nat) : Int)), x]) (ds := rgD 0 (k : Int)) (k := 0) (st := [some (.int (b : Int)), some (.int (k : Int)), some (.int 1), none]) ⟨none, rfl⟩ fun i d st hi ⟨x, hst⟩ => by
    subst hst
    have hi' : i < k := by
      have := (List.getElem?_eq_some_iff.mp hi).1
      rw [rgD_len] at this
      omega
    have e : mulF (.int ((b ^ (0 + i) : Nat) : Int)) (.int (b : Int)) = some (.int ((b ^ (0 + i) * b : Nat) : Int)) :=
      mulN (8 * (0 + i) + 1) 8 (Lg.pow (Lg.of8 (by omega)) _) (Lg.of8 (by omega)) rfl rfl (by omega)
    refine ⟨_, _, rfl, .inl ?_, some d, rfl⟩
    rw [Nat.pow_succ]
    generalize b ^ (0 + i) = z at *
    simp [e]
  have hs := small_of (i := (k : Int)) (by omega) (by omega)
  have e2 : 0 + (rgD 0 (k : Int)).length = k := by
    rw [rgD_len]; omega
  rw [e2] at e
  unfold f_power m_power
  simp [runD, hs, e]
end Pl
/-! Nm3: rows of numbers of partitions, of families -/
namespace Pl
open Va L2 PySem Nm

theorem rgN (n : Nat) : rgD 0 (n : Int) = (List.range n).map fun (k : Nat) => D.int (k : Int) := by
  unfold rgD; simp
def rowL (o : Bool) (m : Nat) : D := .lst o ((List.range (m + 1)).map fun k => D.int ((s2 m k : Nat) : Int))
@[simp] theorem imm_rowL (o : Bool) (m : Nat) : imm (rowL o m) = !o := rfl
theorem ix_list {o : Bool} {n k : Nat} {f : Nat → D} (hk : k < n) (hf : imm (f k) = true) {x : Int} (hx : x = k) : ixF (.lst o ((List.range n).map f)) (.int x) = some (f k) := by
  subst hx
  show immO (atI ((List.range n).map f) (k : Int)) = _
  rw [atI_ok (by omega) (by simp; omega)]
  simp [hk, hf]
theorem ix_row {o : Bool} {m k : Nat} (hk : k ≤ m) {x : Int} (hx : x = k) : ixF (rowL o m) (.int x) = some (.int ((s2 m k : Nat) : Int)) :=
  ix_list (f := fun k => D.int ((s2 m k : Nat) : Int)) (by omega) rfl hx
@[simp] theorem len_row (o : Bool) (m : Nat) : lenF (rowL o m) = some (.int ((m : Int) + 1)) := by simp [rowL, lenF]
theorem partitions_row_ok {n : Nat} (hn : n ≤ 200) : f_partitions_row [.int (n : Int)] = some (rowL true n, [some (.int (n : Int))]) := by
  obtain ⟨st', e, x, rfl⟩ := forL_inv (t := .n 2) (b := mSet 1 (mLc (mRg1 (m2 (.e (m1 (.v 1) lenF)) (.e (mC (.int 1))) addF)) (.n 3) mYes (m2 (.e (mIte (mB (m2 (.v 3) (.e (mC (.int 0))) (cmpF .Gt))) (m2 (.v 1) (.e (m2 (.v 3) (.e (mC (.int 1))) subF)) ixF) (mC (.int 0)))) (.e (mIte (mB (m2 (.v 3) (.e (m1 (.v 1) lenF)) (cmpF .Lt))) (m2 (.v 3) (.e (m2 (.v 1) (.v 3) ixF)) mulF) (mC (.int 0)))) addF) [3])) (fun i st => ∃ x, st = [some (.int (n : Int)), some (rowL true i), x, none]) (ds := rgD 0 (n : Int)) (k := 0) (st := [some (.int (n : Int)), some (rowL true 0), none, none]) ⟨none, rfl⟩ fun i d st hi ⟨x, hst⟩ => by
    rw [Nat.zero_add] at hst
    subst hst
    have hi' : i < n := by
      have := (List.getElem?_eq_some_iff.mp hi).1
      rw [rgD_len] at this
      omega
    rw [Nat.zero_add]
    refine ⟨_, _, rfl, .inl ?_, some d, rfl⟩
    have hs := small_of (i := (i : Int) + 1 + 1) (by omega) (by omega)
    have hr : rgD 0 ((i : Int) + 1 + 1) = (List.range (i + 2)).map fun (k : Nat) => D.int (k : Int) := by
      rw [show (i : Int) + 1 + 1 = ((i + 2 : Nat) : Int) by omega, rgN]
    simp
    rw [mLc_a (l := List.range (i + 2)) (fun (k : Nat) => D.int (k : Int)) (fun k => D.int ((s2 (i + 1) k : Nat) : Int)) (s := [some (.int (n : Int)), some (rowL true i), some d, none]) (st0 := [some (.int (n : Int)), some (rowL true i), some d, none]) (by simp [hs, hr]) (by simp) (by simp; omega) (by simp) fun a ha => by
      have ha' : a < i + 2 := List.mem_range.mp ha
      refine ⟨_, [some (.int (n : Int)), some (rowL true i), some d, some (.int (a : Int))], by simp; rfl, ?_, by simp⟩
      cases a with
      | zero =>
        have e1 := ix_row (o := true) (m := i) (k := 0) (x := 0) (by omega) rfl
        have e2 : mulF (.int (0 : Nat)) (.int ((s2 i 0 : Nat) : Int)) = some (.int ((0 * s2 i 0 : Nat) : Int)) := mulN 8 (8 * i + 1) (Lg.of8 (by omega)) (Lg_s2 (by omega)) rfl rfl (by omega)
        simp at e2
        have h1 : (0 : Int) < (i : Int) + 1 := by omega
        simp [e1, e2, h1, s2]
      | succ a =>
        have h0 : (0 : Int) < (a : Int) + 1 := by omega
        have e1 := ix_row (o := true) (m := i) (k := a) (x := (a : Int)) (by omega) rfl
        by_cases hl : a + 1 < i + 1
        · have h1 : (a : Int) + 1 < (i : Int) + 1 := by omega
          have e3 := ix_row (o := true) (m := i) (k := a + 1) (x := (a : Int) + 1) (by omega) (by omega)
          have e2 : mulF (.int ((a : Int) + 1)) (.int ((s2 i (a + 1) : Nat) : Int)) = some (.int (((a + 1) * s2 i (a + 1) : Nat) : Int)) := mulN 8 (8 * i + 1) (Lg.of8 (by omega)) (Lg_s2 (by omega)) rfl rfl (by omega)
          have e4 : ((s2 (i + 1) (a + 1) : Nat) : Int) = ((s2 i a : Nat) : Int) + (((a + 1) * s2 i (a + 1) : Nat) : Int) := by
            rw [← Int.natCast_add]; rfl
          rw [e4]
          generalize (((a + 1) * s2 i (a + 1) : Nat) : Int) = z at *
          simp [h0, h1, e1, e2, e3]
        · have h1 : ¬ a < i := by omega
          have e4 : ((s2 (i + 1) (a + 1) : Nat) : Int) = ((s2 i a : Nat) : Int) := by
            show ((s2 i a + (a + 1) * s2 i (a + 1) : Nat) : Int) = _
            rw [s2_gt i (a + 1) (by omega)]; simp
          rw [e4]
          simp [h0, h1, e1]]
    simp [rowL]
  have hs := small_of (i := (n : Int)) (by omega) (by omega)
  have e2 : 0 + (rgD 0 (n : Int)).length = n := by rw [rgD_len]; omega
  rw [e2] at e
  have e3 : D.lst true [.int 1] = rowL true 0 := rfl
  unfold f_partitions_row m_partitions_row
  simp [runD, hs, e3, e]
/-- families of n beads with b bags -/
def fn (n b : Nat) : Nat := n ^ (b - 1) * s2 (n - 1) b
def frowL (o : Bool) (n : Nat) : D := .lst o ((List.range n).map fun k => D.int ((fn n k : Nat) : Int))
def SpNum (f : Fn) (g : Nat → Nat) : Prop := ∀ {n : Nat}, n ≤ 200 → f [.int (n : Int)] = some (.int ((g n : Nat) : Int), [some (.int (n : Int))])
def SpPow (f : Fn) : Prop := ∀ {b k : Nat}, b ≤ 200 → k ≤ 200 → f [.int (b : Int), .int (k : Int)] = some (.int ((b ^ k : Nat) : Int), [some (.int (b : Int)), some (.int (k : Int))])
def SpRow (f : Fn) : Prop := ∀ {n : Nat}, n ≤ 200 → f [.int (n : Int)] = some (rowL true n, [some (.int (n : Int))])
def SpFRow (f : Fn) : Prop := ∀ {n : Nat}, 2 ≤ n → n ≤ 200 → f [.int (n : Int)] = some (frowL true n, [some (.int (n : Int))])
theorem Lg_fn {n b : Nat} (h : n ≤ 200) (hb : b ≤ 200) : Lg (fn n b) 4000 :=
  ((Lg.pow (Lg.of8 (by omega)) (b - 1)).mul (Lg_s2 (n := n - 1) (k := b) (by omega))).mono (by omega)
theorem families_row_ok {cr cp : Fn} (hr : SpRow cr) (hp : SpPow cp) : SpFRow (f_families_row cr cp) := fun {n} h2 hn => by
  have e1 := hr (n := n - 1) (by omega)
  rw [show ((n - 1 : Nat) : Int) = (n : Int) - 1 by omega] at e1
  have hi : imm (rowL true (n - 1)) = false := rfl
  have hs1 := small_of (i := 1) (by omega) (by omega)
  have hs := small_of (i := ((n - 1 : Nat) : Int) + 1) (by omega) (by omega)
  have hrg : rgD 1 (((n - 1 : Nat) : Int) + 1) = (List.range (n - 1)).map fun (k : Nat) => D.int (1 + (k : Int)) := by
    unfold rgD
    rw [show ((((n - 1 : Nat) : Int) + 1) - 1).toNat = n - 1 by omega]
  have hE : D.lst true (D.int 0 :: (List.range (n - 1)).map fun k => D.int ((fn n (k + 1) : Nat) : Int)) = frowL true n := by
    obtain ⟨m, rfl⟩ : ∃ m, n = m + 1 := ⟨n - 1, by omega⟩
    unfold frowL
    rw [List.range_succ_eq_map, List.map_cons, List.map_map, show m + 1 - 1 = m by omega]
    congr 3
    obtain ⟨k, rfl⟩ : ∃ k, m = k + 1 := ⟨m - 1, by omega⟩
    simp [fn, s2]
  unfold f_families_row m_families_row
  simp [runD, e1]
  rw [mLc_a (l := List.range (n - 1)) (fun (k : Nat) => D.int (1 + (k : Int))) (fun k => D.int ((fn n (k + 1) : Nat) : Int)) (s := [some (.int (n : Int)), some (rowL true (n - 1)), none]) (st0 := [some (.int (n : Int)), some (rowL true (n - 1)), none]) (by simp [hs, hs1, hrg]) (by simp) (by simp; omega) (by simp) fun a ha => by
    have ha' : a < n - 1 := List.mem_range.mp ha
    refine ⟨_, [some (.int (n : Int)), some (rowL true (n - 1)), some (.int (1 + (a : Int)))], by simp; rfl, ?_, by simp⟩
    have e2 := hp (b := n) (k := a) (by omega) (by omega)
    have e3 := ix_row (o := true) (m := n - 1) (k := a + 1) (x := 1 + (a : Int)) (by omega) (by omega)
    have e4 : mulF (.int ((n ^ a : Nat) : Int)) (.int ((s2 (n - 1) (a + 1) : Nat) : Int)) = some (.int ((fn n (a + 1) : Nat) : Int)) := mulN (8 * a + 1) (8 * (n - 1) + 1) (Lg.pow (Lg.of8 (by omega)) _) (Lg_s2 (by omega)) rfl rfl (by omega)
    have e5 : 1 + (a : Int) - 1 = (a : Int) := by omega
    generalize ((n ^ a : Nat) : Int) = z at *
    simp [e5, e2, e3, e4]]
  have hadd : addF (.lst true [.int 0]) (.lst true ((List.range (n - 1)).map fun k => D.int ((fn n (k + 1) : Nat) : Int))) = some (frowL true n) := by
    rw [← hE]
    show (if _ then _ else _) = _
    rw [if_pos (by rw [LN_eq']; simp; omega)]
    rfl
  simp [-List.map_map, hadd]
end Pl
/-! Nm4: the number functions (2) -/
namespace Pl
open Va L2 PySem Nm

def SpNeedN (f : Fn) : Prop := ∀ {v lo hi : Int}, lo ≤ v → v ≤ hi → f [.int v, .int lo, .int hi] = some (.non, [some (.int v), some (.int lo), some (.int hi)])
def SpNeedB (f : Fn) : Prop := ∀ {n b : Nat}, 2 ≤ n → n ≤ 200 → 1 ≤ b → b < n → f [.int (n : Int), .int (b : Int)] = some (.non, [some (.int (n : Int)), some (.int (b : Int))])
theorem need_bag_number_ok {c : Fn} (h : SpNeedN c) : SpNeedB (f_need_bag_number c) := fun {n b} h2 hn h1 hb => by
  have e1 := h (v := n) (lo := 2) (hi := 200) (by omega) (by omega)
  have e2 := h (v := b) (lo := 1) (hi := (n : Int) - 1) (by omega) (by omega)
  unfold f_need_bag_number m_need_bag_number
  simp [runD, e1, e2]
theorem ix_frow {o : Bool} {n k : Nat} (hk : k < n) {x : Int} (hx : x = k) : ixF (frowL o n) (.int x) = some (.int ((fn n k : Nat) : Int)) :=
  ix_list (f := fun k => D.int ((fn n k : Nat) : Int)) hk rfl hx
@[simp] theorem imm_frowL (o : Bool) (m : Nat) : imm (frowL o m) = !o := rfl
def SpCWB (f : Fn) : Prop := ∀ {n b : Nat}, 2 ≤ n → n ≤ 200 → 1 ≤ b → b < n → f [.int (n : Int), .int (b : Int)] = some (.int ((fn n b : Nat) : Int), [some (.int (n : Int)), some (.int (b : Int))])
theorem count_with_bags_ok {c cf : Fn} (h : SpNeedB c) (hf : SpFRow cf) : SpCWB (f_count_with_bags c cf) := fun {n b} h2 hn h1 hb => by
  have e1 := h h2 hn h1 hb
  have e2 := hf h2 hn
  have e3 := ix_frow (o := true) hb rfl
  unfold f_count_with_bags m_count_with_bags
  simp [runD, e1, e2, e3]
def tallyL (n : Nat) : List Int := (List.range (n - 1)).map fun k => ((fn n (k + 1) : Nat) : Int)
theorem frow_tally {n : Nat} (h : 2 ≤ n) : (List.range n).map (fun k => D.int ((fn n k : Nat) : Int)) = .int 0 :: intsD (tallyL n) := by
  obtain ⟨m, rfl⟩ : ∃ m, n = m + 1 := ⟨n - 1, by omega⟩
  unfold tallyL intsD
  rw [List.range_succ_eq_map, List.map_cons, List.map_map, List.map_map, show m + 1 - 1 = m by omega]
  congr 2
  obtain ⟨k, rfl⟩ : ∃ k, m = k + 1 := ⟨m - 1, by omega⟩
  simp [fn, s2]
def SpTally (f : Fn) : Prop := ∀ {n : Nat}, 2 ≤ n → n ≤ 200 → f [.int (n : Int)] = some (.tup (intsD (tallyL n)), [some (.int (n : Int))])
theorem tally_ok {c cf : Fn} (h : SpNeedN c) (hf : SpFRow cf) : SpTally (f_tally c cf) := fun {n} h2 hn => by
  have e1 := h (v := n) (lo := 2) (hi := 200) (by omega) (by omega)
  have e2 := hf h2 hn
  have e4 : slF (some 1) none (frowL true n) = some (.lst true (intsD (tallyL n))) := by
    unfold frowL
    rw [frow_tally h2]
    show (match (D.int 0 :: intsD (tallyL n)).all Va.imm with
      | true => some (D.lst true (cutD (D.int 0 :: intsD (tallyL n)) (some 1) none))
      | false => none) = _
    rw [List.all_cons, all_imm_ints, cut1]
    rfl
  have e5 : tupcF (.lst true (intsD (tallyL n))) = some (.tup (intsD (tallyL n))) := by
    unfold tupcF
    simp only [all_imm_ints]
  unfold f_tally m_tally
  simp [runD, e1, e2, mSl, mPart, e4, e5]
theorem sum_ints (o : Bool) (l : List Int) : sumF (.lst o (intsD l)) = some (.int (isum l)) := by
  unfold sumF intsF lstOf
  simp only [toInts_ints]
theorem sum_intsT (l : List Int) : sumTF (.tup (intsD l)) = some (.int (isum l)) := by
  unfold sumTF
  simp only [toInts_ints]
def SpTotal (f : Fn) : Prop := ∀ {n : Nat}, 2 ≤ n → n ≤ 200 → f [.int (n : Int)] = some (.int (isum (tallyL n)), [some (.int (n : Int))])
theorem sum_frow {n : Nat} (h : 2 ≤ n) (o : Bool) : sumTF (frowL o n) = some (.int (isum (tallyL n))) := by
  show sumF (frowL o n) = _
  unfold frowL
  rw [frow_tally h, show D.int 0 :: intsD (tallyL n) = intsD (0 :: tallyL n) from rfl, sum_ints, isum, Int.zero_add]

/-! ### the greatest common divisor -/
def ms (a b : Nat) : Nat := if b = 0 then 0 else (a * b).log2 + 1 + (if a < b then 1 else 0)
theorem log_half {x y : Nat} (hx : 0 < x) (h : 2 * x ≤ y) : x.log2 + 1 ≤ y.log2 := by
  rw [Nat.le_log2 (by omega), Nat.pow_succ]
  have := Nat.log2_self_le (n := x) (by omega)
  omega
theorem ms_step {a b : Nat} (hb : 0 < b) : ms b (a % b) < ms a b := by
  unfold ms
  rw [if_neg (show ¬ b = 0 by omega)]
  by_cases hr : a % b = 0
  · rw [if_pos hr]; omega
  · rw [if_neg hr]
    have hlt := Nat.mod_lt a hb
    rw [if_neg (show ¬ b < a % b by omega)]
    by_cases hab : a < b
    · rw [if_pos hab, Nat.mod_eq_of_lt hab, Nat.mul_comm]; omega
    · rw [if_neg hab]
      have h1 : 2 * (b * (a % b)) ≤ a * b := by
        have e := Nat.div_add_mod a b
        have hq : 0 < a / b := Nat.div_pos (by omega) hb
        have h2 : b * 1 ≤ b * (a / b) := Nat.mul_le_mul_left b hq
        have h3 : b * (b + a % b) ≤ b * a := Nat.mul_le_mul_left b (by omega)
        have h4 : b * (a % b) ≤ b * b := Nat.mul_le_mul_left b (by omega)
        rw [Nat.mul_add] at h3
        rw [Nat.mul_comm a b]
        omega
      have := log_half (Nat.mul_pos hb (Nat.pos_of_ne_zero hr)) h1
      omega
theorem ms_le {a b i j : Nat} (ha : Lg a i) (hb : Lg b j) : ms a b ≤ i + j + 2 := by
  unfold ms
  split
  · omega
  · have := (ha.mul hb).log
    split <;> omega
theorem gcd_loop {a b i j : Nat} (ha : Lg a i) (hb : Lg b j) (hij : i + j < 90000) : ∃ s, mWhile (mB (m2 (.v 1) (.e (mC (.int 0))) (cmpF .NotEq))) (mSet2 0 1 (mCons (mVar 1) (mCons (m2 (.v 0) (.v 1) modF) mNil))) 100000 [some (.int (a : Int)), some (.int (b : Int))] = some (.nx, s) ∧ s = [some (.int ((Nat.gcd a b : Nat) : Int)), some (.int 0)] := by
  refine while_inv (fun μ st => ∃ x y : Nat, st = [some (.int (x : Int)), some (.int (y : Int))] ∧ Nat.gcd x y = Nat.gcd a b ∧ μ = ms x y) (fun μ st ⟨x, y, e, g, m⟩ => ?_) _ _ _ ⟨a, b, rfl, rfl, rfl⟩ (by have := ms_le ha hb; omega)
  subst e
  refine ⟨decide (y ≠ 0), [some (.int (x : Int)), some (.int (y : Int))], ?_, fun h => ?_, fun h => ?_⟩
  · have : necF (.int (y : Int)) (.int 0) = some (.bl (decide (y ≠ 0))) := by
      by_cases h : y = 0
      · subst h; rfl
      · have : (y : Int) ≠ 0 := by omega
        simp [h]
    simp [this]
  · have h0 : y = 0 := by simpa using h
    subst h0
    rw [Nat.gcd_zero_right] at g
    rw [g]; rfl
  · have h0 : y ≠ 0 := by simpa using h
    refine ⟨[some (.int (y : Int)), some (.int ((x % y : Nat) : Int))], ?_, _, by rw [m]; exact ms_step (by omega), y, x % y, rfl, ?_, rfl⟩
    · have hm : modF (.int (x : Int)) (.int (y : Int)) = some (.int ((x % y : Nat) : Int)) := by
        show (if _ then _ else _) = _
        rw [if_pos (by omega)]; rfl
      simp [hm]
    · rw [← g, Nat.gcd_comm x y, Nat.gcd_rec y x, Nat.gcd_comm]
end Pl
/-! Nm5: the number functions (3): ratios, shares -/
namespace Pl
open Va L2 PySem Nm

def SpGcd (f : Fn) : Prop := ∀ {a b : Nat} (i j : Nat), Lg a i → Lg b j → i + j < 90000 → f [.int (a : Int), .int (b : Int)] = some (.int ((Nat.gcd a b : Nat) : Int), [none, none])
theorem common_sp : SpGcd f_common := fun {a b} i j ha hb hij => by
  obtain ⟨s, e, rfl⟩ := gcd_loop ha hb hij
  have h : ¬ ((Nat.gcd a b : Nat) : Int) < 0 := by omega
  have e2 : absF (.int ((Nat.gcd a b : Nat) : Int)) = some (.int ((Nat.gcd a b : Nat) : Int)) := by
    show some (D.int (if _ then _ else _)) = _
    rw [if_neg h]
  unfold f_common m_common
  simp [runD, e, e2]
theorem law_common_sp : SpGcd f__law_common := fun {a b} i j ha hb hij => by
  obtain ⟨s, e, rfl⟩ := gcd_loop ha hb hij
  have e1 : absF (.int (a : Int)) = some (.int (a : Int)) := by
    show some (D.int (if _ then _ else _)) = _
    rw [if_neg (by omega)]
  have e2 : absF (.int (b : Int)) = some (.int (b : Int)) := by
    show some (D.int (if _ then _ else _)) = _
    rw [if_neg (by omega)]
  unfold f__law_common m__law_common
  simp [runD, e1, e2, e]
def ratD (a b : Nat) : D := .tup [.int ((a / Nat.gcd a b : Nat) : Int), .int ((b / Nat.gcd a b : Nat) : Int)]
@[simp] theorem imm_rat (a b : Nat) : imm (ratD a b) = true := rfl
def SpLow (f : Fn) : Prop := ∀ {a b : Nat} (i j : Nat), 0 < b → Lg a i → Lg b j → i + j < 90000 → j < 9000 → f [.int (a : Int), .int (b : Int)] = some (ratD a b, [some (.int (a : Int)), some (.int (b : Int))])
theorem gcd_pos {a b : Nat} (hb : 0 < b) : 0 < Nat.gcd a b := Nat.gcd_pos_of_pos_right a hb
theorem Lg_gcd {a b j : Nat} (hb : 0 < b) (h : Lg b j) : Lg (Nat.gcd a b) j := h.le (Nat.le_of_dvd hb (Nat.gcd_dvd_right a b))
theorem lowered_sp {c : Fn} (h : SpGcd c) : SpLow (f_lowered c) := fun {a b} i j hb ha hbj hij hj => by
  have e := h i j ha hbj hij
  have e1 := fdivN (a := a) (x := a) j (gcd_pos (a := a) hb) (Lg_gcd (a := a) hb hbj) rfl rfl hj
  have e2 := fdivN (a := b) (x := b) j (gcd_pos (a := a) hb) (Lg_gcd (a := a) hb hbj) rfl rfl hj
  unfold f_lowered m_lowered
  simp [runD, -Int.natCast_ediv, e, e1, e2, ratD]
theorem law_lowered_sp {c : Fn} (h : SpGcd c) : SpLow (f__law_lowered c) := fun {a b} i j hb ha hbj hij hj => by
  have e := h i j ha hbj hij
  have e1 := fdivN (a := a) (x := a) j (gcd_pos (a := a) hb) (Lg_gcd (a := a) hb hbj) rfl rfl hj
  have e2 := fdivN (a := b) (x := b) j (gcd_pos (a := a) hb) (Lg_gcd (a := a) hb hbj) rfl rfl hj
  unfold f__law_lowered m__law_lowered
  simp [runD, -Int.natCast_ediv, e, e1, e2, ratD]
def SpWays (f : Fn) : Prop := ∀ {m k : Nat}, k ≤ m → m ≤ 200 → f [.int (m : Int), .int (k : Int)] = some (.int ((ch m k : Nat) : Int), [some (.int (m : Int)), some (.int (k : Int))])
theorem ways_sp : SpWays f__law_ways := fun {m k} hk hm => by
  obtain ⟨st', e, x, rfl⟩ := forL_inv (t := .n 3) (b := mSet 2 (m2 (.e (m2 (.v 2) (.e (m2 (.v 0) (.v 3) subF)) mulF)) (.e (m2 (.v 3) (.e (mC (.int 1))) addF)) fdivF)) (fun i st => ∃ x, st = [some (.int (m : Int)), some (.int (k : Int)), some (.int ((ch m i : Nat) : Int)), x]) (ds := rgD 0 (k : Int)) (k := 0) (st := [some (.int (m : Int)), some (.int (k : Int)), some (.int 1), none]) ⟨none, by rw [ch_zero]; rfl⟩ fun i d st hi ⟨x, hst⟩ => by
    rw [Nat.zero_add] at hst ⊢
    subst hst
    have hd := rgD_get hi
    have hi' : i < k := by
      have := (List.getElem?_eq_some_iff.mp hi).1
      rw [rgD_len] at this
      omega
    subst hd
    have e1 : mulF (.int ((ch m i : Nat) : Int)) (.int ((m : Int) - (i : Nat))) = some (.int ((ch m i * (m - i) : Nat) : Int)) := mulN (m + 1) 8 Lg_ch (Lg.of8 (by omega)) rfl (by omega) (by omega)
    have e2 : fdivF (.int ((ch m i * (m - i) : Nat) : Int)) (.int ((i : Nat) + 1)) = some (.int ((ch m i * (m - i) / (i + 1) : Nat) : Int)) := fdivN 8 (by omega) (Lg.of8 (by omega)) rfl (by omega) (by omega)
    have e3 : ch m i * (m - i) / (i + 1) = ch m (i + 1) := by
      rw [← ch_step, Nat.mul_div_cancel _ (by omega)]
    rw [e3] at e2
    refine ⟨_, _, rfl, .inl ?_, some (.int (0 + (i : Nat))), rfl⟩
    generalize ((ch m i * (m - i) : Nat) : Int) = z at *
    simp [e1, e2]
  have hs := small_of (i := (k : Int)) (by omega) (by omega)
  have e2 : 0 + (rgD 0 (k : Int)).length = k := by rw [rgD_len]; omega
  rw [e2] at e
  unfold f__law_ways m__law_ways
  simp [runD, hs, e]
/-- the share of families whose bead has degree d: above, low -/
def dsA (n b d : Nat) : Nat := ch (b - 1) (d - 1) * (n - 1) ^ (b - d)
def SpShare (f : Fn) : Prop := ∀ {n b d : Nat}, 2 ≤ n → n ≤ 200 → 1 ≤ d → d ≤ b → b < n → f [.int (n : Int), .int (b : Int), .int (d : Int)] = some (ratD (dsA n b d) (n ^ (b - 1)), [some (.int (n : Int)), some (.int (b : Int)), some (.int (d : Int))])
theorem Lg_dsA {n b d : Nat} (hn : n ≤ 200) (hb : b < n) : Lg (dsA n b d) 2000 :=
  ((Lg_ch (n := b - 1) (k := d - 1)).mul (Lg.pow (a := n - 1) (Lg.of8 (by omega)) (b - d))).mono (by omega)
theorem Lg_pow {n k : Nat} (hn : n ≤ 200) (hk : k ≤ 200) : Lg (n ^ k) 1601 := (Lg.pow (Lg.of8 (by omega)) k).mono (by omega)
theorem degree_share_sp {cb cn cf cp cl : Fn} (hb : SpNeedB cb) (hn : SpNeedN cn) (hf : SpNum cf fac) (hp : SpPow cp) (hl : SpLow cl) : SpShare (f_degree_share cb cn cf cp cl) := fun {n b d} h2 h200 d1 db bn => by
  have e1 := hb h2 h200 (by omega) bn
  have e2 := hn (v := d) (lo := 1) (hi := 200) (by omega) (by omega)
  have e3 := hf (n := b - 1) (by omega)
  have e4 := hf (n := d - 1) (by omega)
  have e5 := hf (n := b - d) (by omega)
  have e6 : mulF (.int ((fac (d - 1) : Nat) : Int)) (.int ((fac (b - d) : Nat) : Int)) = some (.int ((fac (d - 1) * fac (b - d) : Nat) : Int)) := mulN (8 * (d - 1) + 1) (8 * (b - d) + 1) (Lg_fac (by omega)) (Lg_fac (by omega)) rfl rfl (by omega)
  have e7 : fdivF (.int ((fac (b - 1) : Nat) : Int)) (.int ((fac (d - 1) * fac (b - d) : Nat) : Int)) = some (.int ((fac (b - 1) / (fac (d - 1) * fac (b - d)) : Nat) : Int)) :=
    fdivN (8 * (d - 1) + 1 + (8 * (b - d) + 1)) (Nat.mul_pos (fac_pos _) (fac_pos _)) ((Lg_fac (by omega)).mul (Lg_fac (by omega))) rfl rfl (by omega)
  have e8 : fac (b - 1) / (fac (d - 1) * fac (b - d)) = ch (b - 1) (d - 1) := by
    have h := ch_fac (d - 1) (b - d)
    rw [show d - 1 + (b - d) = b - 1 by omega] at h
    rw [← h, Nat.mul_div_cancel _ (Nat.mul_pos (fac_pos _) (fac_pos _))]
  rw [e8] at e7
  have e9 := hp (b := n - 1) (k := b - d) (by omega) (by omega)
  have e10 := hp (b := n) (k := b - 1) (by omega) (by omega)
  have e11 : mulF (.int ((ch (b - 1) (d - 1) : Nat) : Int)) (.int (((n - 1) ^ (b - d) : Nat) : Int)) = some (.int ((dsA n b d : Nat) : Int)) := mulN b (8 * (b - d) + 1) (Lg_ch.mono (by omega)) (Lg.pow (Lg.of8 (by omega)) _) rfl rfl (by omega)
  have e12 := hl (a := dsA n b d) (b := n ^ (b - 1)) 2000 1601 (Nat.pow_pos (by omega)) (Lg_dsA h200 bn) (Lg_pow h200 (by omega)) (by omega) (by omega)
  rw [show ((b - 1 : Nat) : Int) = (b : Int) - 1 by omega] at e3 e10
  rw [show ((d - 1 : Nat) : Int) = (d : Int) - 1 by omega] at e4
  rw [show ((n - 1 : Nat) : Int) = (n : Int) - 1 by omega] at e9
  have hr : (b : Int) - 1 - ((d : Int) - 1) = ((b - d : Nat) : Int) := by omega
  have hc : ¬ (b < d) := by omega
  unfold f_degree_share m_degree_share
  generalize ((n ^ (b - 1) : Nat) : Int) = z1 at *
  generalize (((n - 1) ^ (b - d) : Nat) : Int) = z2 at *
  generalize ((fac (d - 1) * fac (b - d) : Nat) : Int) = z3 at *
  generalize ((b - d : Nat) : Int) = z4 at *
  simp [runD, e1, e2, hc, hr, e3, e4, e5, e6, e7, e9, e10, e11, e12]
def SpMeanD (f : Fn) : Prop := ∀ {n b : Nat}, 2 ≤ n → n ≤ 200 → 1 ≤ b → b < n → f [.int (n : Int), .int (b : Int)] = some (ratD (n + b - 1) n, [some (.int (n : Int)), some (.int (b : Int))])
theorem mean_degree_sp {cb cl : Fn} (hb : SpNeedB cb) (hl : SpLow cl) : SpMeanD (f_mean_degree cb cl) := fun {n b} h2 h200 b1 bn => by
  have e1 := hb h2 h200 b1 bn
  have e2 := hl (a := n + b - 1) (b := n) 9 8 (by omega) (by unfold Lg; omega) (Lg.of8 (by omega)) (by omega) (by omega)
  rw [show ((n + b - 1 : Nat) : Int) = (n : Int) + b - 1 by omega] at e2
  unfold f_mean_degree m_mean_degree
  simp [runD, e1, e2]
/-- the mean number of beads in one bag alone -/
def omA (n b : Nat) : Nat := dsA n b 1 / Nat.gcd (dsA n b 1) (n ^ (b - 1)) * n
def omB (n b : Nat) : Nat := n ^ (b - 1) / Nat.gcd (dsA n b 1) (n ^ (b - 1))
def SpOuter (f : Fn) : Prop := ∀ {n b : Nat}, 2 ≤ n → n ≤ 200 → 1 ≤ b → b < n → f [.int (n : Int), .int (b : Int)] = some (ratD (omA n b) (omB n b), [some (.int (n : Int)), some (.int (b : Int))])
theorem omB_pos {n b : Nat} (hn : 2 ≤ n) : 0 < omB n b := by
  unfold omB
  have h : 0 < n ^ (b - 1) := Nat.pow_pos (by omega)
  exact Nat.div_pos (Nat.le_of_dvd h (Nat.gcd_dvd_right _ _)) (gcd_pos h)
theorem outer_mean_sp {cs cl : Fn} (hs : SpShare cs) (hl : SpLow cl) : SpOuter (f_outer_mean cs cl) := fun {n b} h2 h200 b1 bn => by
  have e1 := hs (d := 1) h2 h200 (by omega) b1 bn
  have g1 : Lg (dsA n b 1 / Nat.gcd (dsA n b 1) (n ^ (b - 1))) 2000 := (Lg_dsA (d := 1) h200 bn).le (Nat.div_le_self _ _)
  have g2 : Lg (omB n b) 1601 := (Lg_pow (k := b - 1) h200 (by omega)).le (Nat.div_le_self _ _)
  have e2 : mulF (.int ((dsA n b 1 / Nat.gcd (dsA n b 1) (n ^ (b - 1)) : Nat) : Int)) (.int (n : Int)) = some (.int ((omA n b : Nat) : Int)) := mulN 2000 8 g1 (Lg.of8 (by omega)) rfl rfl (by omega)
  have e3 := hl (a := omA n b) (b := omB n b) 2008 1601 (omB_pos h2) (g1.mul (Lg.of8 (by omega))) g2 (by omega) (by omega)
  have e4 : ratD (dsA n b 1) (n ^ (b - 1)) = .tup [.int ((dsA n b 1 / Nat.gcd (dsA n b 1) (n ^ (b - 1)) : Nat) : Int), .int ((omB n b : Nat) : Int)] := rfl
  have h1 : ((1 : Nat) : Int) = 1 := rfl
  rw [e4, h1] at e1
  unfold f_outer_mean m_outer_mean
  generalize ((dsA n b 1 / Nat.gcd (dsA n b 1) (n ^ (b - 1)) : Nat) : Int) = z1 at *
  simp [runD, e1, mAsg, e2, e3]
end Pl
/-! Nm6: the number functions (4): sizes, degrees told -/
namespace Pl
open Va L2 PySem Nm

theorem forL_fold {α β : Type} {t : Tgt} {b : M Fl} (enc : α → D) (g : β → α → β) (R : β → S → Prop) : ∀ {l : List α} {v : β} {st : S}, R v st →
    (∀ a ∈ l, ∀ v st, R v st → ∃ s1 s2, asgT t (enc a) st = some s1 ∧ b s1 = some (.nx, s2) ∧ R (g v a) s2) → ∃ st', forL t b (l.map enc) st = some (.nx, st') ∧ R (l.foldl g v) st'
  | [], v, st, h0, _ => ⟨st, rfl, h0⟩
  | a :: l, v, st, h0, hs => by
    obtain ⟨s1, s2, ha, hb, h2⟩ := hs a (List.mem_cons_self ..) v st h0
    obtain ⟨st', e, h⟩ := forL_fold enc g R (l := l) h2 fun a ha => hs a (List.mem_cons_of_mem _ ha)
    refine ⟨st', ?_, h⟩
    rw [List.map_cons]
    unfold forL
    rw [ha]
    dsimp only
    rw [hb]
    exact e
/-- the distinct ones, as they come -/
def dd (acc l : List Int) : List Int := l.foldl (fun acc x => if x ∈ acc then acc else acc ++ [x]) acc
theorem swap_kset (l : List Int) (y : Int) : swapD (kset l) (.int y) (.bl true) = kset l := by
  induction l with
  | nil => rfl
  | cons x l ih =>
    have e : swapD (kset (x :: l)) (.int y) (.bl true) = (match x == y with
        | true => (D.int x, D.bl true) :: swapD (kset l) (.int y) (.bl true)
        | false => (D.int x, D.bl true) :: swapD (kset l) (.int y) (.bl true)) := rfl
    rw [e, ih]
    cases x == y <;> rfl
theorem put_kset2 {l : List Int} {y : Int} (h : y ∈ l) : putD (kset l) (.int y) (.bl true) = kset l := by
  unfold putD
  rw [has_kset, decide_eq_true h, swap_kset]
theorem dcL_dd {t : Tgt} {mk mv : M D} {own : List Nat} {st : S} : ∀ {l acc : List Int},
    (∀ x ∈ l, ∃ s1 s2 s3, asgT t (.int x) st = some s1 ∧ mk s1 = some (.int x, s2) ∧ mv s2 = some (.bl true, s3) ∧ wipeS s3 own = st) → dcL t mYes mk mv own (intsD l) (kset acc) st = some (kset (dd acc l), st)
  | [], acc, _ => rfl
  | x :: l, acc, h => by
    obtain ⟨s1, s2, s3, h1, h2, h3, h4⟩ := h x (List.mem_cons_self ..)
    show dcL t mYes mk mv own (.int x :: intsD l) (kset acc) st = _
    unfold dcL
    rw [h1]
    have e : putD (kset acc) (.int x) (.bl true) = kset (if x ∈ acc then acc else acc ++ [x]) := by
      by_cases hx : x ∈ acc
      · rw [if_pos hx, put_kset2 hx]
      · rw [if_neg hx, put_kset hx]
    simp only [ev_mYes, h2, h3, keyD, imm_bl, e, h4]
    exact dcL_dd (fun y hy => h y (List.mem_cons_of_mem _ hy))
theorem mDc_dd {mi : M (List D)} {t : Tgt} {mk mv : M D} {own : List Nat} {st s st0 : S} {l : List Int} (hmi : mi st = some (intsD l, s)) (ho : ownOk s own = true) (hl : l.length ≤ 16777216) (hw : wipeS s own = st0)
    (h : ∀ x ∈ l, ∃ s1 s2 s3, asgT t (.int x) st0 = some s1 ∧ mk s1 = some (.int x, s2) ∧ mv s2 = some (.bl true, s3) ∧ wipeS s3 own = st0) : mDc mi t mYes mk mv own st = some (.dic true (kset (dd [] l)), backS s st0 own) := by
  unfold mDc
  rw [hmi]
  dsimp only
  rw [ho, ble_ok (by rw [List.length_map]; exact hl), hw]
  have := dcL_dd (t := t) (mk := mk) (mv := mv) (own := own) (st := st0) (l := l) (acc := []) h
  simp only [kset, List.map_nil] at this
  simp only [Bool.and_self, this, kset]
theorem kset_keys (l : List Int) : (kset l).map Prod.fst = intsD l := by
  unfold kset intsD; rw [List.map_map]; rfl
theorem dd_sub : ∀ {l acc : List Int} {x : Int}, x ∈ dd acc l → x ∈ acc ∨ x ∈ l
  | [], acc, x, h => .inl h
  | y :: l, acc, x, h => by
    unfold dd at h
    rw [List.foldl_cons] at h
    rcases dd_sub h with h | h
    · by_cases hy : y ∈ acc
      · rw [if_pos hy] at h; exact .inl h
      · rw [if_neg hy] at h
        rcases List.mem_append.mp h with h | h
        · exact .inl h
        · simp at h; subst h; exact .inr (List.mem_cons_self ..)
    · exact .inr (List.mem_cons_of_mem _ h)

def natI (l : List Nat) : List Int := l.map fun (a : Nat) => (a : Int)
theorem eq_ints0 {l : List Int} (h : l ≠ []) : eqcF (.tup (intsD l)) (.tup []) = some (.bl false) := by
  have s1 : shp 60 (.tup (intsD l)) = true := shp_ints 58 l
  have s2 : shp 60 (.tup []) = true := rfl
  unfold eqcF eqD
  rw [s1, s2]
  cases l with
  | nil => exact absurd rfl h
  | cons x l => rfl
def SpIsL (f : Fn) : Prop := ∀ {l : List Int} {lo hi : Int}, l ≠ [] → l.length ≤ 1000 → (∀ x ∈ l, lo ≤ x ∧ x ≤ hi) → f [.tup (intsD l), .int lo, .int hi] = some (.bl true, [some (.tup (intsD l)), some (.int lo), some (.int hi)])
def SpIn (f : Fn) : Prop := ∀ {v lo hi : Int}, lo ≤ v → v ≤ hi → f [.int v, .int lo, .int hi] = some (.bl true, [some (.int v), some (.int lo), some (.int hi)])
theorem is_list_sp {c : Fn} (hc : SpIn c) : SpIsL (f_is_list_of c) := fun {l lo hi} hl h1 hx => by
  unfold f_is_list_of m_is_list_of
  simp [runD, eq_ints0 hl]
  rw [mLc_a (l := l) D.int (fun x => .bl true) (s := [some (.tup (intsD l)), some (.int lo), some (.int hi), none]) (st0 := [some (.tup (intsD l)), some (.int lo), some (.int hi), none]) (by simp) (by simp) (by omega) (by simp) fun x hxl => by
    refine ⟨_, [some (.tup (intsD l)), some (.int lo), some (.int hi), some (.int x)], by simp; rfl, ?_, by simp⟩
    simp [hc (hx x hxl).1 (hx x hxl).2]]
  simp [all_true]
/-- one less each -/
def pr (l : List Nat) : List Nat := l.map fun a => a - 1
theorem isum_pr {l : List Nat} (h : ∀ x ∈ l, 1 ≤ x) : isum ((natI l).map fun x => x - 1) = (((pr l).sum : Nat) : Int) := by
  induction l with
  | nil => rfl
  | cons a l ih =>
    have h1 := h a (List.mem_cons_self ..)
    have ih := ih fun x hx => h x (List.mem_cons_of_mem _ hx)
    simp only [natI, pr, List.map_cons, isum, List.sum_cons] at ih ⊢
    rw [ih]
    omega
theorem sub_list {st : S} {l : List Nat} {f : Nat} : ((natI l).map fun x => D.int (x - 1)) = intsD ((natI l).map fun x => x - 1) := by
  unfold intsD; rw [List.map_map]; rfl
def cwd (l : List Nat) : Nat := s2 (l.length - 1) (1 + (pr l).sum) * fac (pr l).sum / pf (pr l)
def SpCWD (f : Fn) : Prop := ∀ {l : List Nat}, 2 ≤ l.length → l.length ≤ 200 → (∀ x ∈ l, 1 ≤ x ∧ x ≤ 200) → 1 + (pr l).sum ≤ l.length - 1 → f [.tup (intsD (natI l))] = some (.int ((cwd l : Nat) : Int), [some (.tup (intsD (natI l)))])
theorem count_with_degrees_sp {ci cr cf : Fn} (hi : SpIsL ci) (hr : SpRow cr) (hf : SpNum cf fac) : SpCWD (f_count_with_degrees ci cr cf) := fun {l} h2 h200 hx hM => by
  have hne : natI l ≠ [] := by
    intro e
    have : l = [] := List.map_eq_nil_iff.mp e
    rw [this] at h2; simp at h2
  have hlen : (natI l).length = l.length := by simp [natI]
  have e1 := hi (l := natI l) (lo := 1) (hi := 200) hne (by omega) fun x hx' => by
    obtain ⟨a, ha, rfl⟩ := List.mem_map.mp hx'
    have := hx a ha
    omega
  have hs := isum_pr fun x h => (hx x h).1
  have e2 := hr (n := l.length - 1) (by omega)
  rw [show ((l.length - 1 : Nat) : Int) = (l.length : Int) - 1 by omega] at e2
  have e3 := ix_row (o := true) (m := l.length - 1) (k := 1 + (pr l).sum) (x := 1 + ((pr l).sum : Int)) hM (by omega)
  have e4 := hf (n := (pr l).sum) (by omega)
  have e5 : mulF (.int ((s2 (l.length - 1) (1 + (pr l).sum) : Nat) : Int)) (.int ((fac (pr l).sum : Nat) : Int)) = some (.int ((s2 (l.length - 1) (1 + (pr l).sum) * fac (pr l).sum : Nat) : Int)) := mulN 1601 1601 ((Lg_s2 (by omega)).mono (by omega)) ((Lg_fac (by omega)).mono (by omega)) rfl rfl (by omega)
  have h3 : (2 : Int) ≤ l.length := by omega
  have h4 : (l.length : Int) ≤ 200 := by omega
  have h5 : ¬ ((l.length : Int) - 1 < 1 + ((pr l).sum : Int)) := by omega
  have h6 : 1 + ((pr l).sum : Int) - 1 = ((pr l).sum : Int) := by omega
  obtain ⟨st', e, y, rfl⟩ := forL_fold (t := .n 3) (b := mAug 2 fdivF (mCall cf (mCons (m2 (.v 3) (.e (mC (.int 1))) subF) mNil) [none])) (fun (a : Nat) => D.int (a : Int)) (fun (v a : Nat) => v / fac (a - 1)) (fun v st => ∃ y, st = [some (.tup (intsD (natI l))), some (.int (1 + ((pr l).sum : Int))), some (.int (v : Int)), y]) (l := l) (v := s2 (l.length - 1) (1 + (pr l).sum) * fac (pr l).sum) (st := [some (.tup (intsD (natI l))), some (.int (1 + ((pr l).sum : Int))), some (.int ((s2 (l.length - 1) (1 + (pr l).sum) * fac (pr l).sum : Nat) : Int)), none]) ⟨none, rfl⟩ fun a ha v st ⟨y, hst⟩ => by
    subst hst
    have h := hx a ha
    have f1 := hf (n := a - 1) (by omega)
    rw [show ((a - 1 : Nat) : Int) = (a : Int) - 1 by omega] at f1
    have f2 := fdivN (a := v) (x := v) 1601 (fac_pos (a - 1)) ((Lg_fac (by omega)).mono (by omega)) rfl rfl (by omega)
    refine ⟨_, _, rfl, ?_, some (.int (a : Int)), rfl⟩
    generalize ((v / fac (a - 1) : Nat) : Int) = z at *
    simp [mAug, f1, f2]
  have hfold : l.foldl (fun (v a : Nat) => v / fac (a - 1)) (s2 (l.length - 1) (1 + (pr l).sum) * fac (pr l).sum) = cwd l := by
    unfold cwd
    rw [← div_all, pr, List.foldl_map]
  rw [hfold] at e
  have hmap : l.map (fun (a : Nat) => D.int (a : Int)) = intsD (natI l) := by unfold intsD natI; rw [List.map_map]; rfl
  rw [hmap] at e
  unfold f_count_with_degrees m_count_with_degrees
  simp [-List.map_map, runD, e1, hlen, h3, h4]
  rw [mLc_a (l := natI l) D.int (fun x => .int (x - 1)) (s := [some (.tup (intsD (natI l))), none, none, none]) (st0 := [some (.tup (intsD (natI l))), none, none, none]) (by simp) (by simp) (by omega) (by simp) fun x hxl => by
    refine ⟨_, [some (.tup (intsD (natI l))), none, none, some (.int x)], by simp; rfl, ?_, by simp⟩
    simp]
  rw [sub_list (st := []) (f := 0)]
  simp only [sum_ints, hs]
  generalize ((s2 (l.length - 1) (1 + (pr l).sum) * fac (pr l).sum : Nat) : Int) = z at *
  simp [-List.map_map, sum_ints, hs, h5, e2, hlen, h6, e3, e4, e5, e]
end Pl
/-! Nm7: the number functions (5): sizes told -/
namespace Pl
open Va L2 PySem Nm

/-- how often each distinct one comes -/
def cnts (l : List Nat) : List Nat := (dd [] (natI l)).map fun x => ((natI l).filter fun y => decide (y = x)).length
def cws (l : List Nat) : Nat := fac (pr l).sum * (1 + (pr l).sum) ^ (l.length - 1) / pf (pr l) / pf (cnts l)
theorem len_le_pr {l : List Nat} (h : ∀ x ∈ l, 2 ≤ x) : l.length ≤ (pr l).sum := by
  induction l with
  | nil => simp
  | cons a l ih =>
    have h1 := h a (List.mem_cons_self ..)
    have ih := ih fun x hx => h x (List.mem_cons_of_mem _ hx)
    simp only [pr, List.map_cons, List.sum_cons, List.length_cons] at ih ⊢
    omega
def SpCWS (f : Fn) : Prop := ∀ {l : List Nat}, l ≠ [] → (∀ x ∈ l, 2 ≤ x ∧ x ≤ 200) → (pr l).sum < 200 → f [.tup (intsD (natI l))] = some (.int ((cws l : Nat) : Int), [some (.tup (intsD (natI l)))])
theorem count_with_sizes_sp {ci cf cp : Fn} (hi : SpIsL ci) (hf : SpNum cf fac) (hp : SpPow cp) : SpCWS (f_count_with_sizes ci cf cp) := fun {l} hl hx hM => by
  have hne : natI l ≠ [] := fun e => hl (List.map_eq_nil_iff.mp e)
  have hlen : (natI l).length = l.length := by simp [natI]
  have hpos : 0 < l.length := List.length_pos_iff.mpr hl
  have hle := len_le_pr fun x h => (hx x h).1
  have e1 := hi (l := natI l) (lo := 2) (hi := 200) hne (by omega) fun x hx' => by
    obtain ⟨a, ha, rfl⟩ := List.mem_map.mp hx'
    have := hx a ha
    omega
  have hs := isum_pr (l := l) fun x h => by have := (hx x h).1; omega
  have e4 := hf (n := (pr l).sum) (by omega)
  have e2 := hp (b := 1 + (pr l).sum) (k := l.length - 1) (by omega) (by omega)
  rw [show ((l.length - 1 : Nat) : Int) = (l.length : Int) - 1 by omega, show ((1 + (pr l).sum : Nat) : Int) = 1 + ((pr l).sum : Int) by omega] at e2
  have e5 : mulF (.int ((fac (pr l).sum : Nat) : Int)) (.int (((1 + (pr l).sum) ^ (l.length - 1) : Nat) : Int)) = some (.int ((fac (pr l).sum * (1 + (pr l).sum) ^ (l.length - 1) : Nat) : Int)) := mulN 1601 1601 ((Lg_fac (by omega)).mono (by omega)) ((Lg.pow (Lg.of8 (by omega)) _).mono (by omega)) rfl rfl (by omega)
  have h5 : ¬ ((200 : Int) ≤ ((pr l).sum : Int)) := by omega
  have h6 : 1 + ((pr l).sum : Int) - 1 = ((pr l).sum : Int) := by omega
  have hmap : l.map (fun (a : Nat) => D.int (a : Int)) = intsD (natI l) := by unfold intsD natI; rw [List.map_map]; rfl
  obtain ⟨st', e, y, rfl⟩ := forL_fold (t := .n 3) (b := mAug 2 fdivF (mCall cf (mCons (m2 (.v 3) (.e (mC (.int 1))) subF) mNil) [none])) (fun (a : Nat) => D.int (a : Int)) (fun (v a : Nat) => v / fac (a - 1)) (fun v st => ∃ y, st = [some (.tup (intsD (natI l))), some (.int (1 + ((pr l).sum : Int))), some (.int (v : Int)), y, none]) (l := l) (v := fac (pr l).sum * (1 + (pr l).sum) ^ (l.length - 1)) (st := [some (.tup (intsD (natI l))), some (.int (1 + ((pr l).sum : Int))), some (.int ((fac (pr l).sum * (1 + (pr l).sum) ^ (l.length - 1) : Nat) : Int)), none, none]) ⟨none, rfl⟩ fun a ha v st ⟨y, hst⟩ => by
    subst hst
    have h := hx a ha
    have f1 := hf (n := a - 1) (by omega)
    rw [show ((a - 1 : Nat) : Int) = (a : Int) - 1 by omega] at f1
    have f2 := fdivN (a := v) (x := v) 1601 (fac_pos (a - 1)) ((Lg_fac (by omega)).mono (by omega)) rfl rfl (by omega)
    refine ⟨_, _, rfl, ?_, some (.int (a : Int)), rfl⟩
    generalize ((v / fac (a - 1) : Nat) : Int) = z at *
    simp [mAug, f1, f2]
  have hfold : l.foldl (fun (v a : Nat) => v / fac (a - 1)) (fac (pr l).sum * (1 + (pr l).sum) ^ (l.length - 1)) = fac (pr l).sum * (1 + (pr l).sum) ^ (l.length - 1) / pf (pr l) := by
    rw [← div_all, pr, List.foldl_map]
  rw [hfold, hmap] at e
  have key := forL_fold (t := .n 3) (b := mAug 2 fdivF (mCall cf (mCons (m1 (.e (mLc (mItems (mVar 0)) (.n 4) (mB (m2 (.v 4) (.v 3) (cmpF .Eq))) (mC (.int 1)) [4])) lenF) mNil) [none])) D.int (fun (v : Nat) (x : Int) => v / fac ((natI l).filter fun y => decide (y = x)).length) (fun v st => ∃ y, st = [some (.tup (intsD (natI l))), some (.int (1 + ((pr l).sum : Int))), some (.int (v : Int)), y, none]) (l := dd [] (natI l)) (v := fac (pr l).sum * (1 + (pr l).sum) ^ (l.length - 1) / pf (pr l)) (st := [some (.tup (intsD (natI l))), some (.int (1 + ((pr l).sum : Int))), some (.int ((fac (pr l).sum * (1 + (pr l).sum) ^ (l.length - 1) / pf (pr l) : Nat) : Int)), y, none]) ⟨y, rfl⟩ fun a ha v st ⟨y, hst⟩ => by
    subst hst
    obtain ⟨q, hq⟩ : ∃ q, ((natI l).filter fun y => decide (y = a)).length = q := ⟨_, rfl⟩
    have hfl : q ≤ l.length := by
      rw [← hq, ← hlen]; exact List.length_filter_le _ _
    have f1 := hf (n := q) (by omega)
    have f2 := fdivN (a := v) (x := v) 1601 (fac_pos q) ((Lg_fac (by omega)).mono (by omega)) rfl rfl (by omega)
    refine ⟨_, _, rfl, ?_, some (.int a), rfl⟩
    rw [hq]
    generalize ((v / fac q : Nat) : Int) = z at *
    simp [-ev_fdiv, mAug]
    rw [mLc_af (l := natI l) D.int (fun _ => .int 1) (fun y => decide (y = a)) (s := [some (.tup (intsD (natI l))), some (.int (1 + ((pr l).sum : Int))), some (.int (v : Int)), some (.int a), none]) (st0 := [some (.tup (intsD (natI l))), some (.int (1 + ((pr l).sum : Int))), some (.int (v : Int)), some (.int a), none]) (by simp) (by simp) (by omega) (by simp) fun b hb => by
      refine ⟨_, [some (.tup (intsD (natI l))), some (.int (1 + ((pr l).sum : Int))), some (.int (v : Int)), some (.int a), some (.int b)], by simp; rfl, ?_, fun _ => ⟨_, by simp; rfl, by simp⟩, fun _ => by simp⟩
      have : eqcF (.int b) (.int a) = some (.bl (decide (b = a))) := by
        by_cases h : b = a
        · subst h; simp
        · simp [h]
      simp [this]]
    simp [-ev_fdiv, hq, f1, f2]
  obtain ⟨st2, k2, y2, rfl⟩ := key
  have hfold2 : (dd [] (natI l)).foldl (fun (v : Nat) (x : Int) => v / fac ((natI l).filter fun y => decide (y = x)).length) (fac (pr l).sum * (1 + (pr l).sum) ^ (l.length - 1) / pf (pr l)) = cws l := by
    unfold cws
    rw [← div_all (cnts l), cnts, List.foldl_map]
  rw [hfold2] at k2
  unfold f_count_with_sizes m_count_with_sizes
  simp [-List.map_map, -ev_fdiv, -ev_mul, runD, e1]
  rw [mLc_a (l := natI l) D.int (fun x => .int (x - 1)) (s := [some (.tup (intsD (natI l))), none, none, none, none]) (st0 := [some (.tup (intsD (natI l))), none, none, none, none]) (by simp) (by simp) (by omega) (by simp) fun x hxl => by
    refine ⟨_, [some (.tup (intsD (natI l))), some (.int x), none, none, none], by simp; rfl, ?_, by simp⟩
    simp]
  rw [sub_list (st := []) (f := 0)]
  simp only [sum_ints, hs]
  simp [-List.map_map, -ev_fdiv, -ev_mul, h5]
  rw [mLc_a (l := natI l) D.int (fun x => .int (x - 1)) (s := [some (.tup (intsD (natI l))), none, none, none, none]) (st0 := [some (.tup (intsD (natI l))), none, none, none, none]) (by simp) (by simp) (by omega) (by simp) fun x hxl => by
    refine ⟨_, [some (.tup (intsD (natI l))), none, none, some (.int x), none], by simp; rfl, ?_, by simp⟩
    simp]
  rw [sub_list (st := []) (f := 0)]
  simp only [sum_ints, hs]
  generalize ((fac (pr l).sum * (1 + (pr l).sum) ^ (l.length - 1) : Nat) : Int) = z1 at *
  generalize ((fac (pr l).sum * (1 + (pr l).sum) ^ (l.length - 1) / pf (pr l) : Nat) : Int) = z2 at *
  generalize (((1 + (pr l).sum) ^ (l.length - 1) : Nat) : Int) = z3 at *
  simp [-List.map_map, -ev_fdiv, -ev_mul, h6, e4, e2, hlen, e5, e]
  rw [show mKeys (mDc (mItems (mVar 0)) (.n 4) mYes (mVar 4) (mC (.bl true)) [4]) [some (.tup (intsD (natI l))), some (.int (1 + ((pr l).sum : Int))), some (.int z2), y, none] = some (intsD (dd [] (natI l)), [some (.tup (intsD (natI l))), some (.int (1 + ((pr l).sum : Int))), some (.int z2), y, none]) from by
    unfold mKeys
    rw [mDc_dd (l := natI l) (s := [some (.tup (intsD (natI l))), some (.int (1 + ((pr l).sum : Int))), some (.int z2), y, none]) (st0 := [some (.tup (intsD (natI l))), some (.int (1 + ((pr l).sum : Int))), some (.int z2), y, none]) (by simp) (by simp) (by omega) (by simp) fun x hxl => by
      exact ⟨_, _, _, rfl, by simp; rfl, rfl, by simp⟩]
    simp [kset_keys]]
  simp [k2]
end Pl
/-! Nm8: what the laws of numbers need besides -/
namespace Pl
open Va L2 PySem Nm

theorem mulZ {x y : Int} (i j : Nat) (ha : Lg x.natAbs i) (hb : Lg y.natAbs j) (h : i + j < 1000000) : mulF (.int x) (.int y) = some (.int (x * y)) := by
  have h1 := ha.log
  have h2 := hb.log
  show (if _ then _ else _) = _
  rw [if_pos (by omega)]
/-- mixed; what is mixed stays -/
def SpMixed2 (ns : List Int) (f : Fn) : Prop := ∀ r (o : Bool) (b : List Int), RowOk ns r → b.length ≤ 1000000 → ∃ c r', f [r, .lst o (intsD b)] = some (.lst true (intsD c), [some r', some (.lst o (intsD b))]) ∧ c.Perm b ∧ RowOk ns r'
theorem mixed_sp2 {ns : List Int} {f : Fn} (ht : SpTaken ns f) : SpMixed2 ns (f__law_mixed f) := fun r o b hr hl => by
  unfold f__law_mixed m__law_mixed
  have key := forL_inv (t := .n 2) (b := mDo (mApp 4 (mPopAt 3 (mCall f (mCons (mTake 0) (mCons (m1 (.v 3) lenF) mNil)) [some 0, none]))))
    (fun i st => ∃ r' left found x, st = [some r', some (.lst o (intsD b)), x, some (.lst true (intsD left)), some (.lst true (intsD found))] ∧ RowOk ns r' ∧ (left ++ found).Perm b ∧ left.length + i = b.length)
    (ds := rgD 0 b.length) (k := 0) (st := [some r, some (.lst o (intsD b)), none, some (.lst true (intsD b)), some (.lst true (intsD []))])
    ⟨r, b, [], none, rfl, hr, by simp, by simp⟩ fun i d st hi ⟨r', left, found, x, e, hr', hp, hn⟩ => by
      subst e
      have hi' : i < b.length := by
        have := (List.getElem?_eq_some_iff.mp hi).1
        rw [rgD_len] at this
        omega
      have hll : 0 < left.length := by omega
      obtain ⟨x, r2, e, h0, h1, hr2⟩ := ht r' left.length hr' (by omega) (by omega)
      have hx : x.toNat < left.length := by omega
      have hfl : found.length < 16777216 := by
        have := hp.length_eq
        rw [List.length_append] at this
        omega
      refine ⟨_, [some r2, some (.lst o (intsD b)), some d, some (.lst true (intsD (left.eraseIdx x.toNat))), some (.lst true (intsD (found ++ [left[x.toNat]])))], rfl, .inl ?_, r2, left.eraseIdx x.toNat, found ++ [left[x.toNat]], some d, rfl, hr2, ?_, ?_⟩
      · have hs := small_of (i := x) (by omega) (by omega)
        simp [hr'.imm, e, seqIx h0 h1, hs, blt_ok hfl, List.getElem?_eq_getElem hx, erase_map]
      · refine List.Perm.trans ?_ hp
        rw [← List.append_assoc]
        refine List.Perm.trans List.perm_append_comm ?_
        simp only [List.singleton_append, ← List.cons_append]
        exact (erase_perm hx).symm.append_right found
      · rw [List.length_eraseIdx, if_pos hx]
        omega
  obtain ⟨st', e, r', left, found, x, rfl, hr', hp, hn⟩ := key
  have h62 := small_of (i := b.length) (by omega) (by omega)
  have hlc : lstcF (.lst o (intsD b)) = some (.lst true (intsD b)) := by
    unfold lstcF
    simp only [seq_lst, all_imm_ints]
  have hl0 : left = [] := by
    rw [rgD_len] at hn
    exact List.length_eq_zero_iff.mp (by omega)
  subst hl0
  refine ⟨found, r', ?_, by simpa using hp, hr'⟩
  simp only [List.map_nil] at e
  simp [runD, hlc, h62, e]
theorem eqL_refl {f : D → D → Bool} : ∀ {xs : List D}, (∀ x ∈ xs, f x x = true) → eqL f xs xs = true
  | [], _ => rfl
  | x :: xs, h => by
    show (f x x && eqL f xs xs) = true
    rw [h x (List.mem_cons_self ..), eqL_refl fun y hy => h y (List.mem_cons_of_mem _ hy)]; rfl
theorem eqF_refl : ∀ (k : Nat) (d : D), shp k d = true → eqF k d d = true
  | 0, _, h => by simp [shp] at h
  | k + 1, d, h => by
    have L : ∀ xs : List D, xs.all (shp k) = true → eqL (eqF k) xs xs = true := fun xs hx => eqL_refl fun x hm => eqF_refl k x (List.all_eq_true.mp hx x hm)
    cases d <;> simp_all [eqF, seqOf, shp]
theorem eqD_self60 {d : D} (h : shp 60 d = true) : eqcF d d = some (.bl true) ∧ necF d d = some (.bl false) := by
  have := eqF_refl 60 d h
  constructor
  · unfold eqcF eqD
    rw [h]
    simp [this]
  · unfold necF eqD
    rw [h]
    simp [this]
theorem ne_rat (a b : Nat) : necF (ratD a b) (ratD a b) = some (.bl false) := (eqD_self60 (d := ratD a b) rfl).2
theorem eqI (a : Int) : eqcF (.int a) (.int a) = some (.bl true) := (eqD_self60 (d := .int a) rfl).1
theorem neI (a : Int) : necF (.int a) (.int a) = some (.bl false) := (eqD_self60 (d := .int a) rfl).2

/-! ### plain facts -/
theorem pr_rep (b k : Nat) : pr (b :: List.replicate k 1) = (b - 1) :: List.replicate k 0 := by simp [pr]
theorem pf_rep0 : ∀ k, pf (List.replicate k 0) = 1
  | 0 => rfl
  | k + 1 => by rw [List.replicate_succ, pf, pf_rep0 k]; rfl
theorem cwd_lone {n b : Nat} (h1 : 1 ≤ b) (hb : b < n) : cwd (b :: List.replicate (n - 1) 1) = s2 (n - 1) b := by
  unfold cwd
  rw [pr_rep, pf, pf_rep0]
  simp only [List.length_cons, List.length_replicate, List.sum_cons, List.sum_replicate_nat, Nat.mul_zero, Nat.add_zero, Nat.mul_one]
  rw [show n - 1 + 1 - 1 = n - 1 by omega, show 1 + (b - 1) = b by omega, Nat.mul_div_cancel _ (fac_pos _)]
theorem rat_lone {n b : Nat} (h1 : 1 ≤ b) (hb : b < n) : ratD (s2 (n - 1) b) (fn n b) = ratD (dsA n b b) (n ^ (b - 1)) := by
  have hp := s2_pos (n - 1) b h1 (by omega)
  have e : dsA n b b = 1 := by unfold dsA; rw [ch_self]; simp
  unfold ratD fn
  rw [e, Nat.gcd_mul_left_right]
  simp [Nat.div_self hp, Nat.mul_div_cancel _ hp]
theorem cwd_perm {l l' : List Nat} (h : l.Perm l') : cwd l = cwd l' := by
  unfold cwd
  have h2 : (pr l).Perm (pr l') := h.map _
  rw [h.length_eq, h2.sum_nat, pf_perm h2]
theorem cwd_mod (l : List Nat) (h : l.length = n) (hs : 1 + (pr l).sum = b) : cwd l % s2 (n - 1) b = 0 := by
  unfold cwd
  rw [h, hs]
  obtain ⟨c, e⟩ := pf_dvd (pr l)
  rw [e, Nat.mul_left_comm, Nat.mul_div_cancel_left _ (pf_pos _)]
  exact Nat.mul_mod_right ..
theorem outer_le {n b : Nat} (hn : 2 ≤ n) : omA n b / Nat.gcd (omA n b) (omB n b) ≤ omB n b / Nat.gcd (omA n b) (omB n b) * n := by
  have hB := omB_pos (n := n) (b := b) hn
  obtain ⟨k, e⟩ := Nat.gcd_dvd_right (omA n b) (omB n b)
  have hg := gcd_pos (a := omA n b) hB
  have h1 : dsA n b 1 ≤ n ^ (b - 1) := by
    unfold dsA
    rw [show 1 - 1 = 0 from rfl, ch_zero, Nat.one_mul]
    exact Nat.pow_le_pow_left (by omega) _
  have h2 : omA n b ≤ omB n b * n := Nat.mul_le_mul_right n (Nat.div_le_div_right h1)
  generalize Nat.gcd (omA n b) (omB n b) = g at *
  have h3 : omB n b / g = k := by rw [e, Nat.mul_div_cancel_left _ hg]
  rw [h3]
  refine Nat.div_le_of_le_mul ?_
  rw [← Nat.mul_assoc, ← e]
  exact h2
theorem cws_two {a b : Nat} (ha : 2 ≤ a) (hb : 2 ≤ b) : cws [a, b] = if a = b then ch (a + b - 2) (a - 1) * (a + b - 1) / 2 else ch (a + b - 2) (a - 1) * (a + b - 1) := by
  have e : (pr [a, b]).sum = a + b - 2 := by simp [pr]; omega
  have e2 : pf (pr [a, b]) = fac (a - 1) * fac (b - 1) := by simp [pr, pf]
  have e3 := ch_fac (a - 1) (b - 1)
  rw [show a - 1 + (b - 1) = a + b - 2 by omega] at e3
  have e4 : fac (a + b - 2) * (1 + (a + b - 2)) ^ ([a, b].length - 1) / (fac (a - 1) * fac (b - 1)) = ch (a + b - 2) (a - 1) * (a + b - 1) := by
    rw [← e3, show [a, b].length - 1 = 1 from rfl, Nat.pow_one, show 1 + (a + b - 2) = a + b - 1 by omega]
    rw [Nat.mul_right_comm, Nat.mul_div_cancel _ (Nat.mul_pos (fac_pos _) (fac_pos _))]
  unfold cws
  rw [e, e2, e4]
  by_cases h : a = b
  · subst h
    rw [if_pos rfl]
    have : pf (cnts [a, a]) = 2 := by simp [cnts, natI, dd, pf, fac]
    rw [this]
  · rw [if_neg h]
    have h' : ¬ b = a := fun e => h e.symm
    have hi : ¬ (b : Int) = (a : Int) := by omega
    have hi2 : ¬ (a : Int) = (b : Int) := by omega
    have : pf (cnts [a, b]) = 1 := by simp [cnts, natI, dd, pf, fac, h, h', hi, hi2]
    rw [this, Nat.div_one]
theorem cws_one {a : Nat} (ha : 2 ≤ a) : cws [a] = 1 := by
  have e : (pr [a]).sum = a - 1 := by simp [pr]
  have e2 : pf (pr [a]) = fac (a - 1) := by simp [pr, pf]
  have : pf (cnts [a]) = 1 := by simp [cnts, natI, dd, pf, fac]
  unfold cws
  rw [e, e2, this]
  simp [Nat.div_self (fac_pos _)]
end Pl
/-! Wk0: walks: what the program's functions compute (printed by gen.py) -/
namespace Pl
open Va
def m_need_bead (c_size_of c_is_in : Fn) : M Fl := (mIf (mNot (mTru (mCall c_is_in (mCons (mTake 1) (mCons (mC (.int 0)) (mCons (m2 (.e (mCall c_size_of (mCons (mTake 0) mNil) [some 0])) (.e (mC (.int 1))) subF) mNil))) [some 1, none, none]))) (fun _ => none) mNx)
def f_need_bead (c_size_of c_is_in : Fn) : Fn := runD 2 2 (fun i => ([true, true] : List Bool).getD i false) (m_need_bead c_size_of c_is_in)
def m_plus (c_lowered : Fn) : M Fl := (mRet (mCall c_lowered (mCons (m2 (.e (m2 (.e (m2 (.v 0) (.e (mC (.int 0))) ixF)) (.e (m2 (.v 1) (.e (mC (.int 1))) ixF)) mulF)) (.e (m2 (.e (m2 (.v 1) (.e (mC (.int 0))) ixF)) (.e (m2 (.v 0) (.e (mC (.int 1))) ixF)) mulF)) addF) (mCons (m2 (.e (m2 (.v 0) (.e (mC (.int 1))) ixF)) (.e (m2 (.v 1) (.e (mC (.int 1))) ixF)) mulF) mNil)) [none, none]))
def f_plus (c_lowered : Fn) : Fn := runD 2 2 (fun i => ([true, true] : List Bool).getD i false) (m_plus c_lowered)
def m_next_counts : M Fl := (mSeq (mSet 2 (m2 (.e (mLst (mCons (mC (.int 0)) mNil))) (.e (m1 (.v 1) lenF)) mulF)) (mSeq (mFor (mItems (mVar 0)) (.n 3) (mSeq (mSet 4 (m1 (.e (mLc (mItems (mVar 3)) (.n 5) mYes (m2 (.v 1) (.v 5) ixF) [5])) sumF)) (mFor (mItems (mVar 3)) (.n 5) (mAugS 2 (mVar 5) addF (m2 (.v 4) (.e (m2 (.v 1) (.v 5) ixF)) subF))))) (mRet (mTake 2))))
def f_next_counts : Fn := runD 6 2 (fun i => ([true, true] : List Bool).getD i false) (m_next_counts)
def m_walks_of (c_size_of c_next_counts : Fn) : M Fl := (mSeq (mSet 3 (m2 (.e (mLst (mCons (mC (.int 0)) mNil))) (.e (mCall c_size_of (mCons (mTake 0) mNil) [some 0])) mulF)) (mSeq (mStore 3 (mVar 1) (mC (.int 1))) (mSeq (mFor (mRg1 (mVar 2)) (.n 4) (mSet 3 (mCall c_next_counts (mCons (mTake 0) (mCons (mTake 3) mNil)) [some 0, some 3]))) (mRet (mTake 3)))))
def f_walks_of (c_size_of c_next_counts : Fn) : Fn := runD 5 3 (fun i => ([true, true, true] : List Bool).getD i false) (m_walks_of c_size_of c_next_counts)
def m_count_walks (c_need_family c_need_bead c_need_number c_walks_of : Fn) : M Fl := (mSeq (mDo (mCall c_need_family (mCons (mTake 0) mNil) [some 0])) (mSeq (mDo (mCall c_need_bead (mCons (mTake 0) (mCons (mTake 1) mNil)) [some 0, some 1])) (mSeq (mDo (mCall c_need_bead (mCons (mTake 0) (mCons (mTake 2) mNil)) [some 0, some 2])) (mSeq (mDo (mCall c_need_number (mCons (mTake 3) (mCons (mC (.int 0)) (mCons (mC (.int 200)) mNil))) [some 3, none, none])) (mRet (m2 (.e (mCall c_walks_of (mCons (mTake 0) (mCons (mTake 1) (mCons (mTake 3) mNil))) [some 0, some 1, some 3])) (.v 2) ixF))))))
def f_count_walks (c_need_family c_need_bead c_need_number c_walks_of : Fn) : Fn := runD 4 4 (fun i => ([true, true, true, true] : List Bool).getD i false) (m_count_walks c_need_family c_need_bead c_need_number c_walks_of)
def m_walk_counts (c_need_family c_need_bead c_need_number c_walks_of : Fn) : M Fl := (mSeq (mDo (mCall c_need_family (mCons (mTake 0) mNil) [some 0])) (mSeq (mDo (mCall c_need_bead (mCons (mTake 0) (mCons (mTake 1) mNil)) [some 0, some 1])) (mSeq (mDo (mCall c_need_number (mCons (mTake 2) (mCons (mC (.int 0)) (mCons (mC (.int 200)) mNil))) [some 2, none, none])) (mRet (m1 (.e (mCall c_walks_of (mCons (mTake 0) (mCons (mTake 1) (mCons (mTake 2) mNil))) [some 0, some 1, some 2])) tupcF)))))
def f_walk_counts (c_need_family c_need_bead c_need_number c_walks_of : Fn) : Fn := runD 3 3 (fun i => ([true, true, true] : List Bool).getD i false) (m_walk_counts c_need_family c_need_bead c_need_number c_walks_of)
def m_count_rounds (c_need_family c_need_number c_size_of c_walks_of : Fn) : M Fl := (mSeq (mDo (mCall c_need_family (mCons (mTake 0) mNil) [some 0])) (mSeq (mDo (mCall c_need_number (mCons (mTake 1) (mCons (mC (.int 0)) (mCons (mC (.int 200)) mNil))) [some 1, none, none])) (mRet (m1 (.e (mLc (mRg1 (mCall c_size_of (mCons (mTake 0) mNil) [some 0])) (.n 2) mYes (m2 (.e (mCall c_walks_of (mCons (mTake 0) (mCons (mTake 2) (mCons (mTake 1) mNil))) [some 0, some 2, some 1])) (.v 2) ixF) [2])) sumF))))
def f_count_rounds (c_need_family c_need_number c_size_of c_walks_of : Fn) : Fn := runD 3 2 (fun i => ([true, true] : List Bool).getD i false) (m_count_rounds c_need_family c_need_number c_size_of c_walks_of)
def m_near_numbers (c_size_of : Fn) : M Fl := (mSeq (mSet 1 (m2 (.e (mLst (mCons (mC (.int 0)) mNil))) (.e (mCall c_size_of (mCons (mTake 0) mNil) [some 0])) mulF)) (mSeq (mFor (mItems (mVar 0)) (.n 2) (mFor (mItems (mVar 2)) (.n 3) (mAugS 1 (mVar 3) addF (m2 (.e (m1 (.v 2) lenF)) (.e (mC (.int 1))) subF)))) (mRet (mTake 1))))
def f_near_numbers (c_size_of : Fn) : Fn := runD 4 1 (fun i => ([true] : List Bool).getD i false) (m_near_numbers c_size_of)
def m_neighbors (c_need_family c_near_numbers : Fn) : M Fl := (mSeq (mDo (mCall c_need_family (mCons (mTake 0) mNil) [some 0])) (mRet (m1 (.e (mCall c_near_numbers (mCons (mTake 0) mNil) [some 0])) tupcF)))
def f_neighbors (c_need_family c_near_numbers : Fn) : Fn := runD 1 1 (fun i => ([true] : List Bool).getD i false) (m_neighbors c_need_family c_near_numbers)
def m_stay_share (c_need_family c_need_bead c_near_numbers c_lowered : Fn) : M Fl := (mSeq (mDo (mCall c_need_family (mCons (mTake 0) mNil) [some 0])) (mSeq (mDo (mCall c_need_bead (mCons (mTake 0) (mCons (mTake 1) mNil)) [some 0, some 1])) (mSeq (mSet 2 (mCall c_near_numbers (mCons (mTake 0) mNil) [some 0])) (mRet (mCall c_lowered (mCons (m2 (.v 2) (.v 1) ixF) (mCons (m1 (.v 2) sumTF) mNil)) [none, none])))))
def f_stay_share (c_need_family c_need_bead c_near_numbers c_lowered : Fn) : Fn := runD 3 2 (fun i => ([true, true] : List Bool).getD i false) (m_stay_share c_need_family c_need_bead c_near_numbers c_lowered)
def m_chance_at (c_need_family c_need_bead c_need_number c_near_numbers c_size_of c_lowered c_plus : Fn) : M Fl := (mSeq (mDo (mCall c_need_family (mCons (mTake 0) mNil) [some 0])) (mSeq (mDo (mCall c_need_bead (mCons (mTake 0) (mCons (mTake 1) mNil)) [some 0, some 1])) (mSeq (mDo (mCall c_need_bead (mCons (mTake 0) (mCons (mTake 2) mNil)) [some 0, some 2])) (mSeq (mDo (mCall c_need_number (mCons (mTake 3) (mCons (mC (.int 0)) (mCons (mC (.int 12)) mNil))) [some 3, none, none])) (mSeq (mSet 4 (mCall c_near_numbers (mCons (mTake 0) mNil) [some 0])) (mSeq (mSet 5 (mLc (mRg1 (mCall c_size_of (mCons (mTake 0) mNil) [some 0])) (.n 9) mYes (mIte (mB (m2 (.v 9) (.v 1) (cmpF .Eq))) (mTup (mCons (mC (.int 1)) (mCons (mC (.int 1)) mNil))) (mTup (mCons (mC (.int 0)) (mCons (mC (.int 1)) mNil)))) [9])) (mSeq (mFor (mRg1 (mVar 3)) (.n 6) (mSeq (mSet 7 (m2 (.e (mLst (mCons (mTup (mCons (mC (.int 0)) (mCons (mC (.int 1)) mNil))) mNil))) (.e (m1 (.v 5) lenF)) mulF)) (mSeq (mFor (mItems (mVar 0)) (.n 8) (mSeq (mSet 10 (mLc (mItems (mVar 8)) (.n 9) mYes (mCall c_lowered (mCons (m2 (.e (m2 (.v 5) (.v 9) ixF)) (.e (mC (.int 0))) ixF) (mCons (m2 (.e (m2 (.e (m2 (.v 5) (.v 9) ixF)) (.e (mC (.int 1))) ixF)) (.e (m2 (.v 4) (.v 9) ixF)) mulF) mNil)) [none, none]) [9])) (mSeq (mSet 11 (mTup (mCons (mC (.int 0)) (mCons (mC (.int 1)) mNil)))) (mSeq (mFor (mItems (mVar 10)) (.n 12) (mSet 11 (mCall c_plus (mCons (mTake 11) (mCons (mTake 12) mNil)) [some 11, some 12]))) (mFor (mZipM (mCons (mVar 8) (mCons (mVar 10) mNil))) (.t [9, 12]) (mStore 7 (mVar 9) (mCall c_plus (mCons (m2 (.v 7) (.v 9) ixF) (mCons (mCall c_plus (mCons (mTake 11) (mCons (mTup (mCons (m1 (.e (m2 (.v 12) (.e (mC (.int 0))) ixF)) negF) (mCons (m2 (.v 12) (.e (mC (.int 1))) ixF) mNil))) mNil)) [some 11, none]) mNil)) [none, none]))))))) (mSet 5 (mVar 7))))) (mRet (m2 (.v 5) (.v 2) ixF)))))))))
def f_chance_at (c_need_family c_need_bead c_need_number c_near_numbers c_size_of c_lowered c_plus : Fn) : Fn := runD 13 4 (fun i => ([true, true, true, true] : List Bool).getD i false) (m_chance_at c_need_family c_need_bead c_need_number c_near_numbers c_size_of c_lowered c_plus)
def m__law_plus (c__law_lowered : Fn) : M Fl := (mRet (mCall c__law_lowered (mCons (m2 (.e (m2 (.e (m2 (.v 0) (.e (mC (.int 0))) ixF)) (.e (m2 (.v 1) (.e (mC (.int 1))) ixF)) mulF)) (.e (m2 (.e (m2 (.v 1) (.e (mC (.int 0))) ixF)) (.e (m2 (.v 0) (.e (mC (.int 1))) ixF)) mulF)) addF) (mCons (m2 (.e (m2 (.v 0) (.e (mC (.int 1))) ixF)) (.e (m2 (.v 1) (.e (mC (.int 1))) ixF)) mulF) mNil)) [none, none]))
def f__law_plus (c__law_lowered : Fn) : Fn := runD 2 2 (fun i => ([true, true] : List Bool).getD i false) (m__law_plus c__law_lowered)
end Pl
/-! Wk1: ratios in lowest terms; neighbors and walks, plain -/
namespace Pl
open Va L2 PySem Nm

def low (a b : Nat) : Nat × Nat := (a / Nat.gcd a b, b / Nat.gcd a b)
def pD (p : Nat × Nat) : D := .tup [.int ((p.1 : Nat) : Int), .int ((p.2 : Nat) : Int)]
@[simp] theorem imm_pD (p : Nat × Nat) : imm (pD p) = true := rfl
theorem ratD_low (a b : Nat) : ratD a b = pD (low a b) := rfl
theorem ix_pD0 (p : Nat × Nat) : ixF (pD p) (.int 0) = some (.int ((p.1 : Nat) : Int)) := rfl
theorem ix_pD1 (p : Nat × Nat) : ixF (pD p) (.int 1) = some (.int ((p.2 : Nat) : Int)) := rfl
theorem low_mul (k D c : Nat) (hc : 0 < c) (hD : 0 < D) : low (k * c) (D * c) = low k D := by
  unfold low
  rw [Nat.gcd_mul_right, Nat.mul_div_mul_right _ _ hc, Nat.mul_div_mul_right _ _ hc]
theorem low_eq {x y x' y' : Nat} (hy : 0 < y) (hy' : 0 < y') (h : x * y' = x' * y) : low x y = low x' y' := by
  rw [← low_mul x y y' hy' hy, ← low_mul x' y' y hy hy', h, Nat.mul_comm y y']
theorem low_cross (k D : Nat) : (low k D).1 * D = k * (low k D).2 := by
  unfold low
  dsimp only
  have h1 := Nat.gcd_dvd_left k D
  have h2 := Nat.gcd_dvd_right k D
  rw [← Nat.mul_div_assoc _ h2, Nat.mul_comm, ← Nat.mul_div_assoc _ h1, Nat.mul_comm]
theorem low_pos {k D : Nat} (h : 0 < D) : 0 < (low k D).2 := Nat.div_pos (Nat.le_of_dvd h (Nat.gcd_dvd_right _ _)) (gcd_pos h)
theorem low_zero {D : Nat} (h : 0 < D) : low 0 D = (0, 1) := by
  unfold low
  rw [Nat.gcd_zero_left, Nat.div_self h, Nat.zero_div]
theorem low_le1 (k D : Nat) : (low k D).1 ≤ k := Nat.div_le_self _ _
theorem low_le2 (k D : Nat) : (low k D).2 ≤ D := Nat.div_le_self _ _
theorem low_low (k D d : Nat) (hD : 0 < D) (hd : 0 < d) : low (low k D).1 ((low k D).2 * d) = low k (D * d) := by
  have h := low_cross k D
  refine low_eq (Nat.mul_pos (low_pos hD) hd) (Nat.mul_pos hD hd) ?_
  rw [← Nat.mul_assoc, h, Nat.mul_assoc]
def plus (p q : Nat × Nat) : Nat × Nat := low (p.1 * q.2 + q.1 * p.2) (p.2 * q.2)
theorem plus_same (a b D : Nat) (hD : 0 < D) : plus (low a D) (low b D) = low (a + b) D := by
  have h1 := low_cross a D
  have h2 := low_cross b D
  refine low_eq (Nat.mul_pos (low_pos hD) (low_pos hD)) hD ?_
  generalize (low a D).1 = a1 at *
  generalize (low a D).2 = a2 at *
  generalize (low b D).1 = b1 at *
  generalize (low b D).2 = b2 at *
  grind
theorem minus_same (a b D : Nat) (hD : 0 < D) (h : b ≤ a) : (low b D).1 * (low a D).2 ≤ (low a D).1 * (low b D).2 ∧ low ((low a D).1 * (low b D).2 - (low b D).1 * (low a D).2) ((low a D).2 * (low b D).2) = low (a - b) D := by
  have h1 := low_cross a D
  have h2 := low_cross b D
  have p1 := low_pos (k := a) hD
  have p2 := low_pos (k := b) hD
  generalize (low a D).1 = a1 at *
  generalize (low a D).2 = a2 at *
  generalize (low b D).1 = b1 at *
  generalize (low b D).2 = b2 at *
  have e1 : a1 * b2 * D = a * a2 * b2 := by grind
  have e2 : b1 * a2 * D = b * a2 * b2 := by grind
  have hle : b1 * a2 ≤ a1 * b2 := by
    refine Nat.le_of_mul_le_mul_right ?_ hD
    rw [e1, e2]
    exact Nat.mul_le_mul_right _ (Nat.mul_le_mul_right _ h)
  refine ⟨hle, low_eq (Nat.mul_pos p1 p2) hD ?_⟩
  rw [Nat.sub_mul, Nat.sub_mul, e1, e2, ← Nat.mul_assoc, ← Nat.mul_assoc]

/-! ### neighbors -/
/-- the beads beside j, bag by bag -/
def ties (F : List Bag) (j : Int) : List Int := F.flatMap fun b => if j ∈ b then b.filter (fun x => decide (x ≠ j)) else []
def nsum (f : Int → Nat) : List Int → Nat
  | [] => 0
  | x :: l => f x + nsum f l
theorem nsum_app (f : Int → Nat) (a b : List Int) : nsum f (a ++ b) = nsum f a + nsum f b := by
  induction a with
  | nil => simp [nsum]
  | cons x a ih => simp [nsum, ih, Nat.add_assoc]
theorem nsum_congr {f g : Int → Nat} : ∀ {l : List Int}, (∀ x ∈ l, f x = g x) → nsum f l = nsum g l
  | [], _ => rfl
  | x :: l, h => by rw [nsum, nsum, h x (List.mem_cons_self ..), nsum_congr fun y hy => h y (List.mem_cons_of_mem _ hy)]
theorem nsum_rest (f : Int → Nat) {b : List Int} (nd : b.Nodup) {j : Int} (h : j ∈ b) : nsum f b = nsum f (b.filter fun x => decide (x ≠ j)) + f j := by
  induction b with
  | nil => cases h
  | cons x b ih =>
    have n1 := List.nodup_cons.mp nd
    by_cases e : x = j
    · subst e
      have : b.filter (fun y => decide (y ≠ x)) = b := List.filter_eq_self.mpr fun y hy => by
        have : y ≠ x := fun e => n1.1 (e ▸ hy)
        simp [this]
      rw [List.filter_cons_of_neg (by simp), this, nsum, Nat.add_comm]
    · have hm : j ∈ b := (List.mem_cons.mp h).resolve_left fun q => e q.symm
      rw [List.filter_cons_of_pos (by simp [e]), nsum, nsum, ih n1.2 hm]
      omega
/-- bag by bag: the sum of the others -/
def bsum (f : Int → Nat) (F : List Bag) (j : Int) : Nat := match F with
  | [] => 0
  | b :: F => (if j ∈ b then nsum f b - f j else 0) + bsum f F j
theorem bsum_ties (f : Int → Nat) (F : List Bag) (hF : ∀ b ∈ F, b.Nodup) (j : Int) : bsum f F j = nsum f (ties F j) := by
  induction F with
  | nil => rfl
  | cons b F ih =>
    have i := ih fun c hc => hF c (List.mem_cons_of_mem _ hc)
    unfold bsum ties
    rw [List.flatMap_cons, nsum_app, i]
    congr 1
    by_cases h : j ∈ b
    · rw [if_pos h, if_pos h, nsum_rest f (hF b (List.mem_cons_self ..)) h]
      omega
    · rw [if_neg h, if_neg h]; rfl
theorem bsum_app (f : Int → Nat) (A B : List Bag) (j : Int) : bsum f (A ++ B) j = bsum f A j + bsum f B j := by
  induction A with
  | nil => simp [bsum]
  | cons a A ih => simp [bsum, ih, Nat.add_assoc]
theorem nsum_one : ∀ l : List Int, nsum (fun _ => 1) l = l.length
  | [] => rfl
  | x :: l => by rw [nsum, nsum_one l, List.length_cons, Nat.add_comm]
theorem nsum_mem {f : Int → Nat} {l : List Int} {x : Int} (h : x ∈ l) : f x ≤ nsum f l := by
  induction l with
  | nil => cases h
  | cons y l ih =>
    rw [nsum]
    rcases List.mem_cons.mp h with rfl | h
    · omega
    · have := ih h; omega
/-- walks of t steps from one bead -/
def wk (F : List Bag) (first : Int) : Nat → Int → Nat
  | 0, j => if j = first then 1 else 0
  | t + 1, j => nsum (wk F first t) (ties F j)
def degN (F : List Bag) (j : Int) : Nat := (ties F j).length
def mulAll (F : List Bag) (l : List Int) : Nat := match l with
  | [] => 1
  | x :: l => degN F x * mulAll F l
theorem deg_dvd {F : List Bag} {l : List Int} {x : Int} (h : x ∈ l) : degN F x ∣ mulAll F l := by
  induction l with
  | nil => cases h
  | cons y l ih =>
    rw [mulAll]
    rcases List.mem_cons.mp h with rfl | h
    · exact Nat.dvd_mul_right ..
    · exact Nat.dvd_mul_left_of_dvd (ih h) _
/-- the chance's numerator over (mulAll)^t -/
def ck (F : List Bag) (M : Nat) (first : Int) : Nat → Int → Nat
  | 0, j => if j = first then 1 else 0
  | t + 1, j => nsum (fun x => ck F M first t x * (M / degN F x)) (ties F j)
end Pl
/-! Wk2: walks: the program's functions (1) -/
namespace Pl
open Va L2 PySem Nm

/-- a list with one number for each bead -/
def fl (o : Bool) (n : Int) (g : Int → Nat) : D := .lst o ((iot n).map fun j => D.int ((g j : Nat) : Int))
@[simp] theorem imm_fl (o : Bool) (n : Int) (g : Int → Nat) : imm (fl o n g) = !o := rfl
theorem fl_congr {o : Bool} {n : Int} {g g' : Int → Nat} (h : ∀ j, 0 ≤ j → j < n → g j = g' j) : fl o n g = fl o n g' := by
  unfold fl
  congr 1
  refine List.map_congr_left fun j hj => ?_
  have := iot_mem.mp hj
  rw [h j this.1 this.2]
theorem ix_fl {o : Bool} {n x : Int} {g : Int → Nat} (x0 : 0 ≤ x) (x1 : x < n) : ixF (fl o n g) (.int x) = some (.int ((g x : Nat) : Int)) := by
  show immO (atI ((iot n).map fun j => D.int ((g j : Nat) : Int)) x) = _
  rw [atI_ok x0 (by rw [List.length_map, iot_len]; omega), List.getElem?_map, iot_get (by omega), show ((x.toNat : Nat) : Int) = x by omega]
  rfl
theorem len_fl {o : Bool} {n : Int} {g : Int → Nat} (h : 0 ≤ n) : lenF (fl o n g) = some (.int n) := by
  show some (D.int (((iot n).map fun j => D.int ((g j : Nat) : Int)).length : Int)) = _
  rw [List.length_map, iot_len, show ((n.toNat : Nat) : Int) = n by omega]
theorem zeros {n : Int} (h0 : 0 ≤ n) (h1 : n ≤ 1000) : mulF (.lst true [.int 0]) (.int n) = some (fl true n fun _ => 0) := by
  show (if _ then _ else _) = _
  rw [if_pos ⟨rfl, small_of (by omega) (by omega), by rw [LN_eq']; simp; omega⟩]
  unfold fl iot
  rw [List.map_map]
  congr 2
  have : ∀ k : Nat, (List.replicate k [D.int 0]).flatten = (List.range k).map fun _ => D.int 0 := fun k => by
    induction k with
    | zero => rfl
    | succ k ih => rw [List.replicate_succ', List.range_succ, List.flatten_append, List.map_append, ih]; rfl
  rw [this]
  rfl
/-- x[j] += v -/
theorem aug_fl {i : Nat} {s s1 s2 : S} {n x : Int} {g : Int → Nat} {c : Nat} {mk m : M D} (x0 : 0 ≤ x) (x1 : x < n) (h0 : s[i]? = some (some (fl true n g))) (hk : mk s = some (.int x, s1)) (h1 : s1[i]? = some (some (fl true n g))) (hm : m s1 = some (.int ((c : Nat) : Int), s2)) (h2 : s2[i]? = some (some (fl true n g))) :
    mAugS i mk addF m s = some (.nx, s2.set i (some (fl true n fun j => if j = x then g j + c else g j))) := by
  have e1 : ixN ((iot n).map fun j => D.int ((g j : Nat) : Int)).length x = some x.toNat := by
    unfold ixN
    rw [List.length_map, iot_len, if_pos x0, if_pos (by omega)]
  have e2 : ((iot n).map fun j => D.int ((g j : Nat) : Int))[x.toNat]? = some (.int ((g x : Nat) : Int)) := by
    rw [List.getElem?_map, iot_get (by omega), show ((x.toNat : Nat) : Int) = x by omega]; rfl
  have e3 : ((iot n).map fun j => D.int ((g j : Nat) : Int)).set x.toNat (.int (((g x : Nat) : Int) + ((c : Nat) : Int))) = (iot n).map fun j => D.int (((if j = x then g j + c else g j : Nat) : Nat) : Int) := by
    rw [iot_set x0 x1]
    refine List.map_congr_left fun j _ => ?_
    by_cases e : j = x
    · subst e; simp
    · simp [e]
  unfold mAugS
  rw [h0]
  unfold fl at *
  dsimp only
  rw [hk]
  dsimp only
  rw [h1]
  dsimp only
  rw [e1]
  dsimp only
  rw [e2]
  dsimp only
  rw [decide_eq_true x0]
  dsimp only
  rw [hm]
  dsimp only
  rw [h2]
  dsimp only
  rw [e1]
  show some (Fl.nx, s2.set i (some (D.lst true (((iot n).map fun j => D.int ((g j : Nat) : Int)).set x.toNat (.int (((g x : Nat) : Int) + ((c : Nat) : Int))))))) = _
  rw [e3]
theorem upd_fold (c : Int → Nat) : ∀ (b : List Int) (g : Int → Nat), b.Nodup → ∀ j, b.foldl (fun g x => fun j => if j = x then g j + c x else g j) g j = g j + if j ∈ b then c j else 0
  | [], g, _, j => by simp
  | x :: b, g, nd, j => by
    have n1 := List.nodup_cons.mp nd
    rw [List.foldl_cons, upd_fold c b _ n1.2 j]
    by_cases e : j = x
    · subst e
      simp [n1.1]
    · simp [e]
theorem bsum_fold (f : Int → Nat) : ∀ (F : List Bag) (g : Int → Nat) (j : Int), F.foldl (fun g b => fun j => g j + if j ∈ b then nsum f b - f j else 0) g j = g j + bsum f F j
  | [], g, j => by simp [bsum]
  | b :: F, g, j => by
    rw [List.foldl_cons, bsum_fold f F, bsum, Nat.add_assoc]
theorem bag_map (b : Bag) : seqOf (frzA (bagD b)) = some (true, b.map D.int) := rfl
def SpNear (f : Fn) : Prop := ∀ {n : Int} {F : List Bag}, Fam n F → f [famD F] = some (fl true n (degN F), [some (famD F)])
theorem nd_fam {n : Int} {F : List Bag} (H : Fam n F) : ∀ b ∈ F, b.Nodup := fun b hb => H.nd b hb
theorem near_sp {c : Fn} (hc : SpSize c) : SpNear (f_near_numbers c) := fun {n F} H => by
  have hl := H.len_le
  have h60 := H.n60
  have h2 := H.n2
  have e0 := zeros (n := n) (by omega) (by omega)
  obtain ⟨st', key, y2, y3, rfl⟩ := forL_fold (t := .n 2) (b := mFor (mItems (mVar 2)) (.n 3) (mAugS 1 (mVar 3) addF (m2 (.e (m1 (.v 2) lenF)) (.e (mC (.int 1))) subF))) bagD (fun g b => fun j => g j + if j ∈ b then nsum (fun _ => 1) b - 1 else 0) (fun g st => ∃ y2 y3, st = [some (famD F), some (fl true n g), y2, y3]) (l := F) (v := fun _ => 0) (st := [some (famD F), some (fl true n fun _ => 0), none, none]) ⟨none, none, rfl⟩ fun b hb g st ⟨y2, y3, hst⟩ => by
    subst hst
    obtain ⟨st2, k2, z3, rfl⟩ := forL_fold (t := .n 3) (b := mAugS 1 (mVar 3) addF (m2 (.e (m1 (.v 2) lenF)) (.e (mC (.int 1))) subF)) D.int (fun g x => fun j => if j = x then g j + (nsum (fun _ => 1) b - 1) else g j) (fun g st => ∃ z3, st = [some (famD F), some (fl true n g), some (bagD b), z3]) (l := b) (v := g) (st := [some (famD F), some (fl true n g), some (bagD b), y3]) ⟨y3, rfl⟩ fun x hx g st ⟨z3, hst⟩ => by
      subst hst
      have hr := H.rng b hb x hx
      refine ⟨_, _, rfl, ?_, some (.int x), rfl⟩
      have hlen : 1 ≤ b.length := by have := H.len b hb; omega
      have := aug_fl (i := 1) (s := [some (famD F), some (fl true n g), some (bagD b), some (.int x)]) (s1 := [some (famD F), some (fl true n g), some (bagD b), some (.int x)]) (s2 := [some (famD F), some (fl true n g), some (bagD b), some (.int x)]) (mk := mVar 3) (m := m2 (.e (m1 (.v 2) lenF)) (.e (mC (.int 1))) subF) (c := nsum (fun _ => 1) b - 1) hr.1 hr.2 rfl rfl rfl (by
        have hc : ((b.length : Int) - 1) = ((nsum (fun _ => 1) b - 1 : Nat) : Int) := by rw [nsum_one]; omega
        generalize ((nsum (fun _ => 1) b - 1 : Nat) : Int) = z at *
        simp [hc]) rfl
      exact this
    refine ⟨_, [some (famD F), some (fl true n (fun j => g j + if j ∈ b then nsum (fun _ => 1) b - 1 else 0)), some (bagD b), z3], rfl, ?_, some (bagD b), z3, rfl⟩
    have e : fl true n (b.foldl (fun g x => fun j => if j = x then g j + (nsum (fun _ => 1) b - 1) else g j) g) = fl true n (fun j => g j + if j ∈ b then nsum (fun _ => 1) b - 1 else 0) :=
      fl_congr fun j _ _ => upd_fold (fun _ => nsum (fun _ => 1) b - 1) b g (H.nd b hb) j
    rw [e] at k2
    simp [mItems, bag_map]
    rw [k2]
  have e : fl true n (F.foldl (fun g b => fun j => g j + if j ∈ b then nsum (fun _ => 1) b - 1 else 0) fun _ => 0) = fl true n (degN F) := fl_congr fun j _ _ => by
    have := bsum_fold (fun _ => 1) F (fun _ => 0) j
    rw [this, bsum_ties _ F (nd_fam H), nsum_one]
    simp [degN]
  rw [e] at key
  unfold f_near_numbers m_near_numbers
  simp [-ev_mul, runD, hc H, e0]
  rw [key]
  rfl
def SpNext (f : Fn) : Prop := ∀ {n : Int} {F : List Bag} {o : Bool} {g : Int → Nat}, Fam n F → f [famD F, fl o n g] = some (fl true n (fun j => nsum g (ties F j)), [some (famD F), some (fl o n g)])
theorem isum_nsum (g : Int → Nat) (l : List Int) : isum (l.map fun x => ((g x : Nat) : Int)) = ((nsum g l : Nat) : Int) := by
  induction l with
  | nil => rfl
  | cons x l ih => simp [isum, nsum, ih]
theorem sum_map (o : Bool) (g : Int → Nat) (l : List Int) : sumF (.lst o (l.map fun x => D.int ((g x : Nat) : Int))) = some (.int ((nsum g l : Nat) : Int)) := by
  have := sum_ints o (l.map fun x => ((g x : Nat) : Int))
  rw [isum_nsum] at this
  unfold intsD at this
  rw [List.map_map] at this
  exact this
theorem next_sp : SpNext f_next_counts := fun {n F o w} H => by
  have hl := H.len_le
  have h60 := H.n60
  have h2 := H.n2
  have e0 := zeros (n := n) (by omega) (by omega)
  have el := len_fl (o := o) (n := n) (g := w) (by omega)
  obtain ⟨st', key, y3, y4, y5, rfl, _⟩ := forL_fold (t := .n 3) (b := mSeq (mSet 4 (m1 (.e (mLc (mItems (mVar 3)) (.n 5) mYes (m2 (.v 1) (.v 5) ixF) [5])) sumF)) (mFor (mItems (mVar 3)) (.n 5) (mAugS 2 (mVar 5) addF (m2 (.v 4) (.e (m2 (.v 1) (.v 5) ixF)) subF)))) bagD (fun g b => fun j => g j + if j ∈ b then nsum w b - w j else 0) (fun g st => ∃ y3 y4 y5, st = [some (famD F), some (fl o n w), some (fl true n g), y3, y4, y5] ∧ ∀ d, y5 = some d → Va.imm d = true) (l := F) (v := fun _ => 0) (st := [some (famD F), some (fl o n w), some (fl true n fun _ => 0), none, none, none]) ⟨none, none, none, rfl, fun _ h => by cases h⟩ fun b hb g st ⟨y3, y4, y5, hst, h5⟩ => by
    subst hst
    have hbl := H.bag_le b hb
    obtain ⟨st2, k2, z5, rfl, hz5⟩ := forL_fold (t := .n 5) (b := mAugS 2 (mVar 5) addF (m2 (.v 4) (.e (m2 (.v 1) (.v 5) ixF)) subF)) D.int (fun g x => fun j => if j = x then g j + (nsum w b - w x) else g j) (fun g st => ∃ z5, st = [some (famD F), some (fl o n w), some (fl true n g), some (bagD b), some (.int ((nsum w b : Nat) : Int)), z5] ∧ ∀ d, z5 = some d → Va.imm d = true) (l := b) (v := g) (st := [some (famD F), some (fl o n w), some (fl true n g), some (bagD b), some (.int ((nsum w b : Nat) : Int)), y5]) ⟨y5, rfl, h5⟩ fun x hx g st ⟨z5, hst, _⟩ => by
      subst hst
      have hr := H.rng b hb x hx
      have hle := nsum_mem (f := w) hx
      have hix := ix_fl (o := o) (n := n) (g := w) hr.1 hr.2
      refine ⟨_, _, rfl, ?_, some (.int x), rfl, fun d h => by cases h; rfl⟩
      have := aug_fl (i := 2) (s := [some (famD F), some (fl o n w), some (fl true n g), some (bagD b), some (.int ((nsum w b : Nat) : Int)), some (.int x)]) (s1 := [some (famD F), some (fl o n w), some (fl true n g), some (bagD b), some (.int ((nsum w b : Nat) : Int)), some (.int x)]) (s2 := [some (famD F), some (fl o n w), some (fl true n g), some (bagD b), some (.int ((nsum w b : Nat) : Int)), some (.int x)]) (mk := mVar 5) (m := m2 (.v 4) (.e (m2 (.v 1) (.v 5) ixF)) subF) (c := nsum w b - w x) hr.1 hr.2 rfl rfl rfl (by
        have hc : ((nsum w b : Nat) : Int) - ((w x : Nat) : Int) = ((nsum w b - w x : Nat) : Int) := by omega
        generalize ((nsum w b - w x : Nat) : Int) = z at *
        simp [hix, hc]) rfl
      have e : (fun j => if j = x then g j + (nsum w b - w x) else g j) = fun j => if j = x then g j + (nsum w b - w x) else g j := rfl
      exact this
    refine ⟨_, [some (famD F), some (fl o n w), some (fl true n (fun j => g j + if j ∈ b then nsum w b - w j else 0)), some (bagD b), some (.int ((nsum w b : Nat) : Int)), z5], rfl, ?_, some (bagD b), some (.int ((nsum w b : Nat) : Int)), z5, rfl, hz5⟩
    have e : fl true n (b.foldl (fun g x => fun j => if j = x then g j + (nsum w b - w x) else g j) g) = fl true n (fun j => g j + if j ∈ b then nsum w b - w j else 0) :=
      fl_congr fun j _ _ => upd_fold (fun x => nsum w b - w x) b g (H.nd b hb) j
    rw [e] at k2
    simp
    rw [mLc_a (l := b) D.int (fun x => .int ((w x : Nat) : Int)) (s := [some (famD F), some (fl o n w), some (fl true n g), some (bagD b), y4, y5]) (st0 := [some (famD F), some (fl o n w), some (fl true n g), some (bagD b), y4, none]) (by simp [mItems, bag_map]) (by cases y5 <;> simp; exact h5 _ rfl) (by omega) (by simp) fun x hx => by
      have hr := H.rng b hb x hx
      refine ⟨_, [some (famD F), some (fl o n w), some (fl true n g), some (bagD b), y4, some (.int x)], by simp; rfl, ?_, by simp⟩
      simp [ix_fl hr.1 hr.2]]
    simp [-List.map_map, sum_map, mItems, bag_map]
    rw [k2]
  have e : fl true n (F.foldl (fun g b => fun j => g j + if j ∈ b then nsum w b - w j else 0) fun _ => 0) = fl true n (fun j => nsum w (ties F j)) := fl_congr fun j _ _ => by
    rw [bsum_fold w F (fun _ => 0) j, bsum_ties _ F (nd_fam H)]
    simp
  rw [e] at key
  unfold f_next_counts m_next_counts
  simp [-ev_mul, runD, el, e0]
  rw [key]
  rfl
end Pl
/-! Wk3: walks: the program's functions (2) -/
namespace Pl
open Va L2 PySem Nm

def SpNeedBead (f : Fn) : Prop := ∀ {n x : Int} {F : List Bag}, Fam n F → 0 ≤ x → x < n → f [famD F, .int x] = some (.non, [some (famD F), some (.int x)])
theorem need_bead_sp {cs ci : Fn} (hs : SpSize cs) (hi : ∀ {v lo hi : Int}, lo ≤ v → v ≤ hi → ci [.int v, .int lo, .int hi] = some (.bl true, [some (.int v), some (.int lo), some (.int hi)])) : SpNeedBead (f_need_bead cs ci) := fun {n x F} H h0 h1 => by
  have e := hs H
  have e2 := hi (v := x) (lo := 0) (hi := n - 1) h0 (by omega)
  unfold f_need_bead m_need_bead
  simp [runD, e, e2]
def SpWalks (f : Fn) : Prop := ∀ {n x : Int} {t : Nat} {F : List Bag}, Fam n F → 0 ≤ x → x < n → t ≤ 1000 → f [famD F, .int x, .int (t : Int)] = some (fl true n (wk F x t), [some (famD F), some (.int x), some (.int (t : Int))])
theorem walks_sp {cs cn : Fn} (hs : SpSize cs) (hn : SpNext cn) : SpWalks (f_walks_of cs cn) := fun {n x t F} H h0 h1 ht => by
  have h60 := H.n60
  have e := hs H
  have e0 := zeros (n := n) (by omega) (by omega)
  obtain ⟨st', key, y4, rfl⟩ := forL_inv (t := .n 4) (b := mSet 3 (mCall cn (mCons (mTake 0) (mCons (mTake 3) mNil)) [some 0, some 3])) (fun i st => ∃ y4, st = [some (famD F), some (.int x), some (.int (t : Int)), some (fl true n (wk F x i)), y4]) (ds := rgD 0 (t : Int)) (k := 0) (st := [some (famD F), some (.int x), some (.int (t : Int)), some (fl true n (wk F x 0)), none]) ⟨none, rfl⟩ fun i d st hi ⟨y4, hst⟩ => by
    rw [Nat.zero_add] at hst ⊢
    subst hst
    have e1 := hn (o := true) (g := wk F x i) H
    refine ⟨_, _, rfl, .inl ?_, some d, rfl⟩
    have e2 : fl true n (wk F x (i + 1)) = fl true n (fun j => nsum (wk F x i) (ties F j)) := rfl
    rw [e2]
    simp [e1]
  have e2 : 0 + (rgD 0 (t : Int)).length = t := by rw [rgD_len]; omega
  rw [e2] at key
  have hst := small_of (i := (t : Int)) (by omega) (by omega)
  have hset : storeAt 3 (.int x) (.int 1) [some (famD F), some (.int x), some (.int (t : Int)), some (fl true n fun _ => 0), none] = some [some (famD F), some (.int x), some (.int (t : Int)), some (fl true n (wk F x 0)), none] := by
    have e1 : ixN ((iot n).map fun j => D.int (((0 : Nat) : Nat) : Int)).length x = some x.toNat := by
      unfold ixN
      rw [List.length_map, iot_len, if_pos h0, if_pos (by omega)]
    have e3 : ((iot n).map fun j => D.int (((0 : Nat) : Nat) : Int)).set x.toNat (.int 1) = (iot n).map fun j => D.int ((wk F x 0 j : Nat) : Int) := by
      rw [iot_set h0 h1]
      refine List.map_congr_left fun j _ => ?_
      by_cases e : j = x
      · subst e; simp [wk]
      · simp [e, wk]
    unfold storeAt fl
    dsimp only [List.getElem?_cons_succ, List.getElem?_cons_zero]
    rw [e1]
    dsimp only
    rw [e3]
    rfl
  unfold f_walks_of m_walks_of
  simp [-ev_mul, -ev_storeAt, runD, e, e0, hset, hst]
  rw [key]
  rfl
def ft (n : Int) (g : Int → Nat) : D := .tup ((iot n).map fun j => D.int ((g j : Nat) : Int))
theorem tup_fl (o : Bool) (n : Int) (g : Int → Nat) : tupcF (fl o n g) = some (ft n g) := by
  have : fl o n g = .lst o (intsD ((iot n).map fun j => ((g j : Nat) : Int))) := by unfold fl intsD; rw [List.map_map]; rfl
  rw [this, tup_ints]
  unfold ft bagD intsD
  rw [List.map_map]; rfl
theorem sum_fl (o : Bool) (n : Int) (g : Int → Nat) : sumTF (fl o n g) = some (.int ((nsum g (iot n) : Nat) : Int)) := sum_map o g (iot n)
def SpCW (f : Fn) : Prop := ∀ {n x y : Int} {t : Nat} {F : List Bag}, Fam n F → 0 ≤ x → x < n → 0 ≤ y → y < n → t ≤ 200 → f [famD F, .int x, .int y, .int (t : Int)] = some (.int ((wk F x t y : Nat) : Int), [some (famD F), some (.int x), some (.int y), some (.int (t : Int))])
theorem count_walks_sp {cf cb cn cw : Fn} (hf : SpNeed cf) (hb : SpNeedBead cb) (hn : SpNeedN cn) (hw : SpWalks cw) : SpCW (f_count_walks cf cb cn cw) := fun {n x y t F} H x0 x1 y0 y1 ht => by
  have e1 := hf H
  have e2 := hb H x0 x1
  have e3 := hb H y0 y1
  have e4 := hn (v := (t : Int)) (lo := 0) (hi := 200) (by omega) (by omega)
  have e5 := hw H x0 x1 (t := t) (by omega)
  unfold f_count_walks m_count_walks
  simp [runD, e1, e2, e3, e4, e5, ix_fl y0 y1]
def SpWC (f : Fn) : Prop := ∀ {n x : Int} {t : Nat} {F : List Bag}, Fam n F → 0 ≤ x → x < n → t ≤ 200 → f [famD F, .int x, .int (t : Int)] = some (ft n (wk F x t), [some (famD F), some (.int x), some (.int (t : Int))])
theorem walk_counts_sp {cf cb cn cw : Fn} (hf : SpNeed cf) (hb : SpNeedBead cb) (hn : SpNeedN cn) (hw : SpWalks cw) : SpWC (f_walk_counts cf cb cn cw) := fun {n x t F} H x0 x1 ht => by
  have e1 := hf H
  have e2 := hb H x0 x1
  have e4 := hn (v := (t : Int)) (lo := 0) (hi := 200) (by omega) (by omega)
  have e5 := hw H x0 x1 (t := t) (by omega)
  unfold f_walk_counts m_walk_counts
  simp [runD, e1, e2, e4, e5, tup_fl]
def SpCR (f : Fn) : Prop := ∀ {n : Int} {t : Nat} {F : List Bag}, Fam n F → t ≤ 200 → f [famD F, .int (t : Int)] = some (.int ((nsum (fun x => wk F x t x) (iot n) : Nat) : Int), [some (famD F), some (.int (t : Int))])
theorem count_rounds_sp {cf cn cs cw : Fn} (hf : SpNeed cf) (hn : SpNeedN cn) (hs : SpSize cs) (hw : SpWalks cw) : SpCR (f_count_rounds cf cn cs cw) := fun {n t F} H ht => by
  have h60 := H.n60
  have e1 := hf H
  have e4 := hn (v := (t : Int)) (lo := 0) (hi := 200) (by omega) (by omega)
  have e := hs H
  have hsm := small_of (i := n) (by have := H.n2; omega) (by omega)
  unfold f_count_rounds m_count_rounds
  simp [runD, e1, e4]
  rw [mLc_a (l := iot n) D.int (fun x => .int ((wk F x t x : Nat) : Int)) (s := [some (famD F), some (.int (t : Int)), none]) (st0 := [some (famD F), some (.int (t : Int)), none]) (by simp [e, hsm, rgD0]) (by simp) (by rw [iot_len]; omega) (by simp) fun x hx => by
    have hr := iot_mem.mp hx
    refine ⟨_, [some (famD F), some (.int (t : Int)), some (.int x)], by simp; rfl, ?_, by simp⟩
    have e5 := hw H hr.1 hr.2 (t := t) (by omega)
    simp [e5, ix_fl hr.1 hr.2]]
  simp [-List.map_map, sum_map]
def SpNbs (f : Fn) : Prop := ∀ {n : Int} {F : List Bag}, Fam n F → f [famD F] = some (ft n (degN F), [some (famD F)])
theorem neighbors_sp {cf cn : Fn} (hf : SpNeed cf) (hn : SpNear cn) : SpNbs (f_neighbors cf cn) := fun {n F} H => by
  have e1 := hf H
  have e2 := hn H
  unfold f_neighbors m_neighbors
  simp [runD, e1, e2, tup_fl]
theorem deg_pos {n : Int} {F : List Bag} (H : Fam n F) {x : Int} (h0 : 0 ≤ x) (h1 : x < n) : 0 < degN F x := by
  obtain ⟨b, hb, hx⟩ := H.cov x h0 h1
  have h2 := H.len b hb
  have e := nsum_rest (fun _ => 1) (H.nd b hb) hx
  rw [nsum_one, nsum_one] at e
  have hne : 0 < (b.filter fun y => decide (y ≠ x)).length := by omega
  unfold degN ties
  rw [List.length_flatMap]
  have hm : (b.filter fun y => decide (y ≠ x)).length ∈ F.map fun b => (if x ∈ b then b.filter (fun y => decide (y ≠ x)) else []).length := List.mem_map.mpr ⟨b, hb, by rw [if_pos hx]⟩
  have : ∀ {l : List Nat} {a : Nat}, a ∈ l → a ≤ l.sum := fun {l a} h => by
    induction l with
    | nil => cases h
    | cons y l ih =>
      rw [List.sum_cons]
      rcases List.mem_cons.mp h with rfl | h
      · omega
      · have := ih h; omega
  have := this hm
  omega
end Pl
/-! Wk4: chances: sums of ratios over one denominator -/
namespace Pl
open Va L2 PySem Nm

theorem deg_le {n : Int} {F : List Bag} (H : Fam n F) (x : Int) : degN F x ≤ 3540 := by
  have h60 := H.n60
  have hl := H.len_le
  have : ∀ G : List Bag, (∀ b ∈ G, b.length ≤ 60) → degN G x ≤ 60 * G.length := fun G => by
    induction G with
    | nil => intro _; simp [degN, ties]
    | cons b G ih =>
      intro h
      have i := ih fun c hc => h c (List.mem_cons_of_mem _ hc)
      have hb := h b (List.mem_cons_self ..)
      unfold degN ties at i ⊢
      rw [List.flatMap_cons, List.length_append, List.length_cons]
      have : (if x ∈ b then b.filter (fun y => decide (y ≠ x)) else []).length ≤ 60 := by
        split
        · exact Nat.le_trans (List.length_filter_le _ _) hb
        · simp
      omega
  have := this F fun b hb => by have := H.bag_le b hb; omega
  omega
theorem Lg_deg {n : Int} {F : List Bag} (H : Fam n F) (x : Int) : Lg (degN F x) 12 := by
  have := deg_le H x
  unfold Lg; omega
theorem Lg_nsum {f : Int → Nat} {k j : Nat} {l : List Int} (hl : l.length < 2 ^ k) (h : ∀ x ∈ l, Lg (f x) j) : Lg (nsum f l) (j + k) := by
  have h1 : ∀ l : List Int, (∀ x ∈ l, Lg (f x) j) → nsum f l ≤ l.length * 2 ^ j := fun l => by
    induction l with
    | nil => intro _; simp [nsum]
    | cons x l ih =>
      intro h
      have a := ih fun y hy => h y (List.mem_cons_of_mem _ hy)
      have b : f x < 2 ^ j := h x (List.mem_cons_self ..)
      rw [nsum, List.length_cons, Nat.add_mul, Nat.one_mul]
      omega
  have h2 := h1 l h
  unfold Lg
  rw [Nat.pow_add, Nat.mul_comm]
  exact Nat.lt_of_le_of_lt h2 (Nat.mul_lt_mul_of_pos_right hl (Nat.two_pow_pos j))
theorem nsum_pos {n : Int} {F : List Bag} (H : Fam n F) : 0 < nsum (degN F) (iot n) := by
  have h2 := H.n2
  have h := nsum_mem (f := degN F) (l := iot n) (x := 0) (iot_mem.mpr ⟨by omega, by omega⟩)
  have := deg_pos H (x := 0) (by omega) (by omega)
  omega
def SpStay (f : Fn) : Prop := ∀ {n x : Int} {F : List Bag}, Fam n F → 0 ≤ x → x < n → f [famD F, .int x] = some (pD (low (degN F x) (nsum (degN F) (iot n))), [some (famD F), some (.int x)])
theorem Lg_degs {n : Int} {F : List Bag} (H : Fam n F) : Lg (nsum (degN F) (iot n)) 18 := Lg_nsum (k := 6) (by rw [iot_len]; have := H.n60; omega) fun x _ => Lg_deg H x
theorem stay_sp {cf cb cn cl : Fn} (hf : SpNeed cf) (hb : SpNeedBead cb) (hn : SpNear cn) (hl : SpLow cl) : SpStay (f_stay_share cf cb cn cl) := fun {n x F} H x0 x1 => by
  have e1 := hf H
  have e2 := hb H x0 x1
  have e3 := hn H
  have e4 := sum_fl true n (degN F)
  have e5 := ix_fl (o := true) (n := n) (g := degN F) x0 x1
  have e6 := hl (a := degN F x) (b := nsum (degN F) (iot n)) 12 18 (nsum_pos H) (Lg_deg H x) (Lg_degs H) (by omega) (by omega)
  rw [ratD_low] at e6
  unfold f_stay_share m_stay_share
  simp [runD, e1, e2, e3, e4, e5, e6]
/-! ### sums -/
def Sm (p : Nat × Nat) : Prop := Lg p.1 4000 ∧ Lg p.2 4000 ∧ 0 < p.2
theorem Sm.low {a D : Nat} (ha : Lg a 4000) (hD : Lg D 4000) (h : 0 < D) : Sm (low a D) := ⟨ha.le (low_le1 _ _), hD.le (low_le2 _ _), low_pos h⟩
/-- one and other are added -/
def SpPlus (f : Fn) : Prop := ∀ {p q : Nat × Nat}, Sm p → Sm q → f [pD p, pD q] = some (pD (plus p q), [some (pD p), some (pD q)])
def nD (p : Nat × Nat) : D := .tup [.int (-((p.1 : Nat) : Int)), .int ((p.2 : Nat) : Int)]
theorem ix_nD0 (p : Nat × Nat) : ixF (nD p) (.int 0) = some (.int (-((p.1 : Nat) : Int))) := rfl
theorem ix_nD1 (p : Nat × Nat) : ixF (nD p) (.int 1) = some (.int ((p.2 : Nat) : Int)) := rfl
def SpMinus (f : Fn) : Prop := ∀ {p q : Nat × Nat}, Sm p → Sm q → q.1 * p.2 ≤ p.1 * q.2 → f [pD p, nD q] = some (pD (low (p.1 * q.2 - q.1 * p.2) (p.2 * q.2)), [some (pD p), some (nD q)])
theorem plus_sp {c : Fn} (h : SpLow c) : SpPlus (f_plus c) := fun {p q} ⟨p1, p2, p3⟩ ⟨q1, q2, q3⟩ => by
  have e1 : mulF (.int ((p.1 : Nat) : Int)) (.int ((q.2 : Nat) : Int)) = some (.int ((p.1 * q.2 : Nat) : Int)) := mulN 4000 4000 p1 q2 rfl rfl (by omega)
  have e2 : mulF (.int ((q.1 : Nat) : Int)) (.int ((p.2 : Nat) : Int)) = some (.int ((q.1 * p.2 : Nat) : Int)) := mulN 4000 4000 q1 p2 rfl rfl (by omega)
  have e3 : mulF (.int ((p.2 : Nat) : Int)) (.int ((q.2 : Nat) : Int)) = some (.int ((p.2 * q.2 : Nat) : Int)) := mulN 4000 4000 p2 q2 rfl rfl (by omega)
  have e4 := h (a := p.1 * q.2 + q.1 * p.2) (b := p.2 * q.2) 8001 8000 (Nat.mul_pos p3 q3) ((p1.mul q2).add (q1.mul p2)) (p2.mul q2) (by omega) (by omega)
  rw [ratD_low, Int.natCast_add] at e4
  have e5 : low (p.1 * q.2 + q.1 * p.2) (p.2 * q.2) = plus p q := rfl
  rw [e5] at e4
  unfold f_plus m_plus
  generalize ((p.1 * q.2 : Nat) : Int) = z1 at *
  generalize ((q.1 * p.2 : Nat) : Int) = z2 at *
  generalize ((p.2 * q.2 : Nat) : Int) = z3 at *
  simp [-ev_mul, runD, ix_pD0, ix_pD1, e1, e2, e3, e4]
theorem minus_sp {c : Fn} (h : SpLow c) : SpMinus (f_plus c) := fun {p q} ⟨p1, p2, p3⟩ ⟨q1, q2, q3⟩ hle => by
  have e1 : mulF (.int ((p.1 : Nat) : Int)) (.int ((q.2 : Nat) : Int)) = some (.int ((p.1 * q.2 : Nat) : Int)) := mulN 4000 4000 p1 q2 rfl rfl (by omega)
  have e2 : mulF (.int (-((q.1 : Nat) : Int))) (.int ((p.2 : Nat) : Int)) = some (.int (-((q.1 * p.2 : Nat) : Int))) := by
    rw [mulZ 4000 4000 (by rw [Int.natAbs_neg]; exact q1) (show Lg ((p.2 : Nat) : Int).natAbs 4000 from p2) (by omega), Int.neg_mul, Int.natCast_mul]
  have e3 : mulF (.int ((p.2 : Nat) : Int)) (.int ((q.2 : Nat) : Int)) = some (.int ((p.2 * q.2 : Nat) : Int)) := mulN 4000 4000 p2 q2 rfl rfl (by omega)
  have e4 := h (a := p.1 * q.2 - q.1 * p.2) (b := p.2 * q.2) 8000 8000 (Nat.mul_pos p3 q3) ((p1.mul q2).le (Nat.sub_le _ _)) (p2.mul q2) (by omega) (by omega)
  rw [ratD_low, show ((p.1 * q.2 - q.1 * p.2 : Nat) : Int) = ((p.1 * q.2 : Nat) : Int) + -((q.1 * p.2 : Nat) : Int) by omega] at e4
  have hi : Va.imm (nD q) = true := rfl
  unfold f_plus m_plus
  generalize ((p.1 * q.2 : Nat) : Int) = z1 at *
  generalize ((q.1 * p.2 : Nat) : Int) = z2 at *
  generalize ((p.2 * q.2 : Nat) : Int) = z3 at *
  simp [-ev_mul, runD, ix_pD0, ix_pD1, ix_nD0, ix_nD1, e1, e2, e3, e4, hi]
theorem lplus_sp {c : Fn} (h : SpLow c) : SpPlus (f__law_plus c) := fun {p q} a b => plus_sp h a b
/-- the ratios at one step -/
def pl (o : Bool) (n : Int) (g : Int → Nat × Nat) : D := .lst o ((iot n).map fun j => pD (g j))
@[simp] theorem imm_pl (o : Bool) (n : Int) (g : Int → Nat × Nat) : imm (pl o n g) = !o := rfl
theorem pl_congr {o : Bool} {n : Int} {g g' : Int → Nat × Nat} (h : ∀ j, 0 ≤ j → j < n → g j = g' j) : pl o n g = pl o n g' := by
  unfold pl
  congr 1
  refine List.map_congr_left fun j hj => ?_
  have := iot_mem.mp hj
  rw [h j this.1 this.2]
theorem ix_pl {o : Bool} {n x : Int} {g : Int → Nat × Nat} (x0 : 0 ≤ x) (x1 : x < n) : ixF (pl o n g) (.int x) = some (pD (g x)) := by
  show immO (atI ((iot n).map fun j => pD (g j)) x) = _
  rw [atI_ok x0 (by rw [List.length_map, iot_len]; omega), List.getElem?_map, iot_get (by omega), show ((x.toNat : Nat) : Int) = x by omega]
  rfl
theorem len_pl {o : Bool} {n : Int} {g : Int → Nat × Nat} (h : 0 ≤ n) : lenF (pl o n g) = some (.int n) := by
  show some (D.int (((iot n).map fun j => pD (g j)).length : Int)) = _
  rw [List.length_map, iot_len, show ((n.toNat : Nat) : Int) = n by omega]
theorem frz_pl (n : Int) (g : Int → Nat × Nat) : frz (pl true n g) = pl false n g := by
  unfold pl
  rw [frz_lst]
  congr 1
  induction iot n with
  | nil => simp [frzL]
  | cons x l ih =>
    rw [List.map_cons, frzL, ih]
    rfl
theorem zeros_pl {n : Int} (h0 : 0 ≤ n) (h1 : n ≤ 1000) : mulF (.lst true [.tup [.int 0, .int 1]]) (.int n) = some (pl true n fun _ => (0, 1)) := by
  show (if _ then _ else _) = _
  rw [if_pos ⟨rfl, small_of (by omega) (by omega), by rw [LN_eq']; simp; omega⟩]
  unfold pl iot
  rw [List.map_map]
  congr 2
  have : ∀ k : Nat, (List.replicate k [D.tup [.int 0, .int 1]]).flatten = (List.range k).map fun _ => D.tup [.int 0, .int 1] := fun k => by
    induction k with
    | zero => rfl
    | succ k ih => rw [List.replicate_succ', List.range_succ, List.flatten_append, List.map_append, ih]; rfl
  rw [this]
  rfl
theorem set_pl {i : Nat} {s : S} {n x : Int} {g : Int → Nat × Nat} {v : Nat × Nat} (x0 : 0 ≤ x) (x1 : x < n) (h0 : s[i]? = some (some (pl true n g))) : storeAt i (.int x) (pD v) s = some (s.set i (some (pl true n fun j => if j = x then v else g j))) := by
  have e1 : ixN ((iot n).map fun j => pD (g j)).length x = some x.toNat := by
    unfold ixN
    rw [List.length_map, iot_len, if_pos x0, if_pos (by omega)]
  have e3 : ((iot n).map fun j => pD (g j)).set x.toNat (pD v) = (iot n).map fun j => pD (if j = x then v else g j) := by
    rw [iot_set x0 x1]
    refine List.map_congr_left fun j _ => ?_
    by_cases e : j = x
    · subst e; simp
    · simp [e]
  unfold storeAt
  rw [h0]
  unfold pl
  dsimp only
  rw [e1]
  dsimp only
  rw [e3]
theorem zip_map {α : Type} (f g : α → D) : ∀ l : List α, zipD (l.map f) (l.map g) = l.map fun x => .tup [f x, g x]
  | [] => rfl
  | x :: l => by
    show D.tup [f x, g x] :: zipD (l.map f) (l.map g) = _
    rw [zip_map f g l]; rfl
end Pl
/-! Wk5: chance_at (printed by wk5.py) -/
namespace Pl
open Va L2 PySem Nm
theorem forL_idx {α : Type} {t : Tgt} {b : M Fl} (enc : α → D) (I : Nat → S → Prop) {l : List α} {st : S} (h0 : I 0 st)
    (hs : ∀ i (hi : i < l.length) st, I i st → ∃ s1 s2, asgT t (enc l[i]) st = some s1 ∧ b s1 = some (.nx, s2) ∧ I (i + 1) s2) : ∃ st', forL t b (l.map enc) st = some (.nx, st') ∧ I l.length st' := by
  obtain ⟨st', e, h⟩ := forL_inv I (t := t) (b := b) (ds := l.map enc) (k := 0) (st := st) h0 fun i d st hi hI => by
    rw [Nat.zero_add] at hI ⊢
    have hil : i < l.length := by
      have := (List.getElem?_eq_some_iff.mp hi).1
      simpa using this
    have hd : d = enc l[i] := by
      rw [List.getElem?_map, List.getElem?_eq_getElem hil] at hi
      exact (Option.some.inj hi).symm
    subst hd
    obtain ⟨s1, s2, a1, a2, a3⟩ := hs i hil st hI
    exact ⟨s1, s2, a1, .inl a2, a3⟩
  rw [Nat.zero_add, List.length_map] at h
  exact ⟨st', e, h⟩
theorem frz_sh (f : Int → Nat × Nat) (b : List Int) : frz (.lst true (b.map fun x => pD (f x))) = .lst false (b.map fun x => pD (f x)) := by
  rw [frz_lst]
  congr 1
  induction b with
  | nil => simp [frzL]
  | cons x l ih =>
    rw [List.map_cons, frzL, ih]
    rfl
def uu (F : List Bag) (M : Nat) (one : Int) (t : Nat) (x : Int) : Nat := ck F M one t x * (M / degN F x)
theorem ck_succ (F : List Bag) (M : Nat) (one : Int) (t : Nat) (j : Int) : ck F M one (t + 1) j = nsum (uu F M one t) (ties F j) := rfl
theorem mul_pos' {n : Int} {F : List Bag} (H : Fam n F) : 0 < mulAll F (iot n) := by
  have : ∀ l : List Int, (∀ x ∈ l, 0 ≤ x ∧ x < n) → 0 < mulAll F l := fun l => by
    induction l with
    | nil => intro _; exact Nat.one_pos
    | cons x l ih =>
      intro h
      have hx := h x (List.mem_cons_self ..)
      exact Nat.mul_pos (deg_pos H hx.1 hx.2) (ih fun y hy => h y (List.mem_cons_of_mem _ hy))
  exact this _ fun x hx => iot_mem.mp hx
theorem Lg_mulAll {n : Int} {F : List Bag} (H : Fam n F) (l : List Int) : Lg (mulAll F l) (12 * l.length + 1) := by
  induction l with
  | nil => exact (by decide : (1 : Nat) < 2 ^ 1)
  | cons x l ih => exact ((Lg_deg H x).mul ih).mono (by rw [List.length_cons]; omega)
theorem Lg_ck {n : Int} {F : List Bag} (H : Fam n F) {M : Nat} (hM : Lg M 290) (one : Int) : ∀ t j, Lg (ck F M one t j) (310 * t + 1)
  | 0, j => by unfold Lg ck; split <;> decide
  | t + 1, j => by
    rw [ck_succ]
    refine (Lg_nsum (k := 12) (j := 310 * t + 1 + 290) (Lg_deg H j) fun x _ => ?_).mono (by omega)
    exact (Lg_ck H hM one t x).mul (hM.le (Nat.div_le_self _ _))
theorem Lg_uu {n : Int} {F : List Bag} (H : Fam n F) {M : Nat} (hM : Lg M 290) (one : Int) (t : Nat) (x : Int) : Lg (uu F M one t x) (310 * t + 291) :=
  ((Lg_ck H hM one t x).mul (hM.le (Nat.div_le_self _ _))).mono (by omega)
theorem share_low {n : Int} {F : List Bag} (H : Fam n F) (one : Int) (t : Nat) {x : Int} (x0 : 0 ≤ x) (x1 : x < n) :
    low (low (ck F (mulAll F (iot n)) one t x) (mulAll F (iot n) ^ t)).1 ((low (ck F (mulAll F (iot n)) one t x) (mulAll F (iot n) ^ t)).2 * degN F x) = low (uu F (mulAll F (iot n)) one t x) (mulAll F (iot n) ^ (t + 1)) := by
  have hM := mul_pos' H
  have hd := deg_pos H x0 x1
  have hdv : degN F x ∣ mulAll F (iot n) := deg_dvd (iot_mem.mpr ⟨x0, x1⟩)
  have hc : 0 < mulAll F (iot n) / degN F x := Nat.div_pos (Nat.le_of_dvd hM hdv) hd
  have hP : 0 < mulAll F (iot n) ^ t := Nat.pow_pos hM
  rw [low_low _ _ _ hP hd, ← low_mul _ _ _ hc (Nat.mul_pos hP hd)]
  unfold uu
  rw [Nat.mul_assoc (mulAll F (iot n) ^ t), Nat.mul_div_cancel' hdv, Nat.pow_succ]
theorem nsum_take (f : Int → Nat) {l : List Int} {i : Nat} (hi : i < l.length) : nsum f (l.take (i + 1)) = nsum f (l.take i) + f l[i] := by
  rw [List.take_succ_eq_append_getElem hi, nsum_app]
  simp [nsum]
theorem nsum_take_le (f : Int → Nat) (l : List Int) (i : Nat) : nsum f (l.take i) ≤ nsum f l := by
  have : nsum f l = nsum f (l.take i) + nsum f (l.drop i) := by rw [← nsum_app, List.take_append_drop]
  omega
theorem bsum_take_le (f : Int → Nat) (F : List Bag) (i : Nat) (j : Int) : bsum f (F.take i) j ≤ bsum f F j := by
  have : bsum f F j = bsum f (F.take i) j + bsum f (F.drop i) j := by rw [← bsum_app, List.take_append_drop]
  omega
section
variable {cl cp : Fn} {n one : Int} {F : List Bag} (H : Fam n F) {M t : Nat} (hM : M = mulAll F (iot n)) (hMl : Lg M 290) (ht : t < 12) {o : Bool} {y2 y3 y6 : Option D}
include H hM hMl ht
theorem Lg_DD : Lg (M ^ (t + 1)) 3700 ∧ 0 < (M ^ (t + 1)) := by
  refine ⟨(Lg.pow hMl (t + 1)).mono (by omega), ?_⟩
  rw [hM]
  exact Nat.pow_pos (mul_pos' H)
theorem whole_loop (hp : SpPlus cp) {b : Bag} (hb : b.length ≤ 60) {y7 y8 y9 y10 : Option D} {y12 : Option D} :
    ∃ y12e, forL (.n 12) (mSet 11 (mCall cp (mCons (mTake 11) (mCons (mTake 12) mNil)) [some 11, some 12])) (b.map fun x => pD (low ((uu F M one t) x) (M ^ (t + 1)))) [some (famD F), some (.int one), y2, y3, some (fl true n (degN F)), some (pl o n (fun j => low (ck F M one t j) (M ^ t))), y6, y7, y8, y9, y10, some (.tup [.int 0, .int 1]), y12] = some (.nx, [some (famD F), some (.int one), y2, y3, some (fl true n (degN F)), some (pl o n (fun j => low (ck F M one t j) (M ^ t))), y6, y7, y8, y9, y10, some (pD (low (nsum (uu F M one t) b) (M ^ (t + 1)))), y12e]) := by
  obtain ⟨D1, D2⟩ := Lg_DD H hM hMl ht
  obtain ⟨st', e, y12e, rfl⟩ := forL_idx (t := .n 12) (b := (mSet 11 (mCall cp (mCons (mTake 11) (mCons (mTake 12) mNil)) [some 11, some 12]))) (fun x => pD (low ((uu F M one t) x) (M ^ (t + 1)))) (fun i st => ∃ y12, st = [some (famD F), some (.int one), y2, y3, some (fl true n (degN F)), some (pl o n (fun j => low (ck F M one t j) (M ^ t))), y6, y7, y8, y9, y10, some (pD (low (nsum (uu F M one t) (b.take i)) (M ^ (t + 1)))), y12]) (l := b) (st := [some (famD F), some (.int one), y2, y3, some (fl true n (degN F)), some (pl o n (fun j => low (ck F M one t j) (M ^ t))), y6, y7, y8, y9, y10, some (.tup [.int 0, .int 1]), y12]) ⟨y12, by rw [List.take_zero, nsum, low_zero D2]; rfl⟩ fun i hi st ⟨z12, hst⟩ => by
    subst hst
    have hLu := Lg_nsum (f := (uu F M one t)) (k := 6) (l := b) (j := 310 * t + 291) (by omega) fun x _ => Lg_uu H hMl one t x
    have h1 : Sm (low (nsum (uu F M one t) (b.take i)) (M ^ (t + 1))) := Sm.low ((hLu.le (nsum_take_le _ _ _)).mono (by omega)) (D1.mono (by omega)) D2
    have h2 : Sm (low ((uu F M one t) b[i]) (M ^ (t + 1))) := Sm.low ((Lg_uu H hMl one t b[i]).mono (by omega)) (D1.mono (by omega)) D2
    have e := hp h1 h2
    rw [plus_same _ _ _ D2, ← nsum_take _ hi] at e
    refine ⟨_, _, rfl, ?_, some (pD (low ((uu F M one t) b[i]) (M ^ (t + 1)))), rfl⟩
    simp [e]
  rw [List.take_length] at e
  exact ⟨y12e, e⟩
theorem zip_loop (hp : SpPlus cp) (hm : SpMinus cp) {b : Bag} (hb : b.length ≤ 60) (nd : b.Nodup) (hr : ∀ x ∈ b, 0 ≤ x ∧ x < n) {g : Int → Nat} (hg : ∀ j, Lg (g j) 3990) {y9 y10 y12 : Option D} (h9 : ∀ d, y9 = some d → Va.imm d = true) :
    ∃ y9e y12e, (∀ d, y9e = some d → Va.imm d = true) ∧ forL (.t [9, 12]) (mStore 7 (mVar 9) (mCall cp (mCons (m2 (.v 7) (.v 9) ixF) (mCons (mCall cp (mCons (mTake 11) (mCons (mTup (mCons (m1 (.e (m2 (.v 12) (.e (mC (.int 0))) ixF)) negF) (mCons (m2 (.v 12) (.e (mC (.int 1))) ixF) mNil))) mNil)) [some 11, none]) mNil)) [none, none])) (b.map fun x => D.tup [.int x, pD (low ((uu F M one t) x) (M ^ (t + 1)))]) [some (famD F), some (.int one), y2, y3, some (fl true n (degN F)), some (pl o n (fun j => low (ck F M one t j) (M ^ t))), y6, some (pl true n (fun j => low (g j) (M ^ (t + 1)))), some (bagD b), y9, y10, some (pD (low (nsum (uu F M one t) b) (M ^ (t + 1)))), y12] = some (.nx, [some (famD F), some (.int one), y2, y3, some (fl true n (degN F)), some (pl o n (fun j => low (ck F M one t j) (M ^ t))), y6, some (pl true n (fun j => low (g j + if j ∈ b then nsum (uu F M one t) b - (uu F M one t) j else 0) (M ^ (t + 1)))), some (bagD b), y9e, y10, some (pD (low (nsum (uu F M one t) b) (M ^ (t + 1)))), y12e]) := by
  obtain ⟨D1, D2⟩ := Lg_DD H hM hMl ht
  obtain ⟨st', e, y9e, y12e, rfl, h9e⟩ := forL_idx (t := .t [9, 12]) (b := (mStore 7 (mVar 9) (mCall cp (mCons (m2 (.v 7) (.v 9) ixF) (mCons (mCall cp (mCons (mTake 11) (mCons (mTup (mCons (m1 (.e (m2 (.v 12) (.e (mC (.int 0))) ixF)) negF) (mCons (m2 (.v 12) (.e (mC (.int 1))) ixF) mNil))) mNil)) [some 11, none]) mNil)) [none, none]))) (fun x => D.tup [.int x, pD (low ((uu F M one t) x) (M ^ (t + 1)))]) (fun i st => ∃ y9 y12, st = [some (famD F), some (.int one), y2, y3, some (fl true n (degN F)), some (pl o n (fun j => low (ck F M one t j) (M ^ t))), y6, some (pl true n (fun j => low (g j + if j ∈ b.take i then nsum (uu F M one t) b - (uu F M one t) j else 0) (M ^ (t + 1)))), some (bagD b), y9, y10, some (pD (low (nsum (uu F M one t) b) (M ^ (t + 1)))), y12] ∧ ∀ d, y9 = some d → Va.imm d = true) (l := b) (st := [some (famD F), some (.int one), y2, y3, some (fl true n (degN F)), some (pl o n (fun j => low (ck F M one t j) (M ^ t))), y6, some (pl true n (fun j => low (g j) (M ^ (t + 1)))), some (bagD b), y9, y10, some (pD (low (nsum (uu F M one t) b) (M ^ (t + 1)))), y12]) ⟨y9, y12, by simp, h9⟩ fun i hi st ⟨z9, z12, hst, _⟩ => by
    subst hst
    have hx := hr _ (List.getElem_mem hi)
    have hni : b[i] ∉ b.take i := fun hm => by
      obtain ⟨k, hk, ek⟩ := List.mem_take_iff_getElem.mp hm
      exact absurd ((List.getElem_inj (h₀ := by omega) (h₁ := hi) nd).mp ek) (by omega)
    have hLu := Lg_nsum (f := (uu F M one t)) (k := 6) (l := b) (j := 310 * t + 291) (by omega) fun x _ => Lg_uu H hMl one t x
    have hle := nsum_mem (f := (uu F M one t)) (List.getElem_mem hi)
    have h1 : Sm (low (nsum (uu F M one t) b) (M ^ (t + 1))) := Sm.low (hLu.mono (by omega)) (D1.mono (by omega)) D2
    have h2 : Sm (low ((uu F M one t) b[i]) (M ^ (t + 1))) := Sm.low ((Lg_uu H hMl one t b[i]).mono (by omega)) (D1.mono (by omega)) D2
    obtain ⟨hq, e0⟩ := minus_same _ _ _ D2 hle
    have e1 := hm h1 h2 hq
    rw [e0] at e1
    have e2 : ixF (pl true n (fun j => low (g j + if j ∈ b.take i then nsum (uu F M one t) b - (uu F M one t) j else 0) (M ^ (t + 1)))) (.int b[i]) = some (pD (low (g b[i]) (M ^ (t + 1)))) := by
      rw [ix_pl hx.1 hx.2, if_neg hni, Nat.add_zero]
    have h3 : Sm (low (g b[i]) (M ^ (t + 1))) := Sm.low ((hg _).mono (by omega)) (D1.mono (by omega)) D2
    have h4 : Sm (low (nsum (uu F M one t) b - (uu F M one t) b[i]) (M ^ (t + 1))) := Sm.low ((hLu.le (Nat.sub_le _ _)).mono (by omega)) (D1.mono (by omega)) D2
    have e3 := hp h3 h4
    rw [plus_same _ _ _ D2] at e3
    have e4 : pl true n (fun j => if j = b[i] then low (g b[i] + (nsum (uu F M one t) b - (uu F M one t) b[i])) (M ^ (t + 1)) else low (g j + if j ∈ b.take i then nsum (uu F M one t) b - (uu F M one t) j else 0) (M ^ (t + 1))) = pl true n (fun j => low (g j + if j ∈ b.take (i + 1) then nsum (uu F M one t) b - (uu F M one t) j else 0) (M ^ (t + 1))) := pl_congr fun j _ _ => by
      have hmem : j ∈ b.take (i + 1) ↔ j ∈ b.take i ∨ j = b[i] := by
        rw [List.take_succ_eq_append_getElem hi, List.mem_append, List.mem_singleton]
      by_cases e : j = b[i]
      · rw [if_pos e, if_pos (hmem.mpr (.inr e)), e]
      · rw [if_neg e]
        by_cases h : j ∈ b.take i
        · rw [if_pos h, if_pos (hmem.mpr (.inl h))]
        · rw [if_neg h, if_neg fun q => (hmem.mp q).elim h e]
    refine ⟨_, [some (famD F), some (.int one), y2, y3, some (fl true n (degN F)), some (pl o n (fun j => low (ck F M one t j) (M ^ t))), y6, some (pl true n (fun j => low (g j + if j ∈ b.take (i + 1) then nsum (uu F M one t) b - (uu F M one t) j else 0) (M ^ (t + 1)))), some (bagD b), some (.int b[i]), y10, some (pD (low (nsum (uu F M one t) b) (M ^ (t + 1)))), some (pD (low ((uu F M one t) b[i]) (M ^ (t + 1))))], rfl, ?_, some (.int b[i]), some (pD (low ((uu F M one t) b[i]) (M ^ (t + 1)))), ?_, fun d h => by cases h; rfl⟩
    · have e5 : D.tup [.int (-(((low ((uu F M one t) b[i]) (M ^ (t + 1))).1 : Nat) : Int)), .int (((low ((uu F M one t) b[i]) (M ^ (t + 1))).2 : Nat) : Int)] = nD (low ((uu F M one t) b[i]) (M ^ (t + 1))) := rfl
      have e6 := set_pl (i := 7) (s := [some (famD F), some (.int one), y2, y3, some (fl true n (degN F)), some (pl o n (fun j => low (ck F M one t j) (M ^ t))), y6, some (pl true n (fun j => low (g j + if j ∈ b.take i then nsum (uu F M one t) b - (uu F M one t) j else 0) (M ^ (t + 1)))), some (bagD b), some (.int b[i]), y10, some (pD (low (nsum (uu F M one t) b) (M ^ (t + 1)))), some (pD (low ((uu F M one t) b[i]) (M ^ (t + 1))))]) (v := low (g b[i] + (nsum (uu F M one t) b - (uu F M one t) b[i])) (M ^ (t + 1))) hx.1 hx.2 rfl
      rw [e4] at e6
      simp [-ev_storeAt, negF, e2, ix_pD0, ix_pD1, e5, e1, e3, e6]
    · rfl
  rw [List.take_length] at e
  exact ⟨y9e, y12e, h9e, e⟩
theorem bag_loop (hc : SpLow cl) (hp : SpPlus cp) (hm : SpMinus cp) {y8 y9 y10 y11 y12 : Option D} (h9 : ∀ d, y9 = some d → Va.imm d = true) :
    ∃ y8e y9e y10e y11e y12e, (∀ d, y9e = some d → Va.imm d = true) ∧ forL (.n 8) (mSeq (mSet 10 (mLc (mItems (mVar 8)) (.n 9) mYes (mCall cl (mCons (m2 (.e (m2 (.v 5) (.v 9) ixF)) (.e (mC (.int 0))) ixF) (mCons (m2 (.e (m2 (.e (m2 (.v 5) (.v 9) ixF)) (.e (mC (.int 1))) ixF)) (.e (m2 (.v 4) (.v 9) ixF)) mulF) mNil)) [none, none]) [9])) (mSeq (mSet 11 (mTup (mCons (mC (.int 0)) (mCons (mC (.int 1)) mNil)))) (mSeq (mFor (mItems (mVar 10)) (.n 12) (mSet 11 (mCall cp (mCons (mTake 11) (mCons (mTake 12) mNil)) [some 11, some 12]))) (mFor (mZipM (mCons (mVar 8) (mCons (mVar 10) mNil))) (.t [9, 12]) (mStore 7 (mVar 9) (mCall cp (mCons (m2 (.v 7) (.v 9) ixF) (mCons (mCall cp (mCons (mTake 11) (mCons (mTup (mCons (m1 (.e (m2 (.v 12) (.e (mC (.int 0))) ixF)) negF) (mCons (m2 (.v 12) (.e (mC (.int 1))) ixF) mNil))) mNil)) [some 11, none]) mNil)) [none, none])))))) (F.map bagD) [some (famD F), some (.int one), y2, y3, some (fl true n (degN F)), some (pl o n (fun j => low (ck F M one t j) (M ^ t))), y6, some (pl true n fun _ => (0, 1)), y8, y9, y10, y11, y12] = some (.nx, [some (famD F), some (.int one), y2, y3, some (fl true n (degN F)), some (pl o n (fun j => low (ck F M one t j) (M ^ t))), y6, some (pl true n (fun j => low (ck F M one (t + 1) j) (M ^ (t + 1)))), y8e, y9e, y10e, y11e, y12e]) := by
  obtain ⟨D1, D2⟩ := Lg_DD H hM hMl ht
  have hz : pl true n (fun _ => (0, 1)) = pl true n (fun j => low (bsum (uu F M one t) (F.take 0) j) (M ^ (t + 1))) := pl_congr fun j _ _ => by rw [List.take_zero, bsum, low_zero D2]
  rw [hz]
  obtain ⟨st', e, y8e, y9e, y10e, y11e, y12e, rfl, h9e⟩ := forL_idx (t := .n 8) (b := (mSeq (mSet 10 (mLc (mItems (mVar 8)) (.n 9) mYes (mCall cl (mCons (m2 (.e (m2 (.v 5) (.v 9) ixF)) (.e (mC (.int 0))) ixF) (mCons (m2 (.e (m2 (.e (m2 (.v 5) (.v 9) ixF)) (.e (mC (.int 1))) ixF)) (.e (m2 (.v 4) (.v 9) ixF)) mulF) mNil)) [none, none]) [9])) (mSeq (mSet 11 (mTup (mCons (mC (.int 0)) (mCons (mC (.int 1)) mNil)))) (mSeq (mFor (mItems (mVar 10)) (.n 12) (mSet 11 (mCall cp (mCons (mTake 11) (mCons (mTake 12) mNil)) [some 11, some 12]))) (mFor (mZipM (mCons (mVar 8) (mCons (mVar 10) mNil))) (.t [9, 12]) (mStore 7 (mVar 9) (mCall cp (mCons (m2 (.v 7) (.v 9) ixF) (mCons (mCall cp (mCons (mTake 11) (mCons (mTup (mCons (m1 (.e (m2 (.v 12) (.e (mC (.int 0))) ixF)) negF) (mCons (m2 (.v 12) (.e (mC (.int 1))) ixF) mNil))) mNil)) [some 11, none]) mNil)) [none, none]))))))) bagD (fun i st => ∃ y8 y9 y10 y11 y12, st = [some (famD F), some (.int one), y2, y3, some (fl true n (degN F)), some (pl o n (fun j => low (ck F M one t j) (M ^ t))), y6, some (pl true n (fun j => low (bsum (uu F M one t) (F.take i) j) (M ^ (t + 1)))), y8, y9, y10, y11, y12] ∧ ∀ d, y9 = some d → Va.imm d = true) (l := F) (st := [some (famD F), some (.int one), y2, y3, some (fl true n (degN F)), some (pl o n (fun j => low (ck F M one t j) (M ^ t))), y6, some (pl true n (fun j => low (bsum (uu F M one t) (F.take 0) j) (M ^ (t + 1)))), y8, y9, y10, y11, y12]) ⟨y8, y9, y10, y11, y12, rfl, h9⟩ fun i hi st ⟨z8, z9, z10, z11, z12, hst, h9'⟩ => by
    subst hst
    have hb := List.getElem_mem hi
    generalize hbi : F[i] = b at *
    have hr := H.rng b hb
    have nd := H.nd b hb
    have hbl : b.length ≤ 60 := by have := H.bag_le b hb; have := H.n60; omega
    have hLg : ∀ j, Lg (bsum (uu F M one t) (F.take i) j) 3990 := fun j => by
      have h1 := bsum_take_le (uu F M one t) F i j
      rw [bsum_ties _ F (nd_fam H)] at h1
      exact ((Lg_nsum (k := 12) (Lg_deg H j) fun x _ => Lg_uu H hMl one t x).le h1).mono (by omega)
    obtain ⟨w12, ew⟩ := whole_loop (o := o) (y2 := y2) (y3 := y3) (y6 := y6) (one := one) H hM hMl ht hp hbl (y7 := some (pl true n (fun j => low (bsum (uu F M one t) (F.take i) j) (M ^ (t + 1))))) (y8 := some (bagD b)) (y9 := z9) (y10 := some (D.lst false (b.map fun x => pD (low ((uu F M one t) x) (M ^ (t + 1)))))) (y12 := z12)
    obtain ⟨v9, v12, hv9, ez⟩ := zip_loop (o := o) (y2 := y2) (y3 := y3) (y6 := y6) (one := one) H hM hMl ht hp hm hbl nd hr (g := fun j => bsum (uu F M one t) (F.take i) j) hLg (y9 := z9) (y10 := some (D.lst false (b.map fun x => pD (low ((uu F M one t) x) (M ^ (t + 1)))))) (y12 := w12) h9'
    have e4 : pl true n (fun j => low (bsum (uu F M one t) (F.take i) j + if j ∈ b then nsum (uu F M one t) b - (uu F M one t) j else 0) (M ^ (t + 1))) = pl true n (fun j => low (bsum (uu F M one t) (F.take (i + 1)) j) (M ^ (t + 1))) := pl_congr fun j _ _ => by
      rw [List.take_succ_eq_append_getElem hi, bsum_app, hbi]
      rfl
    rw [e4] at ez
    have hzip := zip_map D.int (fun x => pD (low ((uu F M one t) x) (M ^ (t + 1)))) b
    refine ⟨_, [some (famD F), some (.int one), y2, y3, some (fl true n (degN F)), some (pl o n (fun j => low (ck F M one t j) (M ^ t))), y6, some (pl true n (fun j => low (bsum (uu F M one t) (F.take (i + 1)) j) (M ^ (t + 1)))), some (bagD b), v9, some (D.lst false (b.map fun x => pD (low ((uu F M one t) x) (M ^ (t + 1))))), some (pD (low (nsum (uu F M one t) b) (M ^ (t + 1)))), v12], rfl, ?_, some (bagD b), v9, some (D.lst false (b.map fun x => pD (low ((uu F M one t) x) (M ^ (t + 1))))), some (pD (low (nsum (uu F M one t) b) (M ^ (t + 1)))), v12, rfl, hv9⟩
    simp
    rw [mLc_a (l := b) D.int (fun x => pD (low ((uu F M one t) x) (M ^ (t + 1)))) (s := [some (famD F), some (.int one), y2, y3, some (fl true n (degN F)), some (pl o n (fun j => low (ck F M one t j) (M ^ t))), y6, some (pl true n (fun j => low (bsum (uu F M one t) (F.take i) j) (M ^ (t + 1)))), some (bagD b), z9, z10, z11, z12]) (st0 := [some (famD F), some (.int one), y2, y3, some (fl true n (degN F)), some (pl o n (fun j => low (ck F M one t j) (M ^ t))), y6, some (pl true n (fun j => low (bsum (uu F M one t) (F.take i) j) (M ^ (t + 1)))), some (bagD b), none, z10, z11, z12]) (by simp [mItems, bag_map]) (by cases z9 <;> simp; exact h9' _ rfl) (by omega) (by simp) fun x hx => by
      have hx' := hr x hx
      refine ⟨_, [some (famD F), some (.int one), y2, y3, some (fl true n (degN F)), some (pl o n (fun j => low (ck F M one t j) (M ^ t))), y6, some (pl true n (fun j => low (bsum (uu F M one t) (F.take i) j) (M ^ (t + 1)))), some (bagD b), some (.int x), z10, z11, z12], by simp; rfl, ?_, by simp⟩
      have u1 : mulF (.int (((low (ck F M one t x) (M ^ t)).2 : Nat) : Int)) (.int ((degN F x : Nat) : Int)) = some (.int (((low (ck F M one t x) (M ^ t)).2 * degN F x : Nat) : Int)) := mulN 3700 12 (((Lg.pow hMl t).mono (by omega)).le (low_le2 _ _)) (Lg_deg H x) rfl rfl (by omega)
      have hMt : 0 < M ^ t := Nat.pow_pos (by rw [hM]; exact mul_pos' H)
      have u2 := hc (a := (low (ck F M one t x) (M ^ t)).1) (b := (low (ck F M one t x) (M ^ t)).2 * degN F x) 3990 3712 (Nat.mul_pos (low_pos hMt) (deg_pos H hx'.1 hx'.2)) (((Lg_ck H hMl one t x).mono (by omega)).le (low_le1 _ _)) ((((Lg.pow hMl t).mono (by omega)).le (low_le2 _ _)).mul (Lg_deg H x)) (by omega) (by omega)
      have u3 := share_low H one t hx'.1 hx'.2
      rw [← hM] at u3
      rw [ratD_low, u3] at u2
      generalize (((low (ck F M one t x) (M ^ t)).2 * degN F x : Nat) : Int) = zz at *
      simp [-ev_mul, ix_pl hx'.1 hx'.2, ix_fl hx'.1 hx'.2, ix_pD0, ix_pD1, u1, u2]]
    have hfz := frz_sh (fun x => low ((uu F M one t) x) (M ^ (t + 1))) b
    have hfa : seqOf (frzA (D.lst false (b.map fun x => pD (low ((uu F M one t) x) (M ^ (t + 1)))))) = some (false, b.map fun x => pD (low ((uu F M one t) x) (M ^ (t + 1)))) := rfl
    have hfA : frzA (D.lst false (b.map fun x => pD (low ((uu F M one t) x) (M ^ (t + 1))))) = D.lst false (b.map fun x => pD (low ((uu F M one t) x) (M ^ (t + 1)))) := rfl
    generalize hSH : (b.map fun x => pD (low ((uu F M one t) x) (M ^ (t + 1)))) = SH at *
    generalize hZZ : (b.map fun x => D.tup [D.int x, pD (low ((uu F M one t) x) (M ^ (t + 1)))]) = ZZ at *
    have hfl : frzL SH = SH := by
      rw [frz_lst] at hfz
      injection hfz
    simp [-List.map_map, mItems, hfl, ew, mZipM]
    have hbt : bagD b = D.tup (b.map D.int) := rfl
    rw [hbt] at ez ⊢
    simp only [hzip]
    exact ez
  rw [List.take_length] at e
  have e5 : pl true n (fun j => low (bsum (uu F M one t) F j) (M ^ (t + 1))) = pl true n (fun j => low (ck F M one (t + 1) j) (M ^ (t + 1))) := pl_congr fun j _ _ => by rw [bsum_ties _ F (nd_fam H), ck_succ]
  rw [e5] at e
  exact ⟨y8e, y9e, y10e, y11e, y12e, h9e, e⟩
end
end Pl
/-! Ds0: distances: what the program's functions compute (printed by gen.py) -/
namespace Pl
open Va
def m_back_from (c_size_of c_homes_of : Fn) : M Fl := (mSeq (mSetP [3, 4, 5, 6] (mCons (mCall c_homes_of (mCons (mTake 0) mNil) [some 0]) (mCons (m2 (.e (mLst (mCons (mC .non) mNil))) (.e (mCall c_size_of (mCons (mTake 0) mNil) [some 0])) mulF) (mCons (mLst (mCons (mVar 1) mNil)) (mCons (mDict0) mNil))))) (mSeq (mFor (mRg1 (mCall c_size_of (mCons (mTake 0) mNil) [some 0])) (.n 2) (mSeq (mSet 7 (m2 (.v 5) (.v 2) ixF)) (mFor (mItems (m2 (.e (mVar 3)) (.v 7) ixF)) (.n 8) (mIf (mB (m2 (.v 8) (.v 6) (cmpF .NotIn))) (mSeq (mStore 6 (mVar 8) (mC (.bl true))) (mFor (mItems (m2 (.v 0) (.v 8) ixF)) (.n 9) (mIf (mB (m2 (.v 9) (.v 7) (cmpF .NotEq))) (mSeq (mStore 4 (mVar 9) (mTup (mCons (mVar 8) (mCons (mVar 7) mNil)))) (mDo (mApp 5 (mVar 9)))) mNx))) mNx)))) (mRet (mTup (mCons (mVar 4) (mCons (mVar 5) mNil))))))
def f_back_from (c_size_of c_homes_of : Fn) : Fn := runD 10 2 (fun i => ([true, true] : List Bool).getD i false) (m_back_from c_size_of c_homes_of)
def m_way_of (c_back_from : Fn) : M Fl := (mSeq (mAsg (.t [4, 5]) (mCall c_back_from (mCons (mTake 0) (mCons (mTake 2) mNil)) [some 0, some 2])) (mSeq (mSet 3 (mLst (mCons (mVar 1) mNil))) (mSeq (mWhile (mB (m2 (.v 1) (.v 2) (cmpF .NotEq))) (mSeq (mAsg (.t [6, 1]) (m2 (.v 4) (.v 1) ixF)) (mSet 3 (m2 (.v 3) (.e (mLst (mCons (mVar 6) (mCons (mVar 1) mNil)))) addF))) 100000) (mRet (mTake 3)))))
def f_way_of (c_back_from : Fn) : Fn := runD 7 3 (fun i => ([true, false, true] : List Bool).getD i false) (m_way_of c_back_from)
def m_bead_way (c_need_family c_need_bead c_way_of : Fn) : M Fl := (mSeq (mDo (mCall c_need_family (mCons (mTake 0) mNil) [some 0])) (mSeq (mDo (mCall c_need_bead (mCons (mTake 0) (mCons (mTake 1) mNil)) [some 0, some 1])) (mSeq (mDo (mCall c_need_bead (mCons (mTake 0) (mCons (mTake 2) mNil)) [some 0, some 2])) (mRet (m1 (.e (mCall c_way_of (mCons (mTake 0) (mCons (mTake 1) (mCons (mTake 2) mNil))) [some 0, some 1, some 2])) tupcF)))))
def f_bead_way (c_need_family c_need_bead c_way_of : Fn) : Fn := runD 3 3 (fun i => ([true, true, true] : List Bool).getD i false) (m_bead_way c_need_family c_need_bead c_way_of)
def m_far_of (c_back_from : Fn) : M Fl := (mSeq (mAsg (.t [4, 5]) (mCall c_back_from (mCons (mTake 0) (mCons (mTake 1) mNil)) [some 0, some 1])) (mSeq (mSet 2 (m2 (.e (mLst (mCons (mC (.int 0)) mNil))) (.e (m1 (.v 4) lenF)) mulF)) (mSeq (mFor (mItems (mSl (.v 5) (some (mC (.int 1))) none)) (.n 3) (mStore 2 (mVar 3) (m2 (.e (m2 (.v 2) (.e (m2 (.e (m2 (.v 4) (.v 3) ixF)) (.e (mC (.int 1))) ixF)) ixF)) (.e (mC (.int 1))) addF))) (mRet (mTake 2)))))
def f_far_of (c_back_from : Fn) : Fn := runD 6 2 (fun i => ([true, true] : List Bool).getD i false) (m_far_of c_back_from)
def m_far (c_need_family c_need_bead c_far_of : Fn) : M Fl := (mSeq (mDo (mCall c_need_family (mCons (mTake 0) mNil) [some 0])) (mSeq (mDo (mCall c_need_bead (mCons (mTake 0) (mCons (mTake 1) mNil)) [some 0, some 1])) (mSeq (mDo (mCall c_need_bead (mCons (mTake 0) (mCons (mTake 2) mNil)) [some 0, some 2])) (mRet (m2 (.e (mCall c_far_of (mCons (mTake 0) (mCons (mTake 1) mNil)) [some 0, some 1])) (.v 2) ixF)))))
def f_far (c_need_family c_need_bead c_far_of : Fn) : Fn := runD 3 3 (fun i => ([true, true, true] : List Bool).getD i false) (m_far c_need_family c_need_bead c_far_of)
def m_far_from (c_need_family c_need_bead c_far_of : Fn) : M Fl := (mSeq (mDo (mCall c_need_family (mCons (mTake 0) mNil) [some 0])) (mSeq (mDo (mCall c_need_bead (mCons (mTake 0) (mCons (mTake 1) mNil)) [some 0, some 1])) (mRet (m1 (.e (mCall c_far_of (mCons (mTake 0) (mCons (mTake 1) mNil)) [some 0, some 1])) tupcF))))
def f_far_from (c_need_family c_need_bead c_far_of : Fn) : Fn := runD 2 2 (fun i => ([true, true] : List Bool).getD i false) (m_far_from c_need_family c_need_bead c_far_of)
def m_need_weights (c_size_of c_is_in : Fn) : M Fl := (mSeq (mIf (mOr (mNot (mTru (m1 (.v 1) (isiF .tuple)))) (mB (m2 (.e (m1 (.v 1) lenF)) (.e (mCall c_size_of (mCons (mTake 0) mNil) [some 0])) (cmpF .NotEq)))) (fun _ => none) mNx) (mIf (mNot (mTru (m1 (.e (mLc (mItems (mVar 1)) (.n 3) mYes (mCall c_is_in (mCons (mTake 3) (mCons (mTake 2) (mCons (mC (.int 1000000)) mNil))) [some 3, some 2, none]) [3])) allF))) (fun _ => none) mNx))
def f_need_weights (c_size_of c_is_in : Fn) : Fn := runD 4 3 (fun i => ([true, true, true] : List Bool).getD i false) (m_need_weights c_size_of c_is_in)
def m_weighed_far (c_far_of : Fn) : M Fl := (mRet (m1 (.e (mLc (mZipM (mCons (mVar 1) (mCons (mCall c_far_of (mCons (mTake 0) (mCons (mTake 2) mNil)) [some 0, some 2]) mNil))) (.t [3, 4]) mYes (m2 (.v 3) (.v 4) mulF) [3, 4])) sumF))
def f_weighed_far (c_far_of : Fn) : Fn := runD 5 3 (fun i => ([true, true, true] : List Bool).getD i false) (m_weighed_far c_far_of)
def m_weighed_sums (c_need_family c_need_weights c_size_of c_weighed_far : Fn) : M Fl := (mSeq (mDo (mCall c_need_family (mCons (mTake 0) mNil) [some 0])) (mSeq (mDo (mCall c_need_weights (mCons (mTake 0) (mCons (mTake 1) (mCons (mC (.int 0)) mNil))) [some 0, some 1, none])) (mRet (m1 (.e (mLc (mRg1 (mCall c_size_of (mCons (mTake 0) mNil) [some 0])) (.n 2) mYes (mCall c_weighed_far (mCons (mTake 0) (mCons (mTake 1) (mCons (mTake 2) mNil))) [some 0, some 1, some 2]) [2])) tupcF))))
def f_weighed_sums (c_need_family c_need_weights c_size_of c_weighed_far : Fn) : Fn := runD 3 2 (fun i => ([true, true] : List Bool).getD i false) (m_weighed_sums c_need_family c_need_weights c_size_of c_weighed_far)
def m_best_place (c_weighed_sums : Fn) : M Fl := (mRet (m1 (.e (mLc (mEnum (mCall c_weighed_sums (mCons (mTake 0) (mCons (mTake 1) mNil)) [some 0, some 1])) (.t [2, 3]) mYes (mTup (mCons (mVar 3) (mCons (mVar 2) mNil))) [2, 3])) minTF))
def f_best_place (c_weighed_sums : Fn) : Fn := runD 4 2 (fun i => ([true, true] : List Bool).getD i false) (m_best_place c_weighed_sums)
def m_weighed_pairs (c_need_family c_need_weights c_weighed_sums : Fn) : M Fl := (mSeq (mDo (mCall c_need_family (mCons (mTake 0) mNil) [some 0])) (mSeq (mDo (mCall c_need_weights (mCons (mTake 0) (mCons (mTake 1) (mCons (mC (.int 0)) mNil))) [some 0, some 1, none])) (mRet (m2 (.e (m1 (.e (mLc (mZipM (mCons (mVar 1) (mCons (mCall c_weighed_sums (mCons (mTake 0) (mCons (mTake 1) mNil)) [some 0, some 1]) mNil))) (.t [2, 3]) mYes (m2 (.v 2) (.v 3) mulF) [2, 3])) sumF)) (.e (mC (.int 2))) fdivF))))
def f_weighed_pairs (c_need_family c_need_weights c_weighed_sums : Fn) : Fn := runD 4 2 (fun i => ([true, true] : List Bool).getD i false) (m_weighed_pairs c_need_family c_need_weights c_weighed_sums)
def m__law_tree_far (c__law_size : Fn) : M Fl := (mSeq (mSet 1 (mLst mNil)) (mSeq (mFor (mRg1 (mCall c__law_size (mCons (mTake 0) mNil) [some 0])) (.n 2) (mSeq (mSetP [3, 4] (mCons (mDict1 (mVar 2) (mC (.int 0))) (mCons (mLst (mCons (mVar 2) mNil)) mNil))) (mSeq (mWhile (mB (m2 (.v 4) (.e (mLst mNil)) (cmpF .NotEq))) (mSeq (mSet 5 (mLst mNil)) (mSeq (mFor (mItems (mVar 4)) (.n 6) (mFor (mItems (mVar 0)) (.n 7) (mIf (mB (m2 (.v 6) (.v 7) (cmpF .In))) (mSeq (mSet 5 (m2 (.v 5) (.e (mLc (mItems (mVar 7)) (.n 8) (mB (m2 (.v 8) (.v 3) (cmpF .NotIn))) (mVar 8) [8])) addF)) (mFor (mItems (mVar 7)) (.n 8) (mDo (mSetd 3 (mVar 8) (m2 (.e (m2 (.v 3) (.v 6) ixF)) (.e (mC (.int 1))) addF))))) mNx))) (mSet 4 (mVar 5)))) 100000) (mDo (mApp 1 (mLc (mRg1 (mCall c__law_size (mCons (mTake 0) mNil) [some 0])) (.n 6) mYes (m2 (.v 3) (.v 6) ixF) [6])))))) (mRet (mTake 1))))
def f__law_tree_far (c__law_size : Fn) : Fn := runD 9 1 (fun i => ([true] : List Bool).getD i false) (m__law_tree_far c__law_size)
def m__law_ints : M Fl := (mRet (m2 (.e (mLc (mItems (mVar 0)) (.n 1) (mOr (mNot (mTru (m1 (.v 1) (isiF .int)))) (mTru (m1 (.v 1) (isiF .bool)))) (mVar 1) [1])) (.e (mLst mNil)) (cmpF .Eq)))
def f__law_ints : Fn := runD 2 1 (fun i => ([true] : List Bool).getD i false) (m__law_ints)
end Pl
/-! Ds1: distances in plain Lean -/
namespace Pl
open Va L2 PySem

/-- d tells the distances from a -/
structure IsD (n : Int) (F : List Bag) (a : Int) (d : Int → Nat) : Prop where
  zero : d a = 0
  near : ∀ b ∈ F, ∀ x ∈ b, ∀ y ∈ b, d x ≤ d y + 1
  back : ∀ x, 0 ≤ x → x < n → x ≠ a → ∃ b ∈ F, x ∈ b ∧ ∃ y ∈ b, d x = d y + 1
theorem IsD.le {n a : Int} {F : List Bag} (H : Fam n F) {d e : Int → Nat} (hd : IsD n F a d) (he : IsD n F a e) : ∀ (m : Nat) (x : Int), 0 ≤ x → x < n → d x = m → e x ≤ m := by
  intro m
  induction m with
  | zero =>
    intro x x0 x1 hx
    by_cases h : x = a
    · subst h; rw [he.zero]; omega
    · obtain ⟨b, hb, hxb, y, hy, e1⟩ := hd.back x x0 x1 h
      omega
  | succ m ih =>
    intro x x0 x1 hx
    by_cases h : x = a
    · subst h; rw [he.zero]; omega
    · obtain ⟨b, hb, hxb, y, hy, e1⟩ := hd.back x x0 x1 h
      have hr := H.rng b hb y hy
      have := ih y hr.1 hr.2 (by omega)
      have := he.near b hb x hxb y hy
      omega
theorem IsD.uniq {n a : Int} {F : List Bag} (H : Fam n F) {d e : Int → Nat} (hd : IsD n F a d) (he : IsD n F a e) {x : Int} (x0 : 0 ≤ x) (x1 : x < n) : d x = e x :=
  Nat.le_antisymm (he.le H hd _ x x0 x1 rfl) (hd.le H he _ x x0 x1 rfl)
theorem IsD.tri {n : Int} {F : List Bag} (H : Fam n F) {D : Int → Int → Nat} (hD : ∀ a, 0 ≤ a → a < n → IsD n F a (D a)) {a c : Int} (a0 : 0 ≤ a) (a1 : a < n) (c0 : 0 ≤ c) (c1 : c < n) : ∀ (m : Nat) (x : Int), 0 ≤ x → x < n → D c x = m → D a x ≤ D a c + m := by
  intro m
  induction m with
  | zero =>
    intro x x0 x1 hx
    by_cases h : x = c
    · subst h; omega
    · obtain ⟨b, hb, hxb, y, hy, e1⟩ := (hD c c0 c1).back x x0 x1 h
      omega
  | succ m ih =>
    intro x x0 x1 hx
    by_cases h : x = c
    · subst h; omega
    · obtain ⟨b, hb, hxb, y, hy, e1⟩ := (hD c c0 c1).back x x0 x1 h
      have hr := H.rng b hb y hy
      have := ih y hr.1 hr.2 (by omega)
      have := (hD a a0 a1).near b hb x hxb y hy
      omega
theorem IsD.pos {n a : Int} {F : List Bag} {d : Int → Nat} (hd : IsD n F a d) {x : Int} (x0 : 0 ≤ x) (x1 : x < n) (h : x ≠ a) : 1 ≤ d x := by
  obtain ⟨b, hb, hxb, y, hy, e1⟩ := hd.back x x0 x1 h
  omega
theorem IsD.first {n : Int} {F : List Bag} (H : Fam n F) {D : Int → Int → Nat} (hD : ∀ a, 0 ≤ a → a < n → IsD n F a (D a)) {a : Int} (a0 : 0 ≤ a) (a1 : a < n) : ∀ (m : Nat) (y : Int), 0 ≤ y → y < n → y ≠ a → D a y = m → ∃ b ∈ F, a ∈ b ∧ ∃ z ∈ b, D a y = D z y + 1 := by
  intro m
  induction m with
  | zero =>
    intro y y0 y1 h e
    have := (hD a a0 a1).pos y0 y1 h
    omega
  | succ m ih =>
    intro y y0 y1 h e
    obtain ⟨b, hb, hyb, w, hw, e1⟩ := (hD a a0 a1).back y y0 y1 h
    have hr := H.rng b hb w hw
    by_cases hwa : w = a
    · subst hwa
      exact ⟨b, hb, hw, y, hyb, by rw [(hD y y0 y1).zero, e1, (hD w a0 a1).zero]⟩
    · obtain ⟨c, hc, hac, z, hz, e2⟩ := ih w hr.1 hr.2 hwa (by omega)
      have hzr := H.rng c hc z hz
      refine ⟨c, hc, hac, z, hz, ?_⟩
      have h1 := (hD z hzr.1 hzr.2).near b hb y hyb w hw
      have h2 := IsD.tri H hD a0 a1 hzr.1 hzr.2 (D z y) y y0 y1 rfl
      have h3 := (hD a a0 a1).near c hc z hz a hac
      rw [(hD a a0 a1).zero] at h3
      omega
theorem IsD.symm {n : Int} {F : List Bag} (H : Fam n F) {D : Int → Int → Nat} (hD : ∀ a, 0 ≤ a → a < n → IsD n F a (D a)) {a c : Int} (a0 : 0 ≤ a) (a1 : a < n) (c0 : 0 ≤ c) (c1 : c < n) : D a c = D c a := by
  have key : ∀ y, 0 ≤ y → y < n → IsD n F y (fun x => if 0 ≤ x ∧ x < n then D x y else D y x) := fun y y0 y1 => ⟨by rw [if_pos ⟨y0, y1⟩]; exact (hD y y0 y1).zero, fun b hb x hx z hz => by
    have hx' := H.rng b hb x hx
    have hz' := H.rng b hb z hz
    rw [if_pos hx', if_pos hz']
    have h2 := IsD.tri H hD hx'.1 hx'.2 hz'.1 hz'.2 (D z y) y y0 y1 rfl
    have h3 := (hD x hx'.1 hx'.2).near b hb z hz x hx
    rw [(hD x hx'.1 hx'.2).zero] at h3
    omega, fun x x0 x1 h => by
    obtain ⟨b, hb, hxb, z, hz, e⟩ := IsD.first H hD x0 x1 (D x y) y y0 y1 (fun q => h q.symm) rfl
    have hz' := H.rng b hb z hz
    refine ⟨b, hb, hxb, z, hz, ?_⟩
    rw [if_pos ⟨x0, x1⟩, if_pos hz']
    exact e⟩
  have := (key c c0 c1).uniq H (hD c c0 c1) a0 a1
  rwa [if_pos ⟨a0, a1⟩] at this

theorem nodup_cover : ∀ {T L : List Int}, T.Nodup → (∀ x ∈ T, x ∈ L) → L.length ≤ T.length → L.Nodup
  | [], L, _, _, h => by
    have : L = [] := List.length_eq_zero_iff.mp (by simpa using h)
    subst this; exact .nil
  | x :: T, L, nd, hs, h => by
    have hx := hs x (List.mem_cons_self ..)
    have nd' := List.nodup_cons.mp nd
    have hsub : ∀ y ∈ T, y ∈ L.erase x := fun y hy => (List.mem_erase_of_ne (show y ≠ x from fun e => nd'.1 (by rw [← e]; exact hy))).mpr (hs y (List.mem_cons_of_mem _ hy))
    have hp := List.perm_cons_erase hx
    have hl := hp.length_eq
    simp only [List.length_cons] at hl h
    have ih := nodup_cover nd'.2 hsub (by omega)
    have hnx : x ∉ L.erase x := fun hm => by
      have := nodup_sub nd (S := L.erase x) fun y hy => by
        rcases List.mem_cons.mp hy with rfl | hy
        · exact hm
        · exact hsub y hy
      simp only [List.length_cons] at this
      omega
    exact hp.nodup_iff.mpr (List.nodup_cons.mpr ⟨hnx, ih⟩)
theorem sum_sub (w : Int → Int) (hw : ∀ x, 0 ≤ w x) : ∀ {S T : List Int}, S.Nodup → (∀ x ∈ S, x ∈ T) → (S.map w).sum ≤ (T.map w).sum
  | [], T, _, _ => by
    induction T with
    | nil => simp
    | cons t T ih =>
      have := hw t
      simp only [List.map_cons, List.sum_cons, List.map_nil, List.sum_nil] at ih ⊢
      have := ih (fun x hx => by simp at hx)
      omega
  | x :: S, T, nd, hs => by
    have hx := hs x (List.mem_cons_self ..)
    have nd' := List.nodup_cons.mp nd
    have hp := List.perm_cons_erase hx
    have e := perm_sum (hp.map w)
    have := sum_sub w hw nd'.2 (T := T.erase x) fun y hy => (List.mem_erase_of_ne (show y ≠ x from fun e => nd'.1 (by rw [← e]; exact hy))).mpr (hs y (List.mem_cons_of_mem _ hy))
    simp only [List.map_cons, List.sum_cons] at e ⊢
    omega
def bagAt (F : List Bag) (k : Int) : Bag := F[k.toNat]?.getD []
theorem bagAt_nat {F : List Bag} {k : Nat} {b : Bag} (h : F[k]? = some b) : bagAt F (k : Int) = b := by
  unfold bagAt
  rw [Int.toNat_natCast, h]; rfl
theorem sum_bags (F : List Bag) (f : Bag → Int) : ((iot F.length).map fun k => f (bagAt F k)).sum = (F.map f).sum := by
  congr 1
  apply List.ext_getElem
  · simp [iot_len]
  · intro i h1 h2
    simp only [List.getElem_map]
    congr 1
    have hi : i < F.length := by simpa using h2
    have : (iot (F.length : Int))[i]? = some (i : Int) := iot_get (by simp; omega)
    have e : (iot (F.length : Int))[i]'(by simpa using h1) = (i : Int) := by
      rw [List.getElem?_eq_getElem (by simpa using h1)] at this
      exact Option.some.inj this
    rw [e]
    exact bagAt_nat (List.getElem?_eq_getElem hi)

/-- the line from a: L the beads in turn, E who led to whom, S the bags seen, g the notes -/
structure Bk (n : Int) (F : List Bag) (a : Int) (L : List Int) (E : List (Int × Int × Int)) (S : List Int) (g : Int → Option (Int × Int)) : Prop where
  hL : L = a :: E.map (·.1)
  hE : ∀ e ∈ E, ∃ b, b ∈ F ∧ bagAt F e.2.1 = b ∧ 0 ≤ e.2.1 ∧ e.2.1 < F.length ∧ e.1 ∈ b ∧ e.2.2 ∈ b ∧ e.1 ≠ e.2.2
  hO : ∀ j e, E[j]? = some e → e.2.2 ∈ L.take (j + 1)
  nd : S.Nodup
  rng : ∀ k ∈ S, 0 ≤ k ∧ k < F.length
  cnt : (L.length : Int) = 1 + (S.map fun k => ((bagAt F k).length : Int) - 1).sum
  bag : ∀ k ∈ S, ∃ p ∈ bagAt F k, p ∈ L ∧ ∀ x ∈ bagAt F k, x ≠ p → (x, k, p) ∈ E
  not : L.Nodup → ∀ e ∈ E, g e.1 = some e.2
section
variable {n a : Int} {F : List Bag} {L : List Int} {E : List (Int × Int × Int)} {S : List Int} {g : Int → Option (Int × Int)}
theorem bagAt_mem {k : Int} (h0 : 0 ≤ k) (h1 : k < F.length) : bagAt F k ∈ F := by
  have hk : k.toNat < F.length := by omega
  unfold bagAt
  rw [List.getElem?_eq_getElem hk]
  exact List.getElem_mem hk
theorem wt_pos (H : Fam n F) (k : Int) : True := trivial
theorem Bk.len_le (H : Fam n F) (B : Bk n F a L E S g) : (L.length : Int) ≤ n := by
  have h := sum_sub (fun k => max 0 (((bagAt F k).length : Int) - 1)) (fun x => by omega) B.nd (T := iot F.length) fun k hk => iot_mem.mpr (by have := B.rng k hk; omega)
  have e1 : (S.map fun k => max 0 (((bagAt F k).length : Int) - 1)) = S.map fun k => ((bagAt F k).length : Int) - 1 := List.map_congr_left fun k hk => by
    have := B.rng k hk
    have := H.len _ (bagAt_mem this.1 this.2)
    omega
  have e2 := sum_bags F fun b => max 0 ((b.length : Int) - 1)
  have e3 : (F.map fun b => max 0 ((b.length : Int) - 1)) = F.map fun b => (b.length : Int) - 1 := List.map_congr_left fun b hb => by
    have := H.len _ hb
    omega
  rw [e1, e2, e3, H.cnt] at h
  have := B.cnt
  omega
theorem Bk.cover (H : Fam n F) (a0 : 0 ≤ a) (a1 : a < n) (B : Bk n F a L E S g) {i : Nat} (hi : L.length ≤ i) (hp : ∀ j, j < i → ∀ x, L[j]? = some x → ∀ k ∈ hms F x, k ∈ S) : ∀ x, 0 ≤ x → x < n → x ∈ L := by
  refine H.con (fun x => x ∈ L) ⟨a, a0, a1, by rw [B.hL]; simp⟩ fun b hb x hx y hy hxL => ?_
  obtain ⟨k, hk⟩ := List.mem_iff_getElem?.mp hb
  obtain ⟨j, hj⟩ := List.mem_iff_getElem?.mp hxL
  have hjl := (List.getElem?_eq_some_iff.mp hj).1
  have hkS := hp j (by omega) x hj k (hms_mem.mpr ⟨k, b, rfl, hk, hx⟩)
  obtain ⟨p, hpb, hpL, hall⟩ := B.bag k hkS
  rw [bagAt_nat hk] at hpb hall
  by_cases h : y = p
  · subst h; exact hpL
  · have := hall y hy h
    rw [B.hL]
    exact List.mem_cons_of_mem _ (List.mem_map.mpr ⟨_, this, rfl⟩)
/-- what back_from tells at its end -/
structure Bck (n : Int) (F : List Bag) (a : Int) (L : List Int) (E : List (Int × Int × Int)) (g : Int → Option (Int × Int)) : Prop where
  hL : L = a :: E.map (·.1)
  nd : L.Nodup
  len : (L.length : Int) = n
  mem : ∀ x, x ∈ L ↔ 0 ≤ x ∧ x < n
  hE : ∀ e ∈ E, bagAt F e.2.1 ∈ F ∧ 0 ≤ e.2.1 ∧ e.2.1 < F.length ∧ e.1 ∈ bagAt F e.2.1 ∧ e.2.2 ∈ bagAt F e.2.1 ∧ e.1 ≠ e.2.2
  hO : ∀ j e, E[j]? = some e → e.2.2 ∈ L.take (j + 1)
  bag : ∀ k : Int, 0 ≤ k → k < F.length → ∃ p ∈ bagAt F k, ∀ x ∈ bagAt F k, x ≠ p → (x, k, p) ∈ E
  not : ∀ e ∈ E, g e.1 = some e.2
theorem Bk.done (H : Fam n F) (a0 : 0 ≤ a) (a1 : a < n) (B : Bk n F a L E S g) (hp : ∀ j, j < n.toNat → ∀ x, L[j]? = some x → ∀ k ∈ hms F x, k ∈ S) : Bck n F a L E g := by
  have h1 := B.len_le H
  have hc := B.cover H a0 a1 (i := n.toNat) (by omega) hp
  have h2 : (iot n).length ≤ L.length := nodup_sub (iot_nodup n) fun x hx => hc x (iot_mem.mp hx).1 (iot_mem.mp hx).2
  rw [iot_len] at h2
  have hnd : L.Nodup := nodup_cover (iot_nodup n) (fun x hx => hc x (iot_mem.mp hx).1 (iot_mem.mp hx).2) (by rw [iot_len]; omega)
  have hsub : ∀ x ∈ L, 0 ≤ x ∧ x < n := fun x hx => by
    rw [B.hL] at hx
    rcases List.mem_cons.mp hx with rfl | hx
    · exact ⟨a0, a1⟩
    · obtain ⟨e, he, rfl⟩ := List.mem_map.mp hx
      obtain ⟨b, hb, _, _, _, hxb, _⟩ := B.hE e he
      exact H.rng b hb _ hxb
  refine ⟨B.hL, hnd, by omega, fun x => ⟨hsub x, fun h => hc x h.1 h.2⟩, fun e he => ?_, B.hO, fun k k0 k1 => ?_, B.not hnd⟩
  · obtain ⟨b, hb, rfl, h⟩ := B.hE e he
    exact ⟨hb, h⟩
  · have hbF := bagAt_mem k0 k1
    obtain ⟨x, hx⟩ : ∃ x, x ∈ bagAt F k := List.exists_mem_of_length_pos (by have := H.len _ hbF; omega)
    have hr := H.rng _ hbF x hx
    obtain ⟨j, hj⟩ := List.mem_iff_getElem?.mp (hc x hr.1 hr.2)
    have hjl := (List.getElem?_eq_some_iff.mp hj).1
    have hkS := hp j (by omega) x hj k (hms_mem.mpr ⟨k.toNat, bagAt F k, by omega, by unfold bagAt; rw [List.getElem?_eq_getElem (by omega)]; rfl, hx⟩)
    obtain ⟨p, hpb, hpL, hall⟩ := B.bag k hkS
    exact ⟨p, hpb, hall⟩
theorem Bck.isD (H : Fam n F) (B : Bck n F a L E g) {d : Int → Nat} (hz : d a = 0) (hd : ∀ e ∈ E, d e.1 = d e.2.2 + 1) : IsD n F a d := by
  refine ⟨hz, fun b hb x hx y hy => ?_, fun x x0 x1 h => ?_⟩
  · obtain ⟨k, hk⟩ := List.mem_iff_getElem?.mp hb
    have hkl := (List.getElem?_eq_some_iff.mp hk).1
    obtain ⟨p, hpb, hall⟩ := B.bag k (by omega) (by omega)
    rw [bagAt_nat hk] at hall
    by_cases h1 : x = p
    · by_cases h2 : y = p
      · rw [h1, h2]; omega
      · have := hd _ (hall y hy h2)
        dsimp only at this
        rw [h1]; omega
    · have e1 := hd _ (hall x hx h1)
      dsimp only at e1
      by_cases h2 : y = p
      · rw [h2]; omega
      · have := hd _ (hall y hy h2)
        dsimp only at this
        omega
  · have hx := (B.mem x).mpr ⟨x0, x1⟩
    rw [B.hL] at hx
    rcases List.mem_cons.mp hx with rfl | hx
    · exact absurd rfl h
    · obtain ⟨e, he, rfl⟩ := List.mem_map.mp hx
      obtain ⟨h1, _, _, h2, h3, _⟩ := B.hE e he
      exact ⟨_, h1, h2, e.2.2, h3, hd e he⟩
end
end Pl
/-! Ds2: back_from -/
namespace Pl
open Va L2 PySem

def bD : Option (Int × Int) → D
  | none => .non
  | some (k, p) => .tup [.int k, .int p]
@[simp] theorem imm_bD (x : Option (Int × Int)) : imm (bD x) = true := by cases x <;> rfl
@[simp] theorem frz_bD (x : Option (Int × Int)) : frz (bD x) = bD x := by cases x <;> rfl
def gl (o : Bool) (n : Int) (g : Int → Option (Int × Int)) : D := .lst o ((iot n).map fun x => bD (g x))
@[simp] theorem imm_gl (o : Bool) (n : Int) (g) : imm (gl o n g) = !o := rfl
theorem frz_gl (n : Int) (g) : frz (gl true n g) = gl false n g := by
  unfold gl
  rw [frz_lst]
  congr 1
  induction iot n with
  | nil => simp [frzL]
  | cons x l ih => rw [List.map_cons, frzL, ih, frz_bD]
theorem ix_gl {o : Bool} {n x : Int} {g} (x0 : 0 ≤ x) (x1 : x < n) : ixF (gl o n g) (.int x) = some (bD (g x)) := by
  show immO (atI ((iot n).map fun x => bD (g x)) x) = _
  rw [atI_ok x0 (by rw [List.length_map, iot_len]; omega), List.getElem?_map, iot_get (by omega), show ((x.toNat : Nat) : Int) = x by omega]
  show (match imm (bD (g x)) with | true => some (bD (g x)) | false => none) = _
  rw [imm_bD]
theorem len_gl {o : Bool} {n : Int} {g} (h : 0 ≤ n) : lenF (gl o n g) = some (.int n) := by
  show some (D.int (((iot n).map fun j => bD (g j)).length : Int)) = _
  rw [List.length_map, iot_len, show ((n.toNat : Nat) : Int) = n by omega]
theorem nones {n : Int} (h0 : 0 ≤ n) (h1 : n ≤ 1000) : mulF (.lst true [.non]) (.int n) = some (gl true n fun _ => none) := by
  show (if _ then _ else _) = _
  rw [if_pos ⟨rfl, small_of (by omega) (by omega), by rw [LN_eq']; simp; omega⟩]
  unfold gl iot
  rw [List.map_map]
  congr 2
  have : ∀ k : Nat, (List.replicate k [D.non]).flatten = (List.range k).map fun _ => D.non := fun k => by
    induction k with
    | zero => rfl
    | succ k ih => rw [List.replicate_succ', List.range_succ, List.flatten_append, List.map_append, ih]; rfl
  rw [this]
  rfl
theorem set_gl {i : Nat} {s : Va.S} {n x : Int} {g : Int → Option (Int × Int)} {v : Option (Int × Int)} (x0 : 0 ≤ x) (x1 : x < n) (h0 : s[i]? = some (some (gl true n g))) : storeAt i (.int x) (bD v) s = some (s.set i (some (gl true n fun j => if j = x then v else g j))) := by
  have e1 : ixN ((iot n).map fun j => bD (g j)).length x = some x.toNat := by
    unfold ixN
    rw [List.length_map, iot_len, if_pos x0, if_pos (by omega)]
  have e3 : ((iot n).map fun j => bD (g j)).set x.toNat (bD v) = (iot n).map fun j => bD (if j = x then v else g j) := by
    rw [iot_set x0 x1]
    refine List.map_congr_left fun j _ => ?_
    by_cases e : j = x
    · subst e; simp
    · simp [e]
  unfold storeAt
  rw [h0]
  unfold gl
  dsimp only
  rw [e1]
  dsimp only
  rw [e3]
def stB (F : List Bag) (n a : Int) (g : Int → Option (Int × Int)) (L S : List Int) (x2 x7 x8 x9 : Option D) : Va.S := [some (famD F), some (.int a), x2, some (homesL false n (hms F)), some (gl true n g), some (.lst true (intsD L)), some (.dic true (kset S)), x7, x8, x9]
/-- the beads of one bag -/
theorem back_bag {n a p k : Int} {F : List Bag} (H : Fam n F) {b : Bag} (hb : b ∈ F) {g : Int → Option (Int × Int)} {L S : List Int} (hL : L.length ≤ 1000) {x2 x9 : Option D} : ∃ x9', forL (.n 9) (mIf (mB (m2 (.v 9) (.v 7) (cmpF .NotEq))) (mSeq (mStore 4 (mVar 9) (mTup (mCons (mVar 8) (mCons (mVar 7) mNil)))) (mDo (mApp 5 (mVar 9)))) mNx) (intsD b) (stB F n a g L S x2 (some (.int p)) (some (.int k)) x9) = some (.nx, stB F n a (fun x => if x ∈ b.filter (fun x => decide (x ≠ p)) then some (k, p) else g x) (L ++ b.filter fun x => decide (x ≠ p)) S x2 (some (.int p)) (some (.int k)) x9') := by
  have hbl := H.bag_le b hb
  have h60 := H.n60
  obtain ⟨st', e, x9', rfl⟩ := forL_idx (t := .n 9) (b := (mIf (mB (m2 (.v 9) (.v 7) (cmpF .NotEq))) (mSeq (mStore 4 (mVar 9) (mTup (mCons (mVar 8) (mCons (mVar 7) mNil)))) (mDo (mApp 5 (mVar 9)))) mNx)) D.int (fun j st => ∃ x9, st = stB F n a (fun x => if x ∈ (b.take j).filter (fun x => decide (x ≠ p)) then some (k, p) else g x) (L ++ (b.take j).filter fun x => decide (x ≠ p)) S x2 (some (.int p)) (some (.int k)) x9) (l := b) (st := stB F n a g L S x2 (some (.int p)) (some (.int k)) x9) ⟨x9, by simp⟩ fun j hj st ⟨y9, hst⟩ => by
    subst hst
    have hx := H.rng b hb _ (List.getElem_mem hj)
    have htk : b.take (j + 1) = b.take j ++ [b[j]] := List.take_succ_eq_append_getElem hj
    have hfl : ((b.take j).filter fun x => decide (x ≠ p)).length ≤ 60 := by
      have := List.length_filter_le (fun x => decide (x ≠ p)) (b.take j)
      rw [List.length_take] at this
      omega
    have hlen : (L ++ (b.take j).filter fun x => decide (x ≠ p)).length < 16777216 := by
      rw [List.length_append]; omega
    rw [htk, List.filter_append]
    generalize b[j] = x at *
    by_cases h : x = p
    · subst h
      refine ⟨_, stB F n a (fun y => if y ∈ (b.take j).filter (fun y => decide (y ≠ x)) then some (k, x) else g y) (L ++ (b.take j).filter fun y => decide (y ≠ x)) S x2 (some (.int x)) (some (.int k)) (some (.int x)), rfl, ?_, some (.int x), by simp⟩
      simp [stB, neI]
    · have hq : necF (.int x) (.int p) = some (.bl true) := by simp [h]
      have hs := set_gl (i := 4) (s := stB F n a (fun x => if x ∈ (b.take j).filter (fun x => decide (x ≠ p)) then some (k, p) else g x) (L ++ (b.take j).filter fun x => decide (x ≠ p)) S x2 (some (.int p)) (some (.int k)) (some (.int x))) (g := fun x => if x ∈ (b.take j).filter (fun x => decide (x ≠ p)) then some (k, p) else g x) (v := some (k, p)) hx.1 hx.2 rfl
      have hg : (fun j_1 => if j_1 = x then some (k, p) else if j_1 ∈ (b.take j).filter (fun x => decide (x ≠ p)) then some (k, p) else g j_1) = fun y => if y ∈ (b.take j).filter (fun x => decide (x ≠ p)) ++ [x].filter (fun x => decide (x ≠ p)) then some (k, p) else g y := by
        funext y
        by_cases h1 : y = x
        · subst h1
          simp [h]
        · simp [h1, h]
      rw [hg] at hs
      generalize (fun x => if x ∈ (b.take j).filter (fun x => decide (x ≠ p)) then some (k, p) else g x) = g1 at *
      have e1 : [x].filter (fun x => decide (x ≠ p)) = [x] := by simp [h]
      rw [e1] at hs ⊢
      generalize ((b.take j).filter fun x => decide (x ≠ p)) = W at *
      have hb0 : Nat.blt (L ++ W).length LN = true := blt_ok hlen
      refine ⟨_, stB F n a (fun y => if y ∈ W ++ [x] then some (k, p) else g y) (L ++ (W ++ [x])) S x2 (some (.int p)) (some (.int k)) (some (.int x)), rfl, ?_, some (.int x), rfl⟩
      have hs' : storeAt 4 (.int x) (D.tup [.int k, .int p]) (stB F n a g1 (L ++ W) S x2 (some (.int p)) (some (.int k)) (some (.int x))) = _ := hs
      simp only [stB] at hs'
      simp only [← List.append_assoc]
      generalize L ++ W = V at *
      simp [-ev_storeAt, stB, hq, hs', hb0]
  rw [List.take_length] at e
  exact ⟨x9', e⟩
end Pl
/-! Ds3: back_from, its loops -/
namespace Pl
open Va L2 PySem

section
variable {n a : Int} {F : List Bag} {L : List Int} {E : List (Int × Int × Int)} {S : List Int} {g : Int → Option (Int × Int)}
theorem rest_len {b : Bag} (nd : b.Nodup) {p : Int} (h : p ∈ b) : (b.filter fun x => decide (x ≠ p)).length + 1 = b.length := by
  have := nsum_rest (fun _ => 1) nd h
  rw [nsum_one, nsum_one] at this
  omega
theorem Bk.add (H : Fam n F) (B : Bk n F a L E S g) {k p : Int} (hk : k ∉ S) (k0 : 0 ≤ k) (k1 : k < F.length) (hp : p ∈ bagAt F k) (hpL : p ∈ L) :
    Bk n F a (L ++ (bagAt F k).filter fun x => decide (x ≠ p)) (E ++ ((bagAt F k).filter fun x => decide (x ≠ p)).map fun x => (x, k, p)) (S ++ [k]) (fun x => if x ∈ (bagAt F k).filter (fun x => decide (x ≠ p)) then some (k, p) else g x) := by
  have hbF := bagAt_mem k0 k1
  have hW : ∀ x, x ∈ (bagAt F k).filter (fun x => decide (x ≠ p)) ↔ x ∈ bagAt F k ∧ x ≠ p := fun x => by simp
  have hlen := rest_len (H.nd _ hbF) hp
  have hLl : L.length = E.length + 1 := by rw [B.hL]; simp
  generalize (bagAt F k).filter (fun x => decide (x ≠ p)) = W at *
  refine ⟨?_, fun e he => ?_, fun j e hj => ?_, ?_, fun i hi => ?_, ?_, fun i hi => ?_, fun nd e he => ?_⟩
  · rw [List.map_append, List.map_map]
    have : ((fun x : Int × Int × Int => x.1) ∘ fun x => (x, k, p)) = id := rfl
    rw [this, List.map_id]
    conv => lhs; rw [B.hL]
    rfl
  · rcases List.mem_append.mp he with he | he
    · exact B.hE e he
    · obtain ⟨x, hx, rfl⟩ := List.mem_map.mp he
      obtain ⟨h1, h2⟩ := (hW x).mp hx
      exact ⟨_, hbF, rfl, k0, k1, h1, hp, h2⟩
  · by_cases hjl : j < E.length
    · rw [List.getElem?_append_left hjl] at hj
      have := B.hO j e hj
      rw [List.take_append_of_le_length (by omega)]
      exact this
    · rw [List.getElem?_append_right (by omega)] at hj
      obtain ⟨x, _, rfl⟩ := List.mem_map.mp (List.mem_of_getElem? hj)
      rw [List.take_append]
      exact List.mem_append_left _ (by rw [List.take_of_length_le (by omega)]; exact hpL)
  · exact List.nodup_append.mpr ⟨B.nd, by simp, fun x hx y hy e => by simp at hy; subst hy e; exact hk hx⟩
  · rcases List.mem_append.mp hi with hi | hi
    · exact B.rng i hi
    · simp at hi; subst hi; exact ⟨k0, k1⟩
  · rw [List.length_append, List.map_append, List.sum_append]
    have := B.cnt
    simp only [List.map_cons, List.map_nil, List.sum_cons, List.sum_nil]
    omega
  · rcases List.mem_append.mp hi with hi | hi
    · obtain ⟨q, h1, h2, h3⟩ := B.bag i hi
      exact ⟨q, h1, List.mem_append_left _ h2, fun x hx hq => List.mem_append_left _ (h3 x hx hq)⟩
    · simp at hi; subst hi
      exact ⟨p, hp, List.mem_append_left _ hpL, fun x hx hq => List.mem_append_right _ (List.mem_map.mpr ⟨x, (hW x).mpr ⟨hx, hq⟩, rfl⟩)⟩
  · have nd' := List.nodup_append.mp nd
    rcases List.mem_append.mp he with he | he
    · have heL : e.1 ∈ L := by rw [B.hL]; exact List.mem_cons_of_mem _ (List.mem_map.mpr ⟨e, he, rfl⟩)
      show (if e.1 ∈ W then _ else _) = _
      rw [if_neg fun hw => nd'.2.2 e.1 heL e.1 hw rfl]
      exact B.not nd'.1 e he
    · obtain ⟨x, hx, rfl⟩ := List.mem_map.mp he
      show (if x ∈ W then _ else _) = _
      rw [if_pos hx]
theorem Bk.S_le (B : Bk n F a L E S g) : S.length ≤ F.length := by
  have := nodup_sub B.nd (S := iot F.length) fun k hk => iot_mem.mpr (by have := B.rng k hk; omega)
  rwa [iot_len, Int.toNat_natCast] at this
end
def bInner : M Fl := (mIf (mB (m2 (.v 8) (.v 6) (cmpF .NotIn))) (mSeq (mStore 6 (mVar 8) (mC (.bl true))) (mFor (mItems (m2 (.v 0) (.v 8) ixF)) (.n 9) (mIf (mB (m2 (.v 9) (.v 7) (cmpF .NotEq))) (mSeq (mStore 4 (mVar 9) (mTup (mCons (mVar 8) (mCons (mVar 7) mNil)))) (mDo (mApp 5 (mVar 9)))) mNx))) mNx)
theorem back_homes {n a p : Int} {F : List Bag} (H : Fam n F) {L : List Int} {E : List (Int × Int × Int)} {S : List Int} {g : Int → Option (Int × Int)} (B : Bk n F a L E S g) (hpL : p ∈ L) {x2 x8 x9 : Option D} :
    ∃ W E' S' g' x8' x9', forL (.n 8) bInner (intsD (hms F p)) (stB F n a g L S x2 (some (.int p)) x8 x9) = some (.nx, stB F n a g' (L ++ W) S' x2 (some (.int p)) x8' x9') ∧ Bk n F a (L ++ W) E' S' g' ∧ (∀ k ∈ S, k ∈ S') ∧ ∀ k ∈ hms F p, k ∈ S' := by
  have hl := H.len_le
  have h60 := H.n60
  obtain ⟨st', e, W, E', S', g', x8', x9', rfl, B', h1, h2⟩ := forL_idx (t := .n 8) (b := bInner) D.int (fun j st => ∃ W E' S' g' x8' x9', st = stB F n a g' (L ++ W) S' x2 (some (.int p)) x8' x9' ∧ Bk n F a (L ++ W) E' S' g' ∧ (∀ k ∈ S, k ∈ S') ∧ ∀ k ∈ (hms F p).take j, k ∈ S') (l := hms F p) (st := stB F n a g L S x2 (some (.int p)) x8 x9)
    ⟨[], E, S, g, x8, x9, by rw [List.append_nil], by rw [List.append_nil]; exact B, fun _ h => h, by simp⟩ fun j hj st ⟨W, E', S', g', y8, y9, hst, B', h1, h2⟩ => by
    subst hst
    have hkm := List.getElem_mem hj
    have htk : (hms F p).take (j + 1) = (hms F p).take j ++ [(hms F p)[j]] := List.take_succ_eq_append_getElem hj
    rw [htk]
    generalize (hms F p)[j] = k at *
    obtain ⟨kk, b, rfl, hkb, hpb⟩ := hms_mem.mp hkm
    have hbF := List.mem_of_getElem? hkb
    have hkl := (List.getElem?_eq_some_iff.mp hkb).1
    have hbA := bagAt_nat hkb
    by_cases hin : (kk : Int) ∈ S'
    · refine ⟨_, stB F n a g' (L ++ W) S' x2 (some (.int p)) (some (.int kk)) y9, rfl, ?_, W, E', S', g', some (.int kk), y9, rfl, B', h1, fun i hi => ?_⟩
      · simp [bInner, stB, hin]
      · rcases List.mem_append.mp hi with hi | hi
        · exact h2 i hi
        · simp at hi; subst hi; exact hin
    · have B2 := B'.add H hin (by omega) (by omega) (p := p) (by rw [hbA]; exact hpb) (List.mem_append_left _ hpL)
      rw [hbA] at B2
      have hLl := B'.len_le H
      obtain ⟨z9, e9⟩ := back_bag (a := a) (p := p) (k := kk) H hbF (g := g') (L := L ++ W) (S := S' ++ [(kk : Int)]) (by omega) (x2 := x2) (x9 := y9)
      have hb1 : Nat.blt S'.length LN = true := blt_ok (by have := B'.S_le; omega)
      have hix := ix_fam (F := F) (i := (kk : Int)) (k := kk) rfl hkb
      refine ⟨_, stB F n a _ ((L ++ W) ++ b.filter fun x => decide (x ≠ p)) (S' ++ [(kk : Int)]) x2 (some (.int p)) (some (.int kk)) z9, rfl, ?_, W ++ b.filter (fun x => decide (x ≠ p)), _, S' ++ [(kk : Int)], _, some (.int kk), z9, by rw [← List.append_assoc], by rw [← List.append_assoc]; exact B2, fun i hi => List.mem_append_left _ (h1 i hi), fun i hi => ?_⟩
      · simp only [stB] at e9 ⊢
        generalize intsD (L ++ W) = V1 at *
        generalize intsD ((L ++ W) ++ b.filter fun x => decide (x ≠ p)) = V2 at *
        generalize gl true n (fun x => if x ∈ b.filter (fun x => decide (x ≠ p)) then some ((kk : Int), p) else g' x) = G2 at *
        simp [bInner, hin, put_kset hin, hb1, mItems, hix, e9]
      · rcases List.mem_append.mp hi with hi | hi
        · exact List.mem_append_left _ (h2 i hi)
        · exact List.mem_append_right _ hi
  rw [List.take_length] at h2
  exact ⟨W, E', S', g', x8', x9', e, B', h1, h2⟩
def SpBack (f : Fn) : Prop := ∀ {n a : Int} {F : List Bag}, Fam n F → 0 ≤ a → a < n → ∃ L E g, Bck n F a L E g ∧ f [famD F, .int a] = some (.tup [gl false n g, .lst false (intsD L)], [some (famD F), some (.int a)])
theorem back_sp {cs ch : Fn} (hs : SpSize cs) (hh : SpHomes ch) : SpBack (f_back_from cs ch) := fun {n a F} H a0 a1 => by
  have h60 := H.n60
  have h2 := H.n2
  have e1 := hs H
  have e2 := hh H
  have e3 := nones (n := n) (by omega) (by omega)
  have hsn := small_of (i := n) (by omega) (by omega)
  have B0 : Bk n F a [a] [] [] (fun _ => none) := ⟨rfl, fun e he => by simp at he, fun j e he => by simp at he, .nil, fun k hk => by simp at hk, by simp, fun k hk => by simp at hk, fun _ e he => by simp at he⟩
  -- the homes are frozen at the first turn
  have key : ∀ o : Bool, ∃ st', forL (.n 2) (mSeq (mSet 7 (m2 (.v 5) (.v 2) ixF)) (mFor (mItems (m2 (.e (mVar 3)) (.v 7) ixF)) (.n 8) bInner)) (intsD (iot n)) ([some (famD F), some (.int a), none, some (homesL true n (hms F)), some (gl true n fun _ => none), some (.lst true (intsD [a])), some (.dic true (kset [])), none, none, none]) = some (.nx, st') ∧ ∃ L E S g x2 x7 x8 x9, st' = stB F n a g L S x2 x7 x8 x9 ∧ Bk n F a L E S g ∧ ∀ j, j < n.toNat → ∀ x, L[j]? = some x → ∀ k ∈ hms F x, k ∈ S := fun o => by
    obtain ⟨st', e, oo, L, E, S, g, x2, x7, x8, x9, hst, hoo, B, hp⟩ := forL_idx (t := .n 2) (b := (mSeq (mSet 7 (m2 (.v 5) (.v 2) ixF)) (mFor (mItems (m2 (.e (mVar 3)) (.v 7) ixF)) (.n 8) bInner))) D.int (fun i st => ∃ oo L E S g x2 x7 x8 x9, st = (stB F n a g L S x2 x7 x8 x9).set 3 (some (homesL oo n (hms F))) ∧ (0 < i → oo = false) ∧ Bk n F a L E S g ∧ ∀ j, j < i → ∀ x, L[j]? = some x → ∀ k ∈ hms F x, k ∈ S) (l := iot n) (st := [some (famD F), some (.int a), none, some (homesL true n (hms F)), some (gl true n fun _ => none), some (.lst true (intsD [a])), some (.dic true (kset [])), none, none, none])
      ⟨true, [a], [], [], _, none, none, none, none, rfl, fun h => by omega, B0, fun j hj => by omega⟩ fun i hi st ⟨oo, L, E, S, g, y2, y7, y8, y9, hst, hoo, B, hp⟩ => by
      subst hst
      have hin : (i : Int) < n := by rw [iot_len] at hi; omega
      have hii : (iot n)[i] = (i : Int) := by
        have := iot_get (n := n) (i := i) (by rw [iot_len] at hi; omega)
        rw [List.getElem?_eq_getElem hi] at this
        exact Option.some.inj this
      rw [hii]
      have hiL : i < L.length := by
        refine Nat.lt_of_not_le fun hle => ?_
        have hc := B.cover H a0 a1 hle hp
        have h3 : (iot n).length ≤ L.length := nodup_sub (iot_nodup n) fun x hx => hc x (iot_mem.mp hx).1 (iot_mem.mp hx).2
        rw [iot_len] at h3
        omega
      obtain ⟨p, hpi⟩ : ∃ p, L[i]? = some p := ⟨_, List.getElem?_eq_getElem hiL⟩
      have hpL := List.mem_of_getElem? hpi
      have hpr : 0 ≤ p ∧ p < n := by
        rw [B.hL] at hpL
        rcases List.mem_cons.mp hpL with rfl | hx
        · exact ⟨a0, a1⟩
        · obtain ⟨e, he, rfl⟩ := List.mem_map.mp hx
          obtain ⟨b, hb, _, _, _, hxb, _⟩ := B.hE e he
          exact H.rng b hb _ hxb
      obtain ⟨W, E', S', g', x8', x9', e1, B', g1, g2⟩ := back_homes H B hpL (x2 := some (.int (i : Int))) (x8 := y8) (x9 := y9)
      have hix1 : ixF (.lst true (intsD L)) (.int (i : Int)) = some (.int p) := by
        show immO (atI (intsD L) (i : Int)) = _
        rw [atI_ok (by omega) (by rw [List.length_map]; omega), Int.toNat_natCast, List.getElem?_map, hpi]
        rfl
      have hix2 := ix_homes (n := n) false (hms F) hpr.1 hpr.2
      have hfz := frz_homesL n (hms F)
      refine ⟨_, stB F n a g' (L ++ W) S' (some (.int (i : Int))) (some (.int p)) x8' x9', rfl, ?_, false, L ++ W, E', S', g', some (.int (i : Int)), some (.int p), x8', x9', rfl, fun _ => rfl, B', fun j hj x hx => ?_⟩
      · simp only [stB] at e1 ⊢
        cases oo
        · simp [hix1, hix2, mItems, lstD, e1]
        · simp [hix1, hix2, hfz, mItems, lstD, e1]
      · rw [List.getElem?_append_left (by omega)] at hx
        by_cases hji : j = i
        · subst hji
          rw [hpi] at hx
          cases hx
          exact g2
        · exact fun k hk => g1 k (hp j (by omega) x hx k hk)
    rw [iot_len] at hp hoo
    have := hoo (by omega)
    subst this
    exact ⟨st', e, L, E, S, g, x2, x7, x8, x9, hst, B, hp⟩
  obtain ⟨st', e, L, E, S, g, x2, x7, x8, x9, rfl, B, hp⟩ := key true
  have hfg := frz_gl n g
  have hfl := frzL_ints L
  have hfa : frzA (gl false n g) = gl false n g := rfl
  refine ⟨L, E, g, B.done H a0 a1 hp, ?_⟩
  unfold f_back_from m_back_from
  show runD _ _ _ _ _ = _
  have e4 : [some (famD F), some (.int a), none, some (homesL true n (hms F)), some (gl true n fun _ => none), some (.lst true (intsD [a])), some (.dic true (kset [])), none, none, none] = ([some (famD F), some (.int a), none, some (homesL true n (hms F)), some (gl true n fun _ => none), some (.lst true [.int a]), some (.dic true []), none, none, none] : Va.S) := rfl
  rw [e4] at e
  simp only [bInner, stB] at e
  simp [-ev_mul, runD, mSetP, mDict0, e1, e2, e3, hsn, rgD0, e, hfg, hfl, hfa]
end Pl
/-! Ds4: far_of -/
namespace Pl
open Va L2 PySem

theorem sl_tail (o : Bool) (x : Int) (l : List Int) : slF (some 1) none (.lst o (intsD (x :: l))) = some (.lst true (intsD l)) := by
  show (match (intsD (x :: l)).all imm with | true => _ | false => _) = _
  rw [all_imm_ints]
  show some (D.lst true (cutD (D.int x :: intsD l) (some 1) none)) = _
  rw [cut1]
  rfl
theorem set_fl {i : Nat} {s : Va.S} {n x : Int} {g : Int → Nat} {v : Nat} (x0 : 0 ≤ x) (x1 : x < n) (h0 : s[i]? = some (some (fl true n g))) : storeAt i (.int x) (.int ((v : Nat) : Int)) s = some (s.set i (some (fl true n fun j => if j = x then v else g j))) := by
  have e1 : ixN ((iot n).map fun j => D.int ((g j : Nat) : Int)).length x = some x.toNat := by
    unfold ixN
    rw [List.length_map, iot_len, if_pos x0, if_pos (by omega)]
  have e3 : ((iot n).map fun j => D.int ((g j : Nat) : Int)).set x.toNat (.int ((v : Nat) : Int)) = (iot n).map fun j => D.int (((if j = x then v else g j) : Nat) : Int) := by
    rw [iot_set x0 x1]
    refine List.map_congr_left fun j _ => ?_
    by_cases e : j = x
    · subst e; simp
    · simp [e]
  unfold storeAt
  rw [h0]
  unfold fl
  dsimp only
  rw [e1]
  dsimp only
  rw [e3]
def SpFar (f : Fn) : Prop := ∀ {n a : Int} {F : List Bag}, Fam n F → 0 ≤ a → a < n → ∃ d, IsD n F a d ∧ f [famD F, .int a] = some (fl true n d, [some (famD F), some (.int a)])
theorem far_sp {cb : Fn} (hb : SpBack cb) : SpFar (f_far_of cb) := fun {n a F} H a0 a1 => by
  have h60 := H.n60
  have h2 := H.n2
  obtain ⟨L, E, g, B, e1⟩ := hb H a0 a1
  have hE1 : ∀ j e, E[j]? = some e → e.1 = L[j + 1]?.getD 0 ∧ L[j + 1]? = some e.1 := fun j e he => by
    have : L[j + 1]? = some e.1 := by rw [B.hL, List.getElem?_cons_succ, List.getElem?_map, he]; rfl
    exact ⟨by rw [this]; rfl, this⟩
  have hnot : ∀ j e, E[j]? = some e → e.1 ∉ L.take (j + 1) := fun j e he hm => by
    have h3 := (hE1 j e he).2
    obtain ⟨i, hi⟩ := List.mem_iff_getElem?.mp hm
    have hil : i < j + 1 := by
      have := (List.getElem?_eq_some_iff.mp hi).1
      rw [List.length_take] at this
      omega
    rw [List.getElem?_take_of_lt hil] at hi
    have h4 := (List.getElem?_eq_some_iff.mp hi).1
    have := (List.getElem?_inj h4 B.nd).mp (hi.trans h3.symm)
    omega
  have hsl := sl_tail false a (E.map (·.1))
  rw [← B.hL] at hsl
  have h0 := zeros (n := n) (by omega) (by omega)
  have hlen := len_gl (o := false) (n := n) (g := g) (by omega)
  obtain ⟨st', e, d, x3, rfl, hz, hd⟩ := forL_idx (t := .n 3) (b := (mStore 2 (mVar 3) (m2 (.e (m2 (.v 2) (.e (m2 (.e (m2 (.v 4) (.v 3) ixF)) (.e (mC (.int 1))) ixF)) ixF)) (.e (mC (.int 1))) addF))) (fun e : Int × Int × Int => D.int e.1) (fun j st => ∃ d x3, st = [some (famD F), some (.int a), some (fl true n d), x3, some (gl false n g), some (.lst false (intsD L))] ∧ d a = 0 ∧ ∀ i, i < j → ∀ e, E[i]? = some e → d e.1 = d e.2.2 + 1) (l := E) (st := [some (famD F), some (.int a), some (fl true n fun _ => 0), none, some (gl false n g), some (.lst false (intsD L))]) ⟨_, none, rfl, rfl, fun i hi => by omega⟩ fun j hj st ⟨d, y3, hst, hz, hd⟩ => by
    subst hst
    have hej : E[j]? = some E[j] := List.getElem?_eq_getElem hj
    have hem := List.getElem_mem hj
    generalize E[j] = e at *
    obtain ⟨hbF, k0, k1, hx, hp, hne⟩ := B.hE e hem
    have hxr := H.rng _ hbF _ hx
    have hpr := H.rng _ hbF _ hp
    have hO := B.hO j e hej
    have hn := hnot j e hej
    have haL : a ∈ L.take (j + 1) := by rw [B.hL]; simp
    have u1 := ix_gl (o := false) (g := g) hxr.1 hxr.2
    rw [B.not e hem] at u1
    have u2 : ixF (bD (some e.2)) (.int 1) = some (.int e.2.2) := rfl
    have u3 := ix_fl (o := true) (g := d) hpr.1 hpr.2
    have u4 := set_fl (i := 2) (s := [some (famD F), some (.int a), some (fl true n d), some (.int e.1), some (gl false n g), some (.lst false (intsD L))]) (g := d) (v := d e.2.2 + 1) hxr.1 hxr.2 rfl
    refine ⟨_, [some (famD F), some (.int a), some (fl true n fun j => if j = e.1 then d e.2.2 + 1 else d j), some (.int e.1), some (gl false n g), some (.lst false (intsD L))], rfl, ?_, _, _, rfl, ?_, fun i hi e' he' => ?_⟩
    · have u5 : addF (.int ((d e.2.2 : Nat) : Int)) (.int 1) = some (.int ((d e.2.2 + 1 : Nat) : Int)) := rfl
      generalize ((d e.2.2 + 1 : Nat) : Int) = z at *
      simp [-ev_storeAt, -ev_add, u1, u2, u3, u5, u4]
    · have : a ≠ e.1 := fun q => hn (q ▸ haL)
      rw [if_neg this]
      exact hz
    · by_cases hij : i = j
      · subst hij
        rw [hej] at he'
        cases he'
        rw [if_pos rfl, if_neg (fun q => hne q.symm)]
      · have hO' := B.hO i e' he'
        have h5 := (hE1 i e' he').2
        have hsub : ∀ y, y ∈ L.take (i + 1) → y ∈ L.take (j + 1) := fun y hy => (List.take_subset_take_left L (by omega)) hy
        have h6 : e'.1 ∈ L.take (j + 1) := by
          refine List.mem_iff_getElem?.mpr ⟨i + 1, ?_⟩
          rw [List.getElem?_take_of_lt (by omega)]
          exact h5
        have n1 : e'.1 ≠ e.1 := fun q => hn (q ▸ h6)
        have n2 : e'.2.2 ≠ e.1 := fun q => hn (q ▸ hsub _ hO')
        rw [if_neg n1, if_neg n2]
        exact hd i (by omega) e' he'
  have hEm : E.map (fun e : Int × Int × Int => D.int e.1) = intsD (E.map (·.1)) := by unfold intsD; rw [List.map_map]; rfl
  rw [hEm] at e
  refine ⟨d, B.isD H hz fun e he => ?_, ?_⟩
  · obtain ⟨j, hj⟩ := List.mem_iff_getElem?.mp he
    exact hd j (List.getElem?_eq_some_iff.mp hj).1 e hj
  · unfold f_far_of m_far_of
    have hfW : frzL (intsD (E.map (·.1))) = intsD (E.map (·.1)) := frzL_ints _
    generalize intsD (E.map (·.1)) = W at *
    generalize intsD L = V at *
    have hia : Va.imm (D.tup [gl false n g, .lst false V]) = true := rfl
    simp [-ev_mul, runD, e1, mAsg, hia, hlen, h0, mItems, hsl, hfW, e]
end Pl
/-! Ds5: _law_tree_far, one level -/
namespace Pl
open Va L2 PySem

def tD (T : List (Int × Nat)) : List (D × D) := T.map fun p => (.int p.1, .int (p.2 : Int))
def tLook : List (Int × Nat) → Int → Option Nat
  | [], _ => none
  | (a, v) :: r, x => if a = x then some v else tLook r x
theorem tD_len (T : List (Int × Nat)) : (tD T).length = T.length := by simp [tD]
theorem td_look (T : List (Int × Nat)) (x : Int) : lookD (tD T) (.int x) = (tLook T x).map fun v => D.int ((v : Nat) : Int) := by
  induction T with
  | nil => rfl
  | cons p T ih =>
    obtain ⟨a, v⟩ := p
    show (match keyEq (.int a) (.int x) with | true => some (D.int (v : Int)) | false => lookD (tD T) (.int x)) = _
    unfold tLook
    by_cases h : a = x
    · subst h
      simp [keyEq]
    · have : keyEq (.int a) (.int x) = false := by simp [keyEq, h]
      rw [this, if_neg h]
      exact ih
theorem td_has (T : List (Int × Nat)) (x : Int) : hasD (tD T) (.int x) = (tLook T x).isSome := by
  induction T with
  | nil => rfl
  | cons p T ih =>
    obtain ⟨a, v⟩ := p
    show (match keyEq (.int a) (.int x) with | true => true | false => hasD (tD T) (.int x)) = _
    unfold tLook
    by_cases h : a = x
    · subst h
      simp [keyEq]
    · have : keyEq (.int a) (.int x) = false := by simp [keyEq, h]
      rw [this, if_neg h]
      exact ih
theorem td_put {T : List (Int × Nat)} {x : Int} {v : Nat} (h : tLook T x = none) : putD (tD T) (.int x) (.int (v : Int)) = tD (T ++ [(x, v)]) := by
  unfold putD
  rw [td_has, h]
  simp [tD]
theorem td_nin (o : Bool) (T : List (Int × Nat)) (x : Int) : ninF (.int x) (.dic o (tD T)) = some (.bl (tLook T x).isNone) := by
  unfold ninF
  show (match some (lookD (tD T) (.int x)).isSome with | some c => some (D.bl (!c)) | none => none) = _
  rw [td_look]
  cases tLook T x <;> rfl
theorem td_ix {o : Bool} {T : List (Int × Nat)} {x : Int} {v : Nat} (h : tLook T x = some v) : ixF (.dic o (tD T)) (.int x) = some (.int (v : Int)) := by
  show immO (lookD (tD T) (.int x)) = _
  rw [td_look, h]
  rfl
theorem tl_mem : ∀ {T : List (Int × Nat)} {x : Int} {v : Nat}, tLook T x = some v → (x, v) ∈ T
  | [], _, _, h => by simp [tLook] at h
  | (a, w) :: T, x, v, h => by
    unfold tLook at h
    by_cases e : a = x
    · rw [if_pos e] at h; cases h; subst e; exact List.mem_cons_self ..
    · rw [if_neg e] at h; exact List.mem_cons_of_mem _ (tl_mem h)
theorem tl_none : ∀ {T : List (Int × Nat)} {x : Int}, tLook T x = none ↔ x ∉ T.map (·.1)
  | [], x => by simp [tLook]
  | (a, w) :: T, x => by
    unfold tLook
    by_cases e : a = x
    · subst e; simp
    · rw [if_neg e, tl_none]
      simp
      exact fun _ => fun q => e q.symm
theorem tl_of : ∀ {T : List (Int × Nat)} {x : Int} {v : Nat}, (T.map (·.1)).Nodup → (x, v) ∈ T → tLook T x = some v
  | [], _, _, _, h => by simp at h
  | (a, w) :: T, x, v, nd, h => by
    have nd' := List.nodup_cons.mp nd
    unfold tLook
    rcases List.mem_cons.mp h with h | h
    · cases h; rw [if_pos rfl]
    · have : a ≠ x := fun e => nd'.1 (by rw [e]; exact List.mem_map.mpr ⟨_, h, rfl⟩)
      rw [if_neg this]
      exact tl_of nd'.2 h
theorem tl_app (T U : List (Int × Nat)) (x : Int) : tLook (T ++ U) x = match tLook T x with | some v => some v | none => tLook U x := by
  induction T with
  | nil => rfl
  | cons p T ih =>
    obtain ⟨a, v⟩ := p
    show (if a = x then some v else tLook (T ++ U) x) = match (if a = x then some v else tLook T x) with | some v => some v | none => tLook U x
    by_cases e : a = x
    · rw [if_pos e, if_pos e]
    · rw [if_neg e, if_neg e]; exact ih
theorem tl_mapn (l : List Int) (c : Nat) (x : Int) : tLook (l.map fun y => (y, c)) x = none ↔ x ∉ l := by
  rw [tl_none, List.map_map]
  have : ((fun p : Int × Nat => p.1) ∘ fun y => (y, c)) = id := rfl
  rw [this, List.map_id]
def newB (T : List (Int × Nat)) (b : Bag) : List Int := b.filter fun x => (tLook T x).isNone
def tSt (F : List Bag) (x1 x2 : Option D) (T : List (Int × Nat)) (x4 x5 x6 x7 x8 : Option D) : Va.S := [some (famD F), x1, x2, some (.dic true (tD T)), x4, x5, x6, x7, x8]
theorem setd_loop {F : List Bag} {b : Bag} (nd : b.Nodup) (hb : b.length ≤ 1000) {T : List (Int × Nat)} (hT : T.length ≤ 1000) {p : Int} {r : Nat} (hp : tLook T p = some r) {x1 x2 x4 x5 x7 x8 : Option D} (h8 : ∀ d, x8 = some d → Va.imm d = true) :
    ∃ x8', (∀ d, x8' = some d → Va.imm d = true) ∧ forL (.n 8) (mDo (mSetd 3 (mVar 8) (m2 (.e (m2 (.v 3) (.v 6) ixF)) (.e (mC (.int 1))) addF))) (intsD b) (tSt F x1 x2 T x4 x5 (some (.int p)) x7 x8) = some (.nx, tSt F x1 x2 (T ++ (newB T b).map fun x => (x, r + 1)) x4 x5 (some (.int p)) x7 x8') := by
  obtain ⟨st', e, x8', rfl, h8'⟩ := forL_idx (t := .n 8) (b := (mDo (mSetd 3 (mVar 8) (m2 (.e (m2 (.v 3) (.v 6) ixF)) (.e (mC (.int 1))) addF)))) D.int (fun j st => ∃ x8', st = tSt F x1 x2 (T ++ (newB T (b.take j)).map fun x => (x, r + 1)) x4 x5 (some (.int p)) x7 x8' ∧ ∀ d, x8' = some d → Va.imm d = true) (l := b) (st := tSt F x1 x2 T x4 x5 (some (.int p)) x7 x8) ⟨x8, by simp [newB], h8⟩ fun j hj st ⟨y8, hst, _⟩ => by
    subst hst
    have htk : b.take (j + 1) = b.take j ++ [b[j]] := List.take_succ_eq_append_getElem hj
    have hnj : b[j] ∉ b.take j := fun hm => by
      have nd' := nd
      rw [← List.take_append_drop (j + 1) b, htk] at nd'
      have := (List.nodup_append.mp (List.nodup_append.mp nd').1).2.2
      exact this _ hm _ (by simp) rfl
    have hl : (newB T (b.take j)).length ≤ 1000 := by
      have := List.length_filter_le (fun x => (tLook T x).isNone) (b.take j)
      rw [List.length_take] at this
      unfold newB
      omega
    have hsplit : newB T (b.take (j + 1)) = newB T (b.take j) ++ if (tLook T b[j]).isNone then [b[j]] else [] := by
      unfold newB
      rw [htk, List.filter_append]
      congr 1
      cases h : (tLook T b[j]).isNone <;> simp [h]
    have hn2 : b[j] ∉ newB T (b.take j) := fun hm => hnj (List.mem_filter.mp hm).1
    rw [hsplit]
    generalize b[j] = x at *
    generalize newB T (b.take j) = W at *
    have hpl : tLook (T ++ W.map fun x => (x, r + 1)) p = some r := by rw [tl_app, hp]
    have u1 := td_ix (o := true) hpl
    have u2 : addF (.int ((r : Nat) : Int)) (.int 1) = some (.int ((r + 1 : Nat) : Int)) := rfl
    have hblt : Nat.blt (tD (T ++ W.map fun x => (x, r + 1))).length LN = true := blt_ok (by rw [tD_len, List.length_append, List.length_map]; omega)
    refine ⟨_, tSt F x1 x2 (T ++ (W ++ if (tLook T x).isNone then [x] else []).map fun x => (x, r + 1)) x4 x5 (some (.int p)) x7 (some (.int x)), rfl, ?_, some (.int x), rfl, fun d h => by cases h; rfl⟩
    cases h : tLook T x with
    | some v =>
      have u3 : tLook (T ++ W.map fun x => (x, r + 1)) x = some v := by rw [tl_app, h]
      have u4 := td_look (T ++ W.map fun x => (x, r + 1)) x
      rw [u3] at u4
      simp only [Option.isNone_some, Bool.false_eq_true, if_false, List.append_nil]
      generalize (T ++ W.map fun x => (x, r + 1)) = T1 at *
      generalize ((r + 1 : Nat) : Int) = z at *
      have u5 : imm (D.int ((v : Nat) : Int)) = true := rfl
      generalize hX : tD T1 = X at *
      have u6 : lookD X (.int x) = some (.int ((v : Nat) : Int)) := u4
      have : mSetd 3 (mVar 8) (m2 (.e (m2 (.v 3) (.v 6) ixF)) (.e (mC (.int 1))) addF) [some (famD F), x1, x2, some (.dic true X), x4, x5, some (.int p), x7, some (.int x)] = some (.int ((v : Nat) : Int), [some (famD F), x1, x2, some (.dic true X), x4, x5, some (.int p), x7, some (.int x)]) := by
        unfold mSetd
        simp [-ev_add, u1, u2, keyD, hblt, u6]
      simp only [tSt, hX]
      simp [this]
    | none =>
      have u3 : tLook (T ++ W.map fun x => (x, r + 1)) x = none := by rw [tl_app, h]; exact (tl_mapn W (r + 1) x).mpr hn2
      have u4 := td_look (T ++ W.map fun x => (x, r + 1)) x
      rw [u3] at u4
      have u6 := td_put (v := r + 1) u3
      simp only [Option.isNone_none, if_true, List.map_append, List.map_cons, List.map_nil]
      rw [← List.append_assoc]
      generalize (T ++ W.map fun x => (x, r + 1)) = T1 at *
      simp only [tSt]
      rw [← u6]
      generalize ((r + 1 : Nat) : Int) = z at *
      generalize hX : tD T1 = X at *
      have u7 : lookD X (.int x) = none := u4
      have : mSetd 3 (mVar 8) (m2 (.e (m2 (.v 3) (.v 6) ixF)) (.e (mC (.int 1))) addF) [some (famD F), x1, x2, some (.dic true X), x4, x5, some (.int p), x7, some (.int x)] = some (.int z, [some (famD F), x1, x2, some (.dic true (putD X (.int x) (.int z))), x4, x5, some (.int p), x7, some (.int x)]) := by
        unfold mSetd
        simp [-ev_add, u1, u2, keyD, hblt, u7]
      simp [this]
  rw [List.take_length] at e
  exact ⟨x8', h8', e⟩
end Pl
/-! Ds6: _law_tree_far -/
namespace Pl
open Va L2 PySem

structure Lv (n : Int) (F : List Bag) (r : Nat) (T0 T : List (Int × Nat)) (Lt : List Int) : Prop where
  ext : T = T0 ++ Lt.map fun x => (x, r + 1)
  nd : (T.map (·.1)).Nodup
  rng : ∀ x ∈ T.map (·.1), 0 ≤ x ∧ x < n
  par : ∀ x ∈ Lt, ∃ b ∈ F, x ∈ b ∧ ∃ y ∈ b, (y, r) ∈ T0
theorem Lv.add {n : Int} {F : List Bag} (H : Fam n F) {r : Nat} {T0 T : List (Int × Nat)} {Lt : List Int} (V : Lv n F r T0 T Lt) {b : Bag} (hb : b ∈ F) {p : Int} (hp : p ∈ b) (hp0 : (p, r) ∈ T0) : Lv n F r T0 (T ++ (newB T b).map fun x => (x, r + 1)) (Lt ++ newB T b) := by
  have hm : ∀ x, x ∈ newB T b → x ∈ b ∧ x ∉ T.map (·.1) := fun x hx => by
    obtain ⟨h1, h2⟩ := List.mem_filter.mp hx
    exact ⟨h1, tl_none.mp (by simpa using h2)⟩
  have e : ((newB T b).map fun x => (x, r + 1)).map (·.1) = newB T b := by rw [List.map_map]; exact List.map_id _
  refine ⟨by rw [List.map_append, ← List.append_assoc, ← V.ext], ?_, fun x hx => ?_, fun x hx => ?_⟩
  · rw [List.map_append, e]
    exact List.nodup_append.mpr ⟨V.nd, (H.nd b hb).filter _, fun x hx y hy q => (hm y hy).2 (q ▸ hx)⟩
  · rw [List.map_append, e] at hx
    rcases List.mem_append.mp hx with hx | hx
    · exact V.rng x hx
    · exact H.rng b hb x (hm x hx).1
  · rcases List.mem_append.mp hx with hx | hx
    · exact V.par x hx
    · exact ⟨b, hb, (hm x hx).1, p, hp, hp0⟩
theorem Lv.len {n : Int} {F : List Bag} (H : Fam n F) {r : Nat} {T0 T : List (Int × Nat)} {Lt : List Int} (V : Lv n F r T0 T Lt) : T.length ≤ 60 ∧ Lt.length ≤ 60 ∧ T.length ≤ n.toNat ∧ T.length = T0.length + Lt.length := by
  have h60 := H.n60
  have h := nodup_sub V.nd (S := iot n) fun x hx => iot_mem.mpr (V.rng x hx)
  rw [iot_len, List.length_map] at h
  have e : T.length = T0.length + Lt.length := by
    have := congrArg List.length V.ext
    rwa [List.length_append, List.length_map] at this
  omega
theorem add_later {a c : List Int} (h : a.length + c.length ≤ 1000000) : addF (.lst true (intsD a)) (.lst true (intsD c)) = some (.lst true (intsD (a ++ c))) := by
  show (if _ then _ else _) = _
  rw [if_pos ⟨by rw [all_imm_ints, all_imm_ints]; rfl, by rw [LN_eq']; simp; omega⟩]
  unfold intsD
  rw [List.map_append]
def tBag : M Fl := (mIf (mB (m2 (.v 6) (.v 7) (cmpF .In))) (mSeq (mSet 5 (m2 (.v 5) (.e (mLc (mItems (mVar 7)) (.n 8) (mB (m2 (.v 8) (.v 3) (cmpF .NotIn))) (mVar 8) [8])) addF)) (mFor (mItems (mVar 7)) (.n 8) (mDo (mSetd 3 (mVar 8) (m2 (.e (m2 (.v 3) (.v 6) ixF)) (.e (mC (.int 1))) addF))))) mNx)
theorem bag_turn {n : Int} {F : List Bag} (H : Fam n F) {r : Nat} {T0 T : List (Int × Nat)} {Lt : List Int} (V : Lv n F r T0 T Lt) {b : Bag} (hb : b ∈ F) {p : Int} (hp0 : (p, r) ∈ T0) {x1 x2 x4 x8 : Option D} (h8 : ∀ d, x8 = some d → Va.imm d = true) :
    ∃ T' Lt' x8', (∀ d, x8' = some d → Va.imm d = true) ∧ Lv n F r T0 T' Lt' ∧ (∀ x ∈ T.map (·.1), x ∈ T'.map (·.1)) ∧ (p ∈ b → ∀ x ∈ b, x ∈ T'.map (·.1)) ∧
      tBag (tSt F x1 x2 T x4 (some (.lst true (intsD Lt))) (some (.int p)) (some (bagD b)) x8) = some (.nx, tSt F x1 x2 T' x4 (some (.lst true (intsD Lt'))) (some (.int p)) (some (bagD b)) x8') := by
  have h60 := H.n60
  have hbl := H.bag_le b hb
  obtain ⟨l1, l2, _, _⟩ := V.len H
  by_cases hp : p ∈ b
  · have hpt : tLook T p = some r := tl_of V.nd (by rw [V.ext]; exact List.mem_append_left _ hp0)
    have hnl : (newB T b).length ≤ 60 := by
      have := List.length_filter_le (fun x => (tLook T x).isNone) b
      unfold newB; omega
    obtain ⟨x8', h8', e⟩ := setd_loop (F := F) (H.nd b hb) (by omega) (T := T) (by omega) hpt (x1 := x1) (x2 := x2) (x4 := x4) (x5 := some (.lst true (intsD (Lt ++ newB T b)))) (x7 := some (bagD b)) h8
    have eA := add_later (a := Lt) (c := newB T b) (by omega)
    refine ⟨_, _, x8', h8', V.add H hb hp hp0, fun x hx => by rw [List.map_append]; exact List.mem_append_left _ hx, fun _ x hx => ?_, ?_⟩
    · rw [List.map_append]
      cases h : tLook T x with
      | some v => exact List.mem_append_left _ (List.mem_map.mpr ⟨_, tl_mem h, rfl⟩)
      | none =>
        refine List.mem_append_right _ (List.mem_map.mpr ⟨(x, r + 1), List.mem_map.mpr ⟨x, ?_, rfl⟩, rfl⟩)
        exact List.mem_filter.mpr ⟨hx, by rw [h]; rfl⟩
    · have eLc : mLc (mItems (mVar 7)) (.n 8) (mB (m2 (.v 8) (.v 3) (cmpF .NotIn))) (mVar 8) [8] (tSt F x1 x2 T x4 (some (.lst true (intsD Lt))) (some (.int p)) (some (bagD b)) x8) = some (.lst true (intsD (newB T b)), tSt F x1 x2 T x4 (some (.lst true (intsD Lt))) (some (.int p)) (some (bagD b)) x8) := by
        rw [mLc_af (l := b) D.int D.int (fun x => (tLook T x).isNone) (s := tSt F x1 x2 T x4 (some (.lst true (intsD Lt))) (some (.int p)) (some (bagD b)) x8) (st0 := tSt F x1 x2 T x4 (some (.lst true (intsD Lt))) (some (.int p)) (some (bagD b)) none) (by simp [mItems, tSt]) (by cases x8 <;> simp [tSt]; exact h8 _ rfl) (by omega) (by simp [tSt]) fun x hx => by
          refine ⟨_, tSt F x1 x2 T x4 (some (.lst true (intsD Lt))) (some (.int p)) (some (bagD b)) (some (.int x)), by simp [tSt]; rfl, ?_, fun _ => ⟨_, by simp [tSt]; rfl, by simp [tSt]⟩, fun _ => by simp [tSt]⟩
          simp [tSt, td_nin]]
        rfl
      simp only [tSt] at eLc e ⊢
      generalize intsD (newB T b) = W1 at *
      generalize intsD (Lt ++ newB T b) = W2 at *
      generalize intsD Lt = W0 at *
      generalize tD T = X at *
      generalize tD (T ++ (newB T b).map fun x => (x, r + 1)) = X' at *
      simp [-ev_add, tBag, in_bag, hp, eLc, eA, mItems, e]
  · refine ⟨T, Lt, x8, h8, V, fun _ h => h, fun h => absurd h hp, ?_⟩
    simp [tBag, tSt, in_bag, hp]
def tRim : M Fl := mFor (mItems (mVar 0)) (.n 7) tBag
theorem rim_turn {n : Int} {F : List Bag} (H : Fam n F) {r : Nat} {T0 T : List (Int × Nat)} {Lt : List Int} (V : Lv n F r T0 T Lt) {p : Int} (hp0 : (p, r) ∈ T0) {x1 x2 x4 x7 x8 : Option D} (h8 : ∀ d, x8 = some d → Va.imm d = true) :
    ∃ T' Lt' x7' x8', (∀ d, x8' = some d → Va.imm d = true) ∧ Lv n F r T0 T' Lt' ∧ (∀ x ∈ T.map (·.1), x ∈ T'.map (·.1)) ∧ (∀ b ∈ F, p ∈ b → ∀ x ∈ b, x ∈ T'.map (·.1)) ∧
      tRim (tSt F x1 x2 T x4 (some (.lst true (intsD Lt))) (some (.int p)) x7 x8) = some (.nx, tSt F x1 x2 T' x4 (some (.lst true (intsD Lt'))) (some (.int p)) x7' x8') := by
  obtain ⟨st', e, T', Lt', x7', x8', rfl, h8', V', m1, m2⟩ := forL_idx (t := .n 7) (b := tBag) bagD (fun j st => ∃ T' Lt' x7' x8', st = tSt F x1 x2 T' x4 (some (.lst true (intsD Lt'))) (some (.int p)) x7' x8' ∧ (∀ d, x8' = some d → Va.imm d = true) ∧ Lv n F r T0 T' Lt' ∧ (∀ x ∈ T.map (·.1), x ∈ T'.map (·.1)) ∧ ∀ b ∈ F.take j, p ∈ b → ∀ x ∈ b, x ∈ T'.map (·.1)) (l := F) (st := tSt F x1 x2 T x4 (some (.lst true (intsD Lt))) (some (.int p)) x7 x8)
    ⟨T, Lt, x7, x8, rfl, h8, V, fun _ h => h, by simp⟩ fun j hj st ⟨T1, L1, y7, y8, hst, hy8, V1, m1, m2⟩ => by
    subst hst
    have hbF := List.getElem_mem hj
    have htk : F.take (j + 1) = F.take j ++ [F[j]] := List.take_succ_eq_append_getElem hj
    rw [htk]
    generalize F[j] = b at *
    obtain ⟨T2, L2, z8, hz8, V2, q1, q2, e2⟩ := bag_turn H V1 hbF hp0 (x1 := x1) (x2 := x2) (x4 := x4) hy8
    refine ⟨_, _, rfl, e2, T2, L2, some (bagD b), z8, rfl, hz8, V2, fun x hx => q1 x (m1 x hx), fun c hc hpc x hx => ?_⟩
    rcases List.mem_append.mp hc with hc | hc
    · exact q1 x (m2 c hc hpc x hx)
    · simp at hc; subst hc; exact q2 hpc x hx
  rw [List.take_length] at m2
  refine ⟨T', Lt', x7', x8', h8', V', m1, m2, ?_⟩
  unfold tRim
  simp only [tSt] at e ⊢
  generalize intsD Lt = W0 at *
  generalize intsD Lt' = W1 at *
  simp [mItems, e]
/-- between two levels -/
structure Wv (n : Int) (F : List Bag) (a : Int) (r : Nat) (T : List (Int × Nat)) (W : List Int) : Prop where
  nd : (T.map (·.1)).Nodup
  rng : ∀ x ∈ T.map (·.1), 0 ≤ x ∧ x < n
  zero : (a, 0) ∈ T
  lev : ∀ p ∈ T, p.2 ≤ r
  rim : ∀ x, x ∈ W ↔ (x, r) ∈ T
  par : ∀ p ∈ T, p.1 ≠ a → ∃ b ∈ F, p.1 ∈ b ∧ ∃ y ∈ b, ∃ e, (y, e) ∈ T ∧ p.2 = e + 1
  cl : ∀ p ∈ T, p.2 < r → ∀ b ∈ F, p.1 ∈ b → ∀ y ∈ b, ∃ e, (y, e) ∈ T ∧ e ≤ p.2 + 1
theorem Wv.next {n : Int} {F : List Bag} {a : Int} {r : Nat} {T T' : List (Int × Nat)} {W Lt : List Int} (U : Wv n F a r T W) (V : Lv n F r T T' Lt) (hall : ∀ p ∈ W, ∀ b ∈ F, p ∈ b → ∀ x ∈ b, x ∈ T'.map (·.1)) : Wv n F a (r + 1) T' Lt := by
  have hsub : ∀ p ∈ T, p ∈ T' := fun p hp => by rw [V.ext]; exact List.mem_append_left _ hp
  have hlev : ∀ p ∈ T', p.2 ≤ r + 1 := fun p hp => by
    rw [V.ext] at hp
    rcases List.mem_append.mp hp with hp | hp
    · have := U.lev p hp; omega
    · obtain ⟨x, _, rfl⟩ := List.mem_map.mp hp
      exact Nat.le_refl _
  refine ⟨V.nd, V.rng, hsub _ U.zero, hlev, fun x => ⟨fun hx => ?_, fun hx => ?_⟩, fun p hp hne => ?_, fun p hp hr b hb hpb y hy => ?_⟩
  · rw [V.ext]; exact List.mem_append_right _ (List.mem_map.mpr ⟨x, hx, rfl⟩)
  · rw [V.ext] at hx
    rcases List.mem_append.mp hx with hx | hx
    · have := U.lev _ hx
      dsimp only at this
      omega
    · obtain ⟨y, hy, e⟩ := List.mem_map.mp hx
      cases e
      exact hy
  · rw [V.ext] at hp
    rcases List.mem_append.mp hp with hp | hp
    · obtain ⟨b, hb, h1, y, hy, e, he, h2⟩ := U.par p hp hne
      exact ⟨b, hb, h1, y, hy, e, hsub _ he, h2⟩
    · obtain ⟨x, hx, rfl⟩ := List.mem_map.mp hp
      obtain ⟨b, hb, h1, y, hy, he⟩ := V.par x hx
      exact ⟨b, hb, h1, y, hy, r, hsub _ he, rfl⟩
  · rw [V.ext] at hp
    rcases List.mem_append.mp hp with hp | hp
    · by_cases h : p.2 < r
      · obtain ⟨e, he, h2⟩ := U.cl p hp h b hb hpb y hy
        exact ⟨e, hsub _ he, h2⟩
      · have hpr : p.2 = r := by have := U.lev p hp; omega
        have hpW : p.1 ∈ W := (U.rim p.1).mpr (by rw [← hpr]; exact hp)
        obtain ⟨q, hq, rfl⟩ := List.mem_map.mp (hall p.1 hpW b hb hpb y hy)
        exact ⟨q.2, hq, by have := hlev q hq; omega⟩
    · obtain ⟨x, hx, rfl⟩ := List.mem_map.mp hp
      exact absurd hr (by simp)
theorem Wv.done {n : Int} {F : List Bag} (H : Fam n F) {a : Int} {r : Nat} {T : List (Int × Nat)} (U : Wv n F a r T []) : (∀ x, 0 ≤ x → x < n → ∃ d, tLook T x = some d) ∧ IsD n F a (fun x => (tLook T x).getD 0) := by
  have hlt : ∀ p ∈ T, p.2 < r := fun p hp => by
    refine Nat.lt_of_le_of_ne (U.lev p hp) fun e => ?_
    have := (U.rim p.1).mpr (by rw [← e]; exact hp)
    simp at this
  have hal : ∀ x, 0 ≤ x → x < n → x ∈ T.map (·.1) := by
    have ha := U.rng a (List.mem_map.mpr ⟨_, U.zero, rfl⟩)
    refine H.con (fun x => x ∈ T.map (·.1)) ⟨a, ha.1, ha.2, List.mem_map.mpr ⟨_, U.zero, rfl⟩⟩ fun b hb x hx y hy hxT => ?_
    obtain ⟨p, hp, rfl⟩ := List.mem_map.mp hxT
    obtain ⟨e, he, _⟩ := U.cl p hp (hlt p hp) b hb hx y hy
    exact List.mem_map.mpr ⟨_, he, rfl⟩
  refine ⟨fun x x0 x1 => ?_, ?_, fun b hb x hx y hy => ?_, fun x x0 x1 hne => ?_⟩
  · obtain ⟨p, hp, rfl⟩ := List.mem_map.mp (hal x x0 x1)
    exact ⟨_, tl_of U.nd hp⟩
  · rw [tl_of U.nd U.zero]; rfl
  · have hyr := H.rng b hb y hy
    obtain ⟨p, hp, rfl⟩ := List.mem_map.mp (hal y hyr.1 hyr.2)
    obtain ⟨e, he, h2⟩ := U.cl p hp (hlt p hp) b hb hy x hx
    rw [tl_of U.nd he, tl_of U.nd (show (p.1, p.2) ∈ T from hp)]
    exact h2
  · obtain ⟨p, hp, rfl⟩ := List.mem_map.mp (hal x x0 x1)
    obtain ⟨b, hb, h1, y, hy, e, he, h2⟩ := U.par p hp hne
    refine ⟨b, hb, h1, y, hy, ?_⟩
    rw [tl_of U.nd he, tl_of U.nd (show (p.1, p.2) ∈ T from hp)]
    exact h2

def tWhile : M Fl := (mSeq (mSet 5 (mLst mNil)) (mSeq (mFor (mItems (mVar 4)) (.n 6) tRim) (mSet 4 (mVar 5))))
theorem level_turn {n : Int} {F : List Bag} (H : Fam n F) {a : Int} {r : Nat} {T : List (Int × Nat)} {W : List Int} (U : Wv n F a r T W) (o : Bool) {x1 x2 x5 x6 x7 x8 : Option D} (h6 : ∀ d, x6 = some d → Va.imm d = true) (h8 : ∀ d, x8 = some d → Va.imm d = true) :
    ∃ T' Lt x6' x7' x8', (∀ d, x6' = some d → Va.imm d = true) ∧ (∀ d, x8' = some d → Va.imm d = true) ∧ Wv n F a (r + 1) T' Lt ∧ T'.length = T.length + Lt.length ∧ T'.length ≤ n.toNat ∧
      tWhile (tSt F x1 x2 T (some (.lst o (intsD W))) x5 x6 x7 x8) = some (.nx, tSt F x1 x2 T' (some (.lst false (intsD Lt))) (some (.lst false (intsD Lt))) x6' x7' x8') := by
  have V0 : Lv n F r T T [] := ⟨by simp, U.nd, U.rng, fun x hx => by simp at hx⟩
  obtain ⟨st', e, T', Lt, x6', x7', x8', rfl, h6', h8', V, hall⟩ := forL_idx (t := .n 6) (b := tRim) D.int (fun j st => ∃ T' Lt x6' x7' x8', st = tSt F x1 x2 T' (some (.lst false (intsD W))) (some (.lst true (intsD Lt))) x6' x7' x8' ∧ (∀ d, x6' = some d → Va.imm d = true) ∧ (∀ d, x8' = some d → Va.imm d = true) ∧ Lv n F r T T' Lt ∧ ∀ p ∈ W.take j, ∀ b ∈ F, p ∈ b → ∀ x ∈ b, x ∈ T'.map (·.1)) (l := W) (st := tSt F x1 x2 T (some (.lst false (intsD W))) (some (.lst true (intsD []))) x6 x7 x8)
    ⟨T, [], x6, x7, x8, rfl, h6, h8, V0, by simp⟩ fun j hj st ⟨T1, L1, y6, y7, y8, hst, _, hy8, V1, m2⟩ => by
    subst hst
    have hpW := List.getElem_mem hj
    have htk : W.take (j + 1) = W.take j ++ [W[j]] := List.take_succ_eq_append_getElem hj
    rw [htk]
    generalize W[j] = p at *
    obtain ⟨T2, L2, z7, z8, hz8, V2, q1, q2, e2⟩ := rim_turn H V1 ((U.rim p).mp hpW) (x1 := x1) (x2 := x2) (x4 := some (.lst false (intsD W))) (x7 := y7) hy8
    refine ⟨_, _, rfl, e2, T2, L2, some (.int p), z7, z8, rfl, (fun d h => by cases h; rfl), hz8, V2, fun c hc b hb hpc x hx => ?_⟩
    rcases List.mem_append.mp hc with hc | hc
    · exact q1 x (m2 c hc b hb hpc x hx)
    · simp at hc; subst hc; exact q2 b hb hpc x hx
  rw [List.take_length] at hall
  obtain ⟨l1, l2, l3, l4⟩ := V.len H
  refine ⟨T', Lt, x6', x7', x8', h6', h8', U.next V hall, l4, l3, ?_⟩
  have hf1 : frzL (intsD W) = intsD W := frzL_ints W
  have hf2 : frzL (intsD Lt) = intsD Lt := frzL_ints Lt
  have hm1 : W.map D.int = intsD W := rfl
  rw [hm1] at e
  unfold tWhile
  have e0 : intsD [] = [] := rfl
  rw [e0] at e
  simp only [tSt] at e ⊢
  generalize intsD W = W1 at *
  generalize intsD Lt = W2 at *
  cases o
  · simp [mItems, e, hf1, hf2]
  · simp [mItems, e, hf1, hf2]
theorem while_far {n : Int} {F : List Bag} (H : Fam n F) {a : Int} (a0 : 0 ≤ a) (a1 : a < n) {x1 x2 x5 x6 x7 x8 : Option D} (h6 : ∀ d, x6 = some d → Va.imm d = true) (h8 : ∀ d, x8 = some d → Va.imm d = true) :
    ∃ T x4' x5' x6' x7' x8', (∀ d, x6' = some d → Va.imm d = true) ∧ (∀ d, x8' = some d → Va.imm d = true) ∧ (∀ x, 0 ≤ x → x < n → ∃ d, tLook T x = some d) ∧ IsD n F a (fun x => (tLook T x).getD 0) ∧
      mWhile (mB (m2 (.v 4) (.e (mLst mNil)) (cmpF .NotEq))) tWhile 100000 (tSt F x1 x2 [(a, 0)] (some (.lst true (intsD [a]))) x5 x6 x7 x8) = some (.nx, tSt F x1 x2 T x4' x5' x6' x7' x8') := by
  have h60 := H.n60
  have W0 : Wv n F a 0 [(a, 0)] [a] := ⟨by simp, fun x hx => by simp at hx; subst hx; exact ⟨a0, a1⟩, by simp, fun p hp => by simp at hp; subst hp; exact Nat.le_refl _, fun x => by simp, fun p hp hne => by simp at hp; subst hp; exact absurd rfl hne, fun p hp h => by omega⟩
  obtain ⟨s, e, T, r, x4', x5', x6', x7', x8', rfl, h6', h8', U⟩ := while_inv (c := mB (m2 (.v 4) (.e (mLst mNil)) (cmpF .NotEq))) (b := tWhile) (Post := fun st => ∃ T r x4' x5' x6' x7' x8', st = tSt F x1 x2 T x4' x5' x6' x7' x8' ∧ (∀ d, x6' = some d → Va.imm d = true) ∧ (∀ d, x8' = some d → Va.imm d = true) ∧ Wv n F a r T [])
    (fun μ st => ∃ (o : Bool) (r : Nat) (T : List (Int × Nat)) (W : List Int) (x5 x6 x7 x8 : Option D), st = tSt F x1 x2 T (some (.lst o (intsD W))) x5 x6 x7 x8 ∧ (∀ d, x6 = some d → Va.imm d = true) ∧ (∀ d, x8 = some d → Va.imm d = true) ∧ Wv n F a r T W ∧ (n.toNat - T.length) + W.length = μ ∧ T.length ≤ n.toNat) (fun μ st ⟨o, r, T, W, y5, y6, y7, y8, hst, hy6, hy8, U, hm, hT⟩ => by
      subst hst
      refine ⟨!W.isEmpty, tSt F x1 x2 T (some (.lst o (intsD W))) y5 y6 y7 y8, ?_, fun ht => ?_, fun ht => ?_⟩
      · have := eq_nil_ints o true W
        simp only [tSt]
        generalize intsD W = W1 at *
        simp [this]
      · have : W = [] := by cases W with
          | nil => rfl
          | cons => simp at ht
        subst this
        exact ⟨T, r, _, y5, y6, y7, y8, rfl, hy6, hy8, U⟩
      · have hW : 0 < W.length := by cases W with
          | nil => simp at ht
          | cons => simp
        obtain ⟨T', Lt, z6, z7, z8, hz6, hz8, U', hl, hl2, e⟩ := level_turn H U o (x1 := x1) (x2 := x2) (x5 := y5) (x6 := y6) (x7 := y7) hy6 hy8
        exact ⟨_, e, (n.toNat - T'.length) + Lt.length, by omega, false, r + 1, T', Lt, _, z6, z7, z8, rfl, hz6, hz8, U', rfl, hl2⟩) 100000 ((n.toNat - 1) + 1) _ ⟨true, 0, [(a, 0)], [a], x5, x6, x7, x8, rfl, h6, h8, W0, rfl, by simp; omega⟩ (by omega)
  obtain ⟨d1, d2⟩ := U.done H
  exact ⟨T, x4', x5', x6', x7', x8', h6', h8', d1, d2, e⟩
def tabN (o : Bool) (n : Int) (g : Int → Int → Nat) : D := .lst o ((iot n).map fun a => fl o n (g a))
theorem frz_fl' (n : Int) (g : Int → Nat) : frz (fl true n g) = fl false n g := by
  unfold fl
  rw [frz_lst]
  congr 1
  induction iot n with
  | nil => simp [frzL]
  | cons x l ih => rw [List.map_cons, frzL, ih]; rfl
theorem frz_tabN (n : Int) (g : Int → Int → Nat) : frz (tabN true n g) = tabN false n g := by
  unfold tabN
  rw [frz_lst]
  congr 1
  induction iot n with
  | nil => simp [frzL]
  | cons x l ih => rw [List.map_cons, frzL, ih, frz_fl']; rfl
theorem ix_tabN {n x : Int} {g : Int → Int → Nat} (x0 : 0 ≤ x) (x1 : x < n) : ixF (tabN false n g) (.int x) = some (fl false n (g x)) := by
  show immO (atI ((iot n).map fun a => fl false n (g a)) x) = _
  rw [atI_ok x0 (by rw [List.length_map, iot_len]; omega), List.getElem?_map, iot_get (by omega), show ((x.toNat : Nat) : Int) = x by omega]
  rfl
@[simp] theorem imm_tabN (o : Bool) (n : Int) (g) : imm (tabN o n g) = !o := rfl
def SpTree (f : Fn) : Prop := ∀ {n : Int} {F : List Bag}, Fam n F → ∃ g, (∀ a, 0 ≤ a → a < n → IsD n F a (g a)) ∧ f [famD F] = some (tabN true n g, [some (famD F)])
theorem tree_sp {cs : Fn} (hs : SpSize cs) : SpTree (f__law_tree_far cs) := fun {n F} H => by
  have h60 := H.n60
  have h2 := H.n2
  have e1 := hs H
  have hsn := small_of (i := n) (by omega) (by omega)
  obtain ⟨st', e, l, x2, x3, x4, x5, x6, x7, x8, rfl, h6, h8, hl, hd⟩ := forL_idx (t := .n 2) (b := (mSeq (mSetP [3, 4] (mCons (mDict1 (mVar 2) (mC (.int 0))) (mCons (mLst (mCons (mVar 2) mNil)) mNil))) (mSeq (mWhile (mB (m2 (.v 4) (.e (mLst mNil)) (cmpF .NotEq))) tWhile 100000) (mDo (mApp 1 (mLc (mRg1 (mCall cs (mCons (mTake 0) mNil) [some 0])) (.n 6) mYes (m2 (.v 3) (.v 6) ixF) [6])))))) D.int (fun j st => ∃ (l : List (Int → Nat)) (x2 x3 x4 x5 x6 x7 x8 : Option D), st = [some (famD F), some (.lst true (l.map fun d => fl true n d)), x2, x3, x4, x5, x6, x7, x8] ∧ (∀ d, x6 = some d → Va.imm d = true) ∧ (∀ d, x8 = some d → Va.imm d = true) ∧ l.length = j ∧ ∀ (i : Nat) d, l[i]? = some d → IsD n F (i : Int) d) (l := iot n) (st := [some (famD F), some (.lst true []), none, none, none, none, none, none, none])
    ⟨[], none, none, none, none, none, none, none, rfl, (fun _ h => by cases h), (fun _ h => by cases h), rfl, fun i d h => by simp at h⟩ fun j hj st ⟨l, y2, y3, y4, y5, y6, y7, y8, hst, h6, h8, hl, hd⟩ => by
    subst hst
    have hjn : (j : Int) < n := by rw [iot_len] at hj; omega
    have hjj : (iot n)[j] = (j : Int) := by
      have := iot_get (n := n) (i := j) (by rw [iot_len] at hj; omega)
      rw [List.getElem?_eq_getElem hj] at this
      exact Option.some.inj this
    rw [hjj]
    obtain ⟨T, z4, z5, z6, z7, z8, hz6, hz8, d1, d2, e⟩ := while_far H (a := (j : Int)) (by omega) hjn (x1 := some (.lst true (l.map fun d => fl true n d))) (x2 := some (.int (j : Int))) (x5 := y5) (x6 := y6) (x7 := y7) (x8 := y8) h6 h8
    have hb1 : Nat.blt (l.map fun d => fl true n d).length LN = true := blt_ok (by rw [List.length_map, hl]; omega)
    have eLc : mLc (mRg1 (mCall cs (mCons (mTake 0) mNil) [some 0])) (.n 6) mYes (m2 (.v 3) (.v 6) ixF) [6] (tSt F (some (.lst true (l.map fun d => fl true n d))) (some (.int (j : Int))) T z4 z5 z6 z7 z8) = some (fl true n (fun x => (tLook T x).getD 0), tSt F (some (.lst true (l.map fun d => fl true n d))) (some (.int (j : Int))) T z4 z5 z6 z7 z8) := by
      rw [mLc_a (l := iot n) D.int (fun x => .int (((tLook T x).getD 0 : Nat) : Int)) (s := tSt F (some (.lst true (l.map fun d => fl true n d))) (some (.int (j : Int))) T z4 z5 z6 z7 z8) (st0 := tSt F (some (.lst true (l.map fun d => fl true n d))) (some (.int (j : Int))) T z4 z5 none z7 z8) (by simp [tSt, e1, hsn, rgD0]) (by cases z6 <;> simp [tSt]; exact hz6 _ rfl) (by rw [iot_len]; omega) (by simp [tSt]) fun x hx => by
        have hr := iot_mem.mp hx
        obtain ⟨v, hv⟩ := d1 x hr.1 hr.2
        have u1 := td_ix (o := true) hv
        refine ⟨_, tSt F (some (.lst true (l.map fun d => fl true n d))) (some (.int (j : Int))) T z4 z5 (some (.int x)) z7 z8, by simp [tSt]; rfl, ?_, by simp [tSt]⟩
        simp [tSt, u1, hv]]
      rfl
    refine ⟨_, [some (famD F), some (.lst true ((l ++ [fun x => (tLook T x).getD 0]).map fun d => fl true n d)), some (.int (j : Int)), some (.dic true (tD T)), z4, z5, z6, z7, z8], rfl, ?_, l ++ [fun x => (tLook T x).getD 0], _, _, z4, z5, z6, z7, z8, rfl, hz6, hz8, by simp [hl], fun i d h => ?_⟩
    · have e3 : tD [((j : Int), 0)] = [(.int (j : Int), .int 0)] := rfl
      have e4 : intsD [(j : Int)] = [.int (j : Int)] := rfl
      simp only [tSt, e3, e4] at e eLc
      rw [List.map_append]
      generalize (l.map fun d => fl true n d) = LL at *
      simp [mSetP, e, eLc, hb1]
    · by_cases hi : i < l.length
      · rw [List.getElem?_append_left hi] at h
        exact hd i d h
      · rw [List.getElem?_append_right (by omega)] at h
        have h3 := (List.getElem?_eq_some_iff.mp h).1
        have h4 : i = l.length := by simp at h3; omega
        subst h4
        simp at h
        subst h
        rw [hl]
        exact d2
  rw [iot_len] at hl
  have hg : (l.map fun d => fl true n d) = (iot n).map fun a => fl true n (l.getD a.toNat (fun _ => 0)) := by
    apply List.ext_getElem
    · rw [List.length_map, List.length_map, iot_len, hl]
    · intro i h1 h3
      have hi : i < l.length := by simpa using h1
      have hin : i < (iot n).length := by simpa using h3
      have : (iot n)[i]? = some (i : Int) := iot_get (by omega)
      rw [List.getElem?_eq_getElem hin] at this
      have e5 := Option.some.inj this
      rw [List.getElem_map, List.getElem_map, e5, Int.toNat_natCast, List.getD_eq_getElem?_getD, List.getElem?_eq_getElem hi]
      rfl
  refine ⟨fun a => l.getD a.toNat (fun _ => 0), fun a a0 a1 => ?_, ?_⟩
  · have hi : a.toNat < l.length := by omega
    have := hd a.toNat l[a.toNat] (List.getElem?_eq_getElem hi)
    rw [show ((a.toNat : Nat) : Int) = a by omega] at this
    dsimp only
    rw [List.getD_eq_getElem?_getD, List.getElem?_eq_getElem hi]
    exact this
  · rw [hg] at e
    unfold f__law_tree_far m__law_tree_far
    show runD _ _ _ _ _ = _
    simp only [tWhile, tRim, tBag] at e
    have hT : D.lst true ((iot n).map fun a => fl true n (l.getD a.toNat (fun _ => 0))) = tabN true n (fun a => l.getD a.toNat (fun _ => 0)) := rfl
    rw [hT] at e
    have hTi : Va.imm (tabN true n (fun a => l.getD a.toNat (fun _ => 0))) = false := rfl
    generalize tabN true n (fun a => l.getD a.toNat (fun _ => 0)) = TT at *
    simp [runD, e1, hsn, rgD0, e, hTi]
end Pl
/-! Ds7: how far at most; the least of many, its place; sums over pairs -/
namespace Pl
open Va L2 PySem

theorem toInts_of : ∀ l : List Int, toInts (l.map D.int) = some l
  | [] => rfl
  | x :: l => by
    show (match toInts (l.map D.int) with | some l => some (x :: l) | none => none) = _
    rw [toInts_of l]
theorem IsD.down {n a : Int} {F : List Bag} (H : Fam n F) {d : Int → Nat} (hd : IsD n F a d) : ∀ (m : Nat) (x : Int), 0 ≤ x → x < n → d x = m → ∃ l : List Int, l.length = m + 1 ∧ l.Nodup ∧ ∀ y ∈ l, 0 ≤ y ∧ y < n ∧ d y ≤ m
  | 0, x, x0, x1, h => ⟨[x], rfl, by simp, fun y hy => by simp at hy; subst hy; exact ⟨x0, x1, by omega⟩⟩
  | m + 1, x, x0, x1, h => by
    have hne : x ≠ a := fun e => by rw [e, hd.zero] at h; omega
    obtain ⟨b, hb, hxb, y, hy, e1⟩ := hd.back x x0 x1 hne
    have hr := H.rng b hb y hy
    obtain ⟨l, h1, h2, h3⟩ := IsD.down H hd m y hr.1 hr.2 (by omega)
    refine ⟨x :: l, by simp [h1], List.nodup_cons.mpr ⟨fun hx => ?_, h2⟩, fun z hz => ?_⟩
    · have := (h3 x hx).2.2; omega
    · rcases List.mem_cons.mp hz with rfl | hz
      · exact ⟨x0, x1, by omega⟩
      · have := h3 z hz; exact ⟨this.1, this.2.1, by omega⟩
theorem IsD.lt {n a : Int} {F : List Bag} (H : Fam n F) {d : Int → Nat} (hd : IsD n F a d) {x : Int} (x0 : 0 ≤ x) (x1 : x < n) : (d x : Int) < n := by
  obtain ⟨l, h1, h2, h3⟩ := hd.down H _ x x0 x1 rfl
  have := nodup_sub h2 (S := iot n) fun y hy => iot_mem.mpr ⟨(h3 y hy).1, (h3 y hy).2.1⟩
  rw [iot_len] at this
  omega
theorem IsD.Lg {n a : Int} {F : List Bag} (H : Fam n F) {d : Int → Nat} (hd : IsD n F a d) {x : Int} (x0 : 0 ≤ x) (x1 : x < n) : Lg (d x) 6 := by
  have := hd.lt H x0 x1
  have := H.n60
  unfold Pl.Lg
  omega
/-! ### the least, and where it stands first -/
theorem best_range (S : Nat → Int) : ∀ m : Nat, ∃ j : Nat, j ≤ m ∧ bestP id [S 0, 0] ((List.range m).map fun k => [S (k + 1), ((k + 1 : Nat) : Int)]) = [S j, (j : Int)] ∧ (∀ i, i ≤ m → S j ≤ S i) ∧ ∀ i, i < j → S j < S i
  | 0 => ⟨0, by omega, rfl, fun i hi => by rw [show i = 0 by omega]; omega, fun i hi => by omega⟩
  | m + 1 => by
    obtain ⟨j, h1, h2, h3, h4⟩ := best_range S m
    have e : bestP id [S 0, 0] ((List.range (m + 1)).map fun k => [S (k + 1), ((k + 1 : Nat) : Int)]) = if HT.lexLt [S (m + 1), ((m + 1 : Nat) : Int)] [S j, (j : Int)] = true then [S (m + 1), ((m + 1 : Nat) : Int)] else [S j, (j : Int)] := by
      rw [List.range_succ, List.map_append]
      unfold bestP at h2 ⊢
      rw [List.foldl_append, h2]
      rfl
    have e2 : HT.lexLt [S (m + 1), ((m + 1 : Nat) : Int)] [S j, (j : Int)] = decide (S (m + 1) < S j) := by
      rw [HT.lexLt_cons]
      by_cases q : S (m + 1) = S j
      · rw [if_pos q, HT.lexLt_cons, if_neg (by omega), q]
        simp
        omega
      · rw [if_neg q]
    rw [e, e2]
    by_cases q : S (m + 1) < S j
    · refine ⟨m + 1, by omega, by simp [q], fun i hi => ?_, fun i hi => ?_⟩
      · by_cases hi' : i = m + 1
        · rw [hi']; omega
        · have := h3 i (by omega); omega
      · have := h3 i (by omega); omega
    · refine ⟨j, by omega, by simp [q], fun i hi => ?_, h4⟩
      by_cases hi' : i = m + 1
      · rw [hi']; omega
      · exact h3 i (by omega)
theorem allTups_map {α : Type} (f : α → List Int) : ∀ l : List α, allTups (l.map fun x => D.tup ((f x).map D.int)) = some (l.map f)
  | [] => rfl
  | x :: l => by
    show (match toInts ((f x).map D.int) with | some l1 => (match allTups (l.map fun x => D.tup ((f x).map D.int)) with | some ls => some (l1 :: ls) | none => none) | none => none) = _
    rw [toInts_of, allTups_map f l]
    rfl
theorem idxI_first {v : Int} : ∀ {l : List Int} {j : Nat}, l[j]? = some v → (∀ i, i < j → l[i]? ≠ some v) → idxI l v = some j
  | [], j, h, _ => by simp at h
  | x :: l, 0, h, _ => by
    simp at h
    subst h
    simp [idxI]
  | x :: l, j + 1, h, h2 => by
    have hx : (x == v) = false := by
      have := h2 0 (by omega)
      simpa using this
    have ih := idxI_first (l := l) (j := j) (by simpa using h) fun i hi => by
      have := h2 (i + 1) (by omega)
      simpa using this
    unfold idxI
    rw [hx, ih]
theorem least {n : Int} (h : 1 ≤ n) (o : Bool) (S : Int → Nat) : ∃ j : Int, 0 ≤ j ∧ j < n ∧
    minTF (.lst o ((iot n).map fun k => .tup [.int ((S k : Nat) : Int), .int k])) = some (.tup [.int ((S j : Nat) : Int), .int j]) ∧
    (∀ o', minF (.lst o' ((iot n).map fun k => D.int ((S k : Nat) : Int))) = some (.int ((S j : Nat) : Int))) ∧
    ∀ o', indexF (.lst o' ((iot n).map fun k => D.int ((S k : Nat) : Int))) (.int ((S j : Nat) : Int)) = some (.int j) := by
  obtain ⟨m, hm⟩ : ∃ m : Nat, n.toNat = m + 1 := ⟨n.toNat - 1, by omega⟩
  obtain ⟨j, h1, h2, h3, h4⟩ := best_range (fun k => ((S (k : Int) : Nat) : Int)) m
  have hi : iot n = (List.range (m + 1)).map fun (k : Nat) => (k : Int) := by unfold iot; rw [hm]
  have hg : (iot n).map (fun k => D.int ((S k : Nat) : Int)) = ((List.range (m + 1)).map fun (k : Nat) => ((S (k : Int) : Nat) : Int)).map D.int := by
    rw [hi, List.map_map, List.map_map]; rfl
  have hmin : ∀ o', minF (.lst o' ((iot n).map fun k => D.int ((S k : Nat) : Int))) = some (.int ((S (j : Int) : Nat) : Int)) := fun o' => by
    rw [hg]
    unfold minF intsF
    show (match toInts _ with | some ns => _ | none => none) = _
    rw [toInts_of, List.range_succ_eq_map, List.map_cons]
    show some (D.int (imin _ _)) = _
    obtain ⟨q1, q2⟩ := imin_spec ((List.range m).map Nat.succ |>.map fun (k : Nat) => ((S (k : Int) : Nat) : Int)) ((S ((0 : Nat) : Int) : Nat) : Int)
    have hall : ∀ y ∈ ((S ((0 : Nat) : Int) : Nat) : Int) :: ((List.range m).map Nat.succ |>.map fun (k : Nat) => ((S (k : Int) : Nat) : Int)), ∃ i, i ≤ m ∧ y = ((S (i : Int) : Nat) : Int) := fun y hy => by
      rcases List.mem_cons.mp hy with rfl | hy
      · exact ⟨0, by omega, rfl⟩
      · rw [List.map_map] at hy
        obtain ⟨k, hk, rfl⟩ := List.mem_map.mp hy
        exact ⟨k + 1, by have := List.mem_range.mp hk; omega, rfl⟩
    have hjm : ((S (j : Int) : Nat) : Int) ∈ ((S ((0 : Nat) : Int) : Nat) : Int) :: ((List.range m).map Nat.succ |>.map fun (k : Nat) => ((S (k : Int) : Nat) : Int)) := by
      cases j with
      | zero => exact List.mem_cons_self ..
      | succ j => exact List.mem_cons_of_mem _ (by rw [List.map_map]; exact List.mem_map.mpr ⟨j, List.mem_range.mpr (by omega), rfl⟩)
    obtain ⟨i, hi, e⟩ := hall _ q1
    have g1 := q2 _ hjm
    have g2 := h3 i hi
    congr 2
    omega
  refine ⟨(j : Int), by omega, by omega, ?_, hmin, fun o' => ?_⟩
  · have e1 : ((iot n).map fun k => D.tup [.int ((S k : Nat) : Int), .int k]) = (List.range (m + 1)).map fun (k : Nat) => D.tup (([((S (k : Int) : Nat) : Int), (k : Int)]).map D.int) := by
      rw [hi, List.map_map]; rfl
    rw [e1]
    unfold minTF
    show (match allTups _ with | some (l :: ls) => _ | _ => none) = _
    rw [allTups_map (fun k : Nat => [((S (k : Int) : Nat) : Int), (k : Int)]), List.range_succ_eq_map, List.map_cons, List.map_map]
    show some (D.tup ((bestP id _ _).map D.int)) = _
    have : bestP id [((S ((0 : Nat) : Int) : Nat) : Int), ((0 : Nat) : Int)] ((List.range m).map ((fun k : Nat => [((S (k : Int) : Nat) : Int), (k : Int)]) ∘ Nat.succ)) = [((S (j : Int) : Nat) : Int), (j : Int)] := h2
    rw [this]
    rfl
  · rw [hg]
    unfold indexF
    show (match toInts _ with | some l => _ | none => none) = _
    rw [toInts_of]
    have hix := idxI_first (v := ((S (j : Int) : Nat) : Int)) (l := (List.range (m + 1)).map fun (k : Nat) => ((S (k : Int) : Nat) : Int)) (j := j) (by rw [List.getElem?_map, List.getElem?_range (by omega)]; rfl) fun i hi => by
      rw [List.getElem?_map, List.getElem?_range (by omega)]
      have := h4 i hi
      intro q
      have q2 := Option.some.inj q
      dsimp only at q2
      omega
    show (match idxI _ _ with | some j => some (D.int (j : Nat)) | none => none) = _
    rw [hix]
/-! ### sums over pairs -/
theorem nsum_add (f g : Int → Nat) : ∀ l : List Int, nsum (fun x => f x + g x) l = nsum f l + nsum g l
  | [] => rfl
  | x :: l => by
    show f x + g x + nsum (fun x => f x + g x) l = f x + nsum f l + (g x + nsum g l)
    rw [nsum_add f g l]
    omega
theorem iot_succ (m : Nat) : iot ((m + 1 : Nat) : Int) = iot (m : Int) ++ [(m : Int)] := by
  unfold iot
  rw [Int.toNat_natCast, Int.toNat_natCast, List.range_succ, List.map_append]
  rfl
theorem pairs_half (f : Int → Int → Nat) : ∀ m : Nat, (∀ i j : Int, 0 ≤ i → i < m → 0 ≤ j → j < m → f i j = f j i) → (∀ i : Int, 0 ≤ i → i < m → f i i = 0) → nsum (fun i => nsum (f i) (iot m)) (iot m) = 2 * nsum (fun i => nsum (f i) (iot i)) (iot m)
  | 0, _, _ => rfl
  | m + 1, hs, hz => by
    have ih := pairs_half f m (fun i j a b c d => hs i j a (by omega) c (by omega)) (fun i a b => hz i a (by omega))
    rw [iot_succ, nsum_app, nsum_app]
    have e1 : nsum (fun i => nsum (f i) (iot (m : Int) ++ [(m : Int)])) (iot m) = nsum (fun i => nsum (f i) (iot m)) (iot m) + nsum (fun i => f i m) (iot m) := by
      rw [← nsum_add]
      refine nsum_congr fun x _ => ?_
      rw [nsum_app]
      show _ + (f x m + 0) = _
      omega
    have e2 : nsum (fun i => nsum (f i) (iot (m : Int) ++ [(m : Int)])) [(m : Int)] = nsum (f m) (iot m) + f m m := by
      show nsum (f m) (iot (m : Int) ++ [(m : Int)]) + 0 = _
      rw [nsum_app]
      show _ + (f m m + 0) + 0 = _
      omega
    have e3 : nsum (fun i => nsum (f i) (iot i)) [(m : Int)] = nsum (f m) (iot m) := by
      show nsum (f m) (iot m) + 0 = _
      omega
    have e4 : nsum (fun i => f i m) (iot m) = nsum (f m) (iot m) := nsum_congr fun x hx => by
      have := iot_mem.mp hx
      exact hs x m this.1 (by omega) (by omega) (by omega)
    rw [e1, e2, e3, e4, hz m (by omega) (by omega), ih]
    omega
end Pl
/-! Ds8: weighed sums -/
namespace Pl
open Va L2 PySem

@[simp] theorem isi_ft (n : Int) (g) : isiF .tuple (ft n g) = some (.bl true) := rfl
@[simp] theorem imm_ft (n : Int) (g) : imm (ft n g) = true := rfl
theorem len_ft {n : Int} {g : Int → Nat} (h : 0 ≤ n) : lenF (ft n g) = some (.int n) := by
  show some (D.int (((iot n).map fun j => D.int ((g j : Nat) : Int)).length : Int)) = _
  rw [List.length_map, iot_len, show ((n.toNat : Nat) : Int) = n by omega]
theorem seq_ft (n : Int) (g : Int → Nat) : seqOf (frzA (ft n g)) = some (true, (iot n).map fun j => D.int ((g j : Nat) : Int)) := rfl
theorem ix_ft {n x : Int} {g : Int → Nat} (x0 : 0 ≤ x) (x1 : x < n) : ixF (ft n g) (.int x) = some (.int ((g x : Nat) : Int)) := by
  show immO (atI ((iot n).map fun j => D.int ((g j : Nat) : Int)) x) = _
  rw [atI_ok x0 (by rw [List.length_map, iot_len]; omega), List.getElem?_map, iot_get (by omega), show ((x.toNat : Nat) : Int) = x by omega]
  rfl
def Wok (n : Int) (w : Int → Nat) : Prop := ∀ x, 0 ≤ x → x < n → w x ≤ 1000000
def SpNeedW (f : Fn) : Prop := ∀ {n : Int} {F : List Bag} {w : Int → Nat}, Fam n F → Wok n w → f [famD F, ft n w, .int 0] = some (.non, [some (famD F), some (ft n w), some (.int 0)])
theorem need_weights_sp {cs ci : Fn} (hs : SpSize cs) (hi : SpIn ci) : SpNeedW (f_need_weights cs ci) := fun {n F w} H hw => by
  have h60 := H.n60
  have h2 := H.n2
  have e1 := hs H
  have e2 := len_ft (n := n) (g := w) (by omega)
  have e3 := seq_ft n w
  unfold f_need_weights m_need_weights
  simp [runD, e1, e2, neI]
  rw [mLc_a (l := iot n) (fun j => D.int ((w j : Nat) : Int)) (fun _ => .bl true) (s := [some (famD F), some (ft n w), some (.int 0), none]) (st0 := [some (famD F), some (ft n w), some (.int 0), none]) (by simp [mItems, e3]) (by simp) (by rw [iot_len]; omega) (by simp) fun x hx => by
    have hr := iot_mem.mp hx
    have hwx := hw x hr.1 hr.2
    have e4 := hi (v := ((w x : Nat) : Int)) (lo := 0) (hi := 1000000) (by omega) (by omega)
    refine ⟨_, [some (famD F), some (ft n w), some (.int 0), some (.int ((w x : Nat) : Int))], by simp; rfl, by simp [e4], by simp⟩]
  simp [all_true]
theorem Wok.Lg {n : Int} {w : Int → Nat} (h : Wok n w) {x : Int} (x0 : 0 ≤ x) (x1 : x < n) : Lg (w x) 20 := by
  have := h x x0 x1
  unfold Pl.Lg
  omega
def SpWFar (f : Fn) : Prop := ∀ {n a : Int} {F : List Bag} {w d : Int → Nat}, Fam n F → Wok n w → 0 ≤ a → a < n → IsD n F a d → f [famD F, ft n w, .int a] = some (.int ((nsum (fun x => w x * d x) (iot n) : Nat) : Int), [some (famD F), some (ft n w), some (.int a)])
theorem wfar_sp {cf : Fn} (hf : SpFar cf) : SpWFar (f_weighed_far cf) := fun {n a F w d} H hw a0 a1 hd => by
  have h60 := H.n60
  have h2 := H.n2
  obtain ⟨d', hd', e1⟩ := hf H a0 a1
  have e2 : fl true n d' = fl true n d := fl_congr fun j j0 j1 => hd'.uniq H hd j0 j1
  rw [e2] at e1
  have ez : mZipM (mCons (mVar 1) (mCons (mCall cf (mCons (mTake 0) (mCons (mTake 2) mNil)) [some 0, some 2]) mNil)) [some (famD F), some (ft n w), some (.int a), none, none] = some ((iot n).map fun x => D.tup [.int ((w x : Nat) : Int), .int ((d x : Nat) : Int)], [some (famD F), some (ft n w), some (.int a), none, none]) := by
    have e3 : zipD ((iot n).map fun j => D.int ((w j : Nat) : Int)) ((iot n).map fun j => D.int ((d j : Nat) : Int)) = _ := zip_map _ _ (iot n)
    have e4 : frzA (ft n w) = .tup ((iot n).map fun j => D.int ((w j : Nat) : Int)) := rfl
    have e5 : frzA (fl true n d) = .lst false ((iot n).map fun j => D.int ((d j : Nat) : Int)) := frz_fl' n d
    unfold mZipM
    simp [e1, e4, e5, e3]
  unfold f_weighed_far m_weighed_far
  simp [runD]
  rw [mLc_a (l := iot n) (fun x => D.tup [.int ((w x : Nat) : Int), .int ((d x : Nat) : Int)]) (fun x => .int ((w x * d x : Nat) : Int)) (s := [some (famD F), some (ft n w), some (.int a), none, none]) (st0 := [some (famD F), some (ft n w), some (.int a), none, none]) ez (by simp) (by rw [iot_len]; omega) (by simp) fun x hx => by
    have hr := iot_mem.mp hx
    have e4 : mulF (.int ((w x : Nat) : Int)) (.int ((d x : Nat) : Int)) = some (.int ((w x * d x : Nat) : Int)) := mulN 20 6 (hw.Lg hr.1 hr.2) (hd.Lg H hr.1 hr.2) rfl rfl (by omega)
    refine ⟨_, [some (famD F), some (ft n w), some (.int a), some (.int ((w x : Nat) : Int)), some (.int ((d x : Nat) : Int))], rfl, ?_, by simp⟩
    generalize ((w x * d x : Nat) : Int) = z at *
    simp [-ev_mul, e4]]
  have es := sum_map true (fun x => w x * d x) (iot n)
  generalize (iot n).map (fun x => D.int ((w x * d x : Nat) : Int)) = W at *
  simp [es]
/-- the weighed sum at a -/
def ws (n : Int) (w : Int → Nat) (g : Int → Int → Nat) (a : Int) : Nat := nsum (fun x => w x * g a x) (iot n)
def SpWSums (f : Fn) : Prop := ∀ {n : Int} {F : List Bag} {w : Int → Nat} {g : Int → Int → Nat}, Fam n F → Wok n w → (∀ a, 0 ≤ a → a < n → IsD n F a (g a)) → f [famD F, ft n w] = some (ft n (ws n w g), [some (famD F), some (ft n w)])
theorem wsums_sp {cn cw cs cf : Fn} (hn : SpNeed cn) (hw : SpNeedW cw) (hs : SpSize cs) (hf : SpWFar cf) : SpWSums (f_weighed_sums cn cw cs cf) := fun {n F w g} H ho hg => by
  have h60 := H.n60
  have h2 := H.n2
  have e1 := hn H
  have e2 := hw H ho
  have e3 := hs H
  have hsn := small_of (i := n) (by omega) (by omega)
  unfold f_weighed_sums m_weighed_sums
  simp [runD, e1, e2]
  rw [mLc_a (l := iot n) D.int (fun x => .int ((ws n w g x : Nat) : Int)) (s := [some (famD F), some (ft n w), none]) (st0 := [some (famD F), some (ft n w), none]) (by simp [e3, hsn, rgD0]) (by simp) (by rw [iot_len]; omega) (by simp) fun x hx => by
    have hr := iot_mem.mp hx
    have e4 := hf H ho hr.1 hr.2 (hg x hr.1 hr.2)
    refine ⟨_, [some (famD F), some (ft n w), some (.int x)], by simp; rfl, by simp [e4, ws], by simp⟩]
  have e5 := tup_fl true n (ws n w g)
  unfold fl at e5
  simp [-List.map_map, e5]
theorem ws_Lg {n : Int} {F : List Bag} (H : Fam n F) {w : Int → Nat} {g : Int → Int → Nat} (hw : Wok n w) (hg : ∀ a, 0 ≤ a → a < n → IsD n F a (g a)) {a : Int} (a0 : 0 ≤ a) (a1 : a < n) : Lg (ws n w g a) 32 := by
  have := Lg_nsum (f := fun x => w x * g a x) (k := 6) (j := 26) (l := iot n) (by rw [iot_len]; have := H.n60; omega) fun x hx => by
    have hr := iot_mem.mp hx
    exact (hw.Lg hr.1 hr.2).mul ((hg a a0 a1).Lg H hr.1 hr.2)
  exact this
theorem enum_iot {n : Int} (h : Int → D) : enumD 0 ((iot n).map h) = (iot n).map fun k => .tup [.int k, h k] := by
  apply List.ext_getElem?
  intro i
  by_cases hi : i < n.toNat
  · have hl : i < (enumD 0 ((iot n).map h)).length := by rw [enumD_length, List.length_map, iot_len]; exact hi
    obtain ⟨e, he⟩ : ∃ e, (enumD 0 ((iot n).map h))[i]? = some e := ⟨_, List.getElem?_eq_getElem hl⟩
    obtain ⟨d, hd, rfl⟩ := enumD_get _ _ _ _ he
    rw [he, List.getElem?_map, iot_get hi]
    rw [List.getElem?_map, iot_get hi] at hd
    cases hd
    simp
  · rw [List.getElem?_eq_none (by rw [enumD_length, List.length_map, iot_len]; omega), List.getElem?_eq_none (by rw [List.length_map, iot_len]; omega)]
def SpBest (f : Fn) : Prop := ∀ {n : Int} {F : List Bag} {w : Int → Nat} {g : Int → Int → Nat}, Fam n F → Wok n w → (∀ a, 0 ≤ a → a < n → IsD n F a (g a)) → f [famD F, ft n w] = (minTF (.lst true ((iot n).map fun k => .tup [.int ((ws n w g k : Nat) : Int), .int k]))).map fun z => (z, [some (famD F), some (ft n w)])
theorem best_sp {cw : Fn} (hw : SpWSums cw) : SpBest (f_best_place cw) := fun {n F w g} H ho hg => by
  have h60 := H.n60
  have h2 := H.n2
  have e1 := hw H ho hg
  obtain ⟨j, j0, j1, em, _, _⟩ := least (n := n) (by omega) true (ws n w g)
  have e2 : mEnum (mCall cw (mCons (mTake 0) (mCons (mTake 1) mNil)) [some 0, some 1]) [some (famD F), some (ft n w), none, none] = some ((iot n).map fun k => D.tup [.int k, .int ((ws n w g k : Nat) : Int)], [some (famD F), some (ft n w), none, none]) := by
    have e3 := seq_ft n (ws n w g)
    have e4 := enum_iot (n := n) fun j => D.int ((ws n w g j : Nat) : Int)
    simp [e1, e3, e4]
  rw [em]
  unfold f_best_place m_best_place
  simp [runD]
  rw [mLc_a (l := iot n) (fun k => D.tup [.int k, .int ((ws n w g k : Nat) : Int)]) (fun k => D.tup [.int ((ws n w g k : Nat) : Int), .int k]) (s := [some (famD F), some (ft n w), none, none]) (st0 := [some (famD F), some (ft n w), none, none]) e2 (by simp) (by rw [iot_len]; omega) (by simp) fun x hx => by
    refine ⟨_, [some (famD F), some (ft n w), some (.int x), some (.int ((ws n w g x : Nat) : Int))], rfl, by simp, by simp⟩]
  simp [em]
def SpWPairs (f : Fn) : Prop := ∀ {n : Int} {F : List Bag} {w : Int → Nat} {g : Int → Int → Nat}, Fam n F → Wok n w → (∀ a, 0 ≤ a → a < n → IsD n F a (g a)) → f [famD F, ft n w] = some (.int ((nsum (fun x => w x * ws n w g x) (iot n) / 2 : Nat) : Int), [some (famD F), some (ft n w)])
theorem wpairs_sp {cn cw cs : Fn} (hn : SpNeed cn) (hw : SpNeedW cw) (hs : SpWSums cs) : SpWPairs (f_weighed_pairs cn cw cs) := fun {n F w g} H ho hg => by
  have h60 := H.n60
  have h2 := H.n2
  have e1 := hn H
  have e2 := hw H ho
  have e3 := hs H ho hg
  have ez : mZipM (mCons (mVar 1) (mCons (mCall cs (mCons (mTake 0) (mCons (mTake 1) mNil)) [some 0, some 1]) mNil)) [some (famD F), some (ft n w), none, none] = some ((iot n).map fun x => D.tup [.int ((w x : Nat) : Int), .int ((ws n w g x : Nat) : Int)], [some (famD F), some (ft n w), none, none]) := by
    have e4 : zipD ((iot n).map fun j => D.int ((w j : Nat) : Int)) ((iot n).map fun j => D.int ((ws n w g j : Nat) : Int)) = _ := zip_map _ _ (iot n)
    have e5 : ∀ w, frzA (ft n w) = .tup ((iot n).map fun j => D.int ((w j : Nat) : Int)) := fun _ => rfl
    unfold mZipM
    simp [e3, e5, e4]
  unfold f_weighed_pairs m_weighed_pairs
  simp [-ev_fdiv, runD, e1, e2]
  rw [mLc_a (l := iot n) (fun x => D.tup [.int ((w x : Nat) : Int), .int ((ws n w g x : Nat) : Int)]) (fun x => .int ((w x * ws n w g x : Nat) : Int)) (s := [some (famD F), some (ft n w), none, none]) (st0 := [some (famD F), some (ft n w), none, none]) ez (by simp) (by rw [iot_len]; omega) (by simp) fun x hx => by
    have hr := iot_mem.mp hx
    have e4 : mulF (.int ((w x : Nat) : Int)) (.int ((ws n w g x : Nat) : Int)) = some (.int ((w x * ws n w g x : Nat) : Int)) := mulN 20 32 (ho.Lg hr.1 hr.2) (ws_Lg H ho hg hr.1 hr.2) rfl rfl (by omega)
    refine ⟨_, [some (famD F), some (ft n w), some (.int ((w x : Nat) : Int)), some (.int ((ws n w g x : Nat) : Int))], rfl, ?_, by simp⟩
    generalize ((w x * ws n w g x : Nat) : Int) = z at *
    simp [-ev_mul, e4]]
  have es := sum_map true (fun x => w x * ws n w g x) (iot n)
  have ed : fdivF (.int ((nsum (fun x => w x * ws n w g x) (iot n) : Nat) : Int)) (.int 2) = some (.int ((nsum (fun x => w x * ws n w g x) (iot n) / 2 : Nat) : Int)) := fdivN 8 (by omega) (Lg.of8 (by omega)) rfl rfl (by omega)
  generalize (iot n).map (fun x => D.int ((w x * ws n w g x : Nat) : Int)) = W at *
  generalize hz : ((nsum (fun x => w x * ws n w g x) (iot n) / 2 : Nat) : Int) = z at *
  simp [-ev_fdiv, es, ed]
  omega
end Pl
/-! Ds9: comprehensions that change what they see -/
namespace Pl
open Va L2 PySem

theorem lcL_inv {α : Type} {t : Tgt} {me : M D} {own : List Nat} (enc : α → D) (R : Nat → List D → Va.S → Prop) : ∀ {l : List α} {k : Nat} {out : List D} {st : Va.S}, R k out st →
    (∀ i (hi : i < l.length) out st, R (k + i) out st → ∃ s1 d s2, asgT t (enc l[i]) st = some s1 ∧ me s1 = some (d, s2) ∧ R (k + i + 1) (out ++ [d]) (wipeS s2 own)) →
    ∃ out' st', lcL t mYes me own (l.map enc) st = some (out', st') ∧ R (k + l.length) (out ++ out') st'
  | [], k, out, st, h0, _ => ⟨[], st, rfl, by simpa using h0⟩
  | a :: l, k, out, st, h0, hs => by
    obtain ⟨s1, d, s2, h1, h2, h3⟩ := hs 0 (by simp) out st h0
    obtain ⟨out', st', e, h⟩ := lcL_inv enc R (l := l) (k := k + 1) (out := out ++ [d]) (st := wipeS s2 own) h3 fun i hi out st hR => by
      have := hs (i + 1) (by simpa using hi) out st (by rw [show k + (i + 1) = k + 1 + i by omega]; exact hR)
      rw [show k + (i + 1) = k + 1 + i by omega] at this
      exact this
    refine ⟨d :: out', st', ?_, ?_⟩
    · rw [List.map_cons]
      unfold lcL
      have h1' : asgT t (enc a) st = some s1 := h1
      simp only [h1', mYes, h2, e]
    · rw [List.length_cons, show k + (l.length + 1) = k + 1 + l.length by omega]
      rw [List.append_assoc] at h
      exact h
theorem mLc_inv {α : Type} {mi : M (List D)} {t : Tgt} {me : M D} {own : List Nat} {st s : Va.S} {l : List α} (enc : α → D) (R : Nat → List D → Va.S → Prop) (hmi : mi st = some (l.map enc, s)) (ho : ownOk s own = true) (hl : l.length ≤ 16777216) (h0 : R 0 [] (wipeS s own))
    (hs : ∀ i (hi : i < l.length) out st, R i out st → ∃ s1 d s2, asgT t (enc l[i]) st = some s1 ∧ me s1 = some (d, s2) ∧ R (i + 1) (out ++ [d]) (wipeS s2 own)) :
    ∃ out st', mLc mi t mYes me own st = some (.lst true out, backS s st' own) ∧ R l.length out st' := by
  obtain ⟨out, st', e, h⟩ := lcL_inv (t := t) (me := me) (own := own) enc R (l := l) (k := 0) (out := []) (st := wipeS s own) h0 fun i hi out st hR => by
    rw [Nat.zero_add] at hR ⊢
    exact hs i hi out st hR
  rw [Nat.zero_add, List.nil_append] at h
  refine ⟨out, st', ?_, h⟩
  unfold mLc
  rw [hmi]
  dsimp only
  rw [ho, ble_ok (by rw [List.length_map]; exact hl)]
  simp only [Bool.and_self, e]
theorem nsum_mul (c : Nat) (f : Int → Nat) : ∀ l : List Int, c * nsum f l = nsum (fun x => c * f x) l
  | [] => rfl
  | x :: l => by
    show c * (f x + nsum f l) = c * f x + nsum (fun x => c * f x) l
    rw [Nat.mul_add, nsum_mul c f l]
end Pl
/-! Ds10: the way from a bead to another -/
namespace Pl
open Va L2 PySem

theorem Bck.dist {n a : Int} {F : List Bag} {L : List Int} {E : List (Int × Int × Int)} {g : Int → Option (Int × Int)} (B : Bck n F a L E g) : ∃ d : Int → Nat, d a = 0 ∧ ∀ e ∈ E, d e.1 = d e.2.2 + 1 := by
  have hE1 : ∀ j e, E[j]? = some e → L[j + 1]? = some e.1 := fun j e he => by
    rw [B.hL, List.getElem?_cons_succ, List.getElem?_map, he]; rfl
  have hnot : ∀ j e, E[j]? = some e → e.1 ∉ L.take (j + 1) := fun j e he hm => by
    have h3 := hE1 j e he
    obtain ⟨i, hi⟩ := List.mem_iff_getElem?.mp hm
    have hil : i < j + 1 := by
      have := (List.getElem?_eq_some_iff.mp hi).1
      rw [List.length_take] at this
      omega
    rw [List.getElem?_take_of_lt hil] at hi
    have h4 := (List.getElem?_eq_some_iff.mp hi).1
    have := (List.getElem?_inj h4 B.nd).mp (hi.trans h3.symm)
    omega
  have key : ∀ j, j ≤ E.length → ∃ d : Int → Nat, d a = 0 ∧ ∀ i, i < j → ∀ e, E[i]? = some e → d e.1 = d e.2.2 + 1 := by
    intro j
    induction j with
    | zero => exact fun _ => ⟨fun _ => 0, rfl, fun i hi => by omega⟩
    | succ j ih =>
      intro hj
      obtain ⟨d, hz, hd⟩ := ih (by omega)
      have hej : E[j]? = some E[j] := List.getElem?_eq_getElem hj
      have hem := List.getElem_mem hj
      generalize E[j] = e at *
      obtain ⟨hbF, k0, k1, hx, hp, hne⟩ := B.hE e hem
      have hO := B.hO j e hej
      have hn := hnot j e hej
      have haL : a ∈ L.take (j + 1) := by rw [B.hL]; simp
      refine ⟨fun y => if y = e.1 then d e.2.2 + 1 else d y, ?_, fun i hi e' he' => ?_⟩
      · have : a ≠ e.1 := fun q => hn (q ▸ haL)
        dsimp only
        rw [if_neg this]
        exact hz
      · dsimp only
        by_cases hij : i = j
        · subst hij
          rw [hej] at he'
          cases he'
          rw [if_pos rfl, if_neg (fun q => hne q.symm)]
        · have hO' := B.hO i e' he'
          have h5 := hE1 i e' he'
          have hsub : ∀ y, y ∈ L.take (i + 1) → y ∈ L.take (j + 1) := fun y hy => (List.take_subset_take_left L (by omega)) hy
          have h6 : e'.1 ∈ L.take (j + 1) := by
            refine List.mem_iff_getElem?.mpr ⟨i + 1, ?_⟩
            rw [List.getElem?_take_of_lt (by omega)]
            exact h5
          have n1 : e'.1 ≠ e.1 := fun q => hn (q ▸ h6)
          have n2 : e'.2.2 ≠ e.1 := fun q => hn (q ▸ hsub _ hO')
          rw [if_neg n1, if_neg n2]
          exact hd i (by omega) e' he'
  obtain ⟨d, hz, hd⟩ := key E.length (Nat.le_refl _)
  exact ⟨d, hz, fun e he => by
    obtain ⟨j, hj⟩ := List.mem_iff_getElem?.mp he
    exact hd j (List.getElem?_eq_some_iff.mp hj).1 e hj⟩
/-- one step: through bag k from x to y, the bead of k that is nearest -/
structure Stp (F : List Bag) (d : Int → Nat) (x k y : Int) : Prop where
  k0 : 0 ≤ k
  k1 : k < F.length
  mem : bagAt F k ∈ F
  hx : x ∈ bagAt F k
  hy : y ∈ bagAt F k
  fall : d x = d y + 1
  least : ∀ z ∈ bagAt F k, d y ≤ d z
theorem Bck.stp {n a : Int} {F : List Bag} (H : Fam n F) {L : List Int} {E : List (Int × Int × Int)} {g : Int → Option (Int × Int)} (B : Bck n F a L E g) {d : Int → Nat} (hd : IsD n F a d) {x : Int} (x0 : 0 ≤ x) (x1 : x < n) (hx : x ≠ a) : ∃ k y, g x = some (k, y) ∧ Stp F d x k y ∧ 0 ≤ y ∧ y < n := by
  obtain ⟨d0, hz, h0⟩ := B.dist
  have hd0 := B.isD H hz h0
  have hu : ∀ y, 0 ≤ y → y < n → d y = d0 y := fun y y0 y1 => hd.uniq H hd0 y0 y1
  have hxL := (B.mem x).mpr ⟨x0, x1⟩
  rw [B.hL] at hxL
  rcases List.mem_cons.mp hxL with rfl | hxL
  · exact absurd rfl hx
  obtain ⟨e, he, rfl⟩ := List.mem_map.mp hxL
  obtain ⟨x, k, p⟩ := e
  dsimp only at *
  obtain ⟨hbF, k0, k1, hxb, hpb, hne⟩ := B.hE _ he
  dsimp only at *
  have hpr := H.rng _ hbF p hpb
  have fall := h0 _ he
  dsimp only at fall
  refine ⟨k, p, B.not _ he, ⟨k0, k1, hbF, hxb, hpb, by rw [hu x x0 x1, hu p hpr.1 hpr.2, fall], fun z hz => ?_⟩, hpr.1, hpr.2⟩
  have hzr := H.rng _ hbF z hz
  rw [hu p hpr.1 hpr.2, hu z hzr.1 hzr.2]
  obtain ⟨p', hp', hall⟩ := B.bag k k0 k1
  by_cases hxp : x = p'
  · have h3 := h0 _ (hall p hpb fun q => hne (hxp.trans q.symm))
    dsimp only at h3
    rw [← hxp] at h3
    omega
  · have h3 := B.not _ (hall x hxb hxp)
    have h4 := B.not _ he
    dsimp only at h3 h4
    rw [h4] at h3
    have hpp : p = p' := by injection h3 with h3; injection h3 with _ h3
    by_cases hzp : z = p'
    · rw [hzp, hpp]; exact Nat.le_refl _
    · have h5 := h0 _ (hall z hz hzp)
      dsimp only at h5
      rw [h5, hpp]
      omega
/-- the beads of a way -/
def bds (one : Int) (P : List (Int × Int)) : List Int := one :: P.map (·.2)
def wayL (one : Int) (P : List (Int × Int)) : List Int := one :: P.flatMap fun p => [p.1, p.2]
theorem wayL_snoc (one : Int) (P : List (Int × Int)) (k y : Int) : wayL one P ++ [k, y] = wayL one (P ++ [(k, y)]) := by
  unfold wayL
  rw [List.flatMap_append]
  rfl
theorem wayL_len (one : Int) (P : List (Int × Int)) : (wayL one P).length = 2 * P.length + 1 := by
  unfold wayL
  induction P with
  | nil => rfl
  | cons p P ih => simp at ih ⊢; omega
theorem bds_snoc (one : Int) (P : List (Int × Int)) (k y : Int) : bds one (P ++ [(k, y)]) = bds one P ++ [y] := by
  unfold bds
  rw [List.map_append]
  rfl
theorem bds_len (one : Int) (P : List (Int × Int)) : (bds one P).length = P.length + 1 := by simp [bds]
structure Chn (F : List Bag) (d : Int → Nat) (one : Int) (P : List (Int × Int)) (x : Int) : Prop where
  last : (bds one P)[P.length]? = some x
  stp : ∀ (j : Nat) (e : Int × Int), P[j]? = some e → ∃ u, (bds one P)[j]? = some u ∧ Stp F d u e.1 e.2
  dst : ∀ (j : Nat) (u : Int), (bds one P)[j]? = some u → d u + j = d one
theorem Chn.nil (F : List Bag) (d : Int → Nat) (one : Int) : Chn F d one [] one := ⟨rfl, fun j e h => by simp at h, fun j u h => by
  match j, h with
  | 0, h => cases h; rfl
  | j + 1, h => simp [bds] at h⟩
theorem Chn.snoc {F : List Bag} {d : Int → Nat} {one x k y : Int} {P : List (Int × Int)} (C : Chn F d one P x) (s : Stp F d x k y) : Chn F d one (P ++ [(k, y)]) y := by
  have hl := bds_len one P
  refine ⟨?_, fun j e h => ?_, fun j u h => ?_⟩
  · rw [bds_snoc, List.length_append, List.getElem?_append_right (by simp; omega)]
    simp [hl]
  · rw [bds_snoc]
    by_cases hj : j < P.length
    · rw [List.getElem?_append_left hj] at h
      obtain ⟨u, hu, hs⟩ := C.stp j e h
      exact ⟨u, by rw [List.getElem?_append_left (by omega)]; exact hu, hs⟩
    · rw [List.getElem?_append_right (by omega)] at h
      have hj2 : j = P.length := by
        have := (List.getElem?_eq_some_iff.mp h).1
        simp at this
        omega
      subst hj2
      rw [Nat.sub_self] at h
      cases h
      exact ⟨x, by rw [List.getElem?_append_left (by omega)]; exact C.last, s⟩
  · rw [bds_snoc] at h
    by_cases hj : j < (bds one P).length
    · rw [List.getElem?_append_left hj] at h
      exact C.dst j u h
    · rw [List.getElem?_append_right (by omega)] at h
      have hj2 : j = P.length + 1 := by
        have := (List.getElem?_eq_some_iff.mp h).1
        simp at this
        omega
      subst hj2
      rw [hl, Nat.sub_self] at h
      cases h
      have h1 := C.dst _ _ C.last
      have h2 := s.fall
      omega
theorem Chn.len {F : List Bag} {d : Int → Nat} {one x : Int} {P : List (Int × Int)} (C : Chn F d one P x) : P.length + d x = d one := by
  have := C.dst _ _ C.last
  omega
theorem Chn.nd_bds {F : List Bag} {d : Int → Nat} {one x : Int} {P : List (Int × Int)} (C : Chn F d one P x) : (bds one P).Nodup := by
  refine List.pairwise_iff_getElem.mpr fun i j hi hj hij e => ?_
  have h1 := C.dst _ _ (List.getElem?_eq_getElem hi)
  have h2 := C.dst _ _ (List.getElem?_eq_getElem hj)
  rw [e] at h1
  omega
theorem Chn.nd_bags {F : List Bag} {d : Int → Nat} {one x : Int} {P : List (Int × Int)} (C : Chn F d one P x) : (P.map (·.1)).Nodup := by
  refine List.pairwise_iff_getElem.mpr fun i j hi hj hij e => ?_
  rw [List.length_map] at hi hj
  rw [List.getElem_map, List.getElem_map] at e
  have e' : P[i].1 = P[j].1 := e
  obtain ⟨u, hu, su⟩ := C.stp i _ (List.getElem?_eq_getElem (by omega))
  obtain ⟨v, hv, sv⟩ := C.stp j _ (List.getElem?_eq_getElem hj)
  have h1 := C.dst _ _ hu
  have h2 := C.dst _ _ hv
  have h3 := su.fall
  have h4 := sv.fall
  have h5 := su.least _ (e' ▸ sv.hy)
  have h6 := sv.least _ (e' ▸ su.hy)
  omega
def SpWay (f : Fn) : Prop := ∀ {n one other : Int} {F : List Bag} {d : Int → Nat}, Fam n F → 0 ≤ one → one < n → 0 ≤ other → other < n → IsD n F other d → ∃ P, Chn F d one P other ∧ f [famD F, .int one, .int other] = some (.lst true (intsD (wayL one P)), [some (famD F), none, some (.int other)])
theorem way_sp {cb : Fn} (hb : SpBack cb) : SpWay (f_way_of cb) := fun {n one other F d} H a0 a1 b0 b1 hd => by
  have h60 := H.n60
  have hdl := hd.lt H a0 a1
  obtain ⟨L, E, g, B, e1⟩ := hb H b0 b1
  obtain ⟨st', e, P, x6, rfl, C⟩ := while_inv (c := mB (m2 (.v 1) (.v 2) (cmpF .NotEq))) (b := mSeq (mAsg (.t [6, 1]) (m2 (.v 4) (.v 1) ixF)) (mSet 3 (m2 (.v 3) (.e (mLst (mCons (mVar 6) (mCons (mVar 1) mNil)))) addF)))
    (Post := fun s => ∃ P x6, s = [some (famD F), some (.int other), some (.int other), some (.lst true (intsD (wayL one P))), some (gl false n g), some (.lst false (intsD L)), x6] ∧ Chn F d one P other)
    (fun μ s => ∃ P x x6, s = [some (famD F), some (.int x), some (.int other), some (.lst true (intsD (wayL one P))), some (gl false n g), some (.lst false (intsD L)), x6] ∧ Chn F d one P x ∧ 0 ≤ x ∧ x < n ∧ μ = d x) (fun μ s ⟨P, x, x6, es, C, x0, x1, eμ⟩ => by
      subst es eμ
      by_cases h : x = other
      · subst h
        exact ⟨false, _, by simp [neI], fun _ => ⟨P, x6, rfl, C⟩, fun q => by cases q⟩
      · obtain ⟨k, y, hg, s, y0, y1⟩ := B.stp H hd x0 x1 h
        have hix := ix_gl (o := false) (g := g) x0 x1
        rw [hg] at hix
        have hq : necF (.int x) (.int other) = some (.bl true) := by simp [h]
        have hCl := C.len
        have hfl := wayL_len one P
        have hadd := add_later (a := wayL one P) (c := [k, y]) (by simp; omega)
        rw [wayL_snoc] at hadd
        have hbD : bD (some (k, y)) = .tup [.int k, .int y] := rfl
        rw [hbD] at hix
        refine ⟨true, _, by simp [hq]; rfl, (fun q => by cases q), fun _ => ⟨[some (famD F), some (.int y), some (.int other), some (.lst true (intsD (wayL one (P ++ [(k, y)])))), some (gl false n g), some (.lst false (intsD L)), some (.int k)], ?_, d y, ?_, P ++ [(k, y)], y, _, rfl, C.snoc s, y0, y1, rfl⟩⟩
        · generalize wayL one (P ++ [(k, y)]) = V2 at *
          generalize wayL one P = V1 at *
          have hadd' : addF (.lst true (intsD V1)) (.lst true [.int k, .int y]) = some (.lst true (intsD V2)) := hadd
          simp [-ev_add, mAsg, hix, hadd']
        · have := s.fall
          omega) 100000 (d one) [some (famD F), some (.int one), some (.int other), some (.lst true (intsD (wayL one []))), some (gl false n g), some (.lst false (intsD L)), none] ⟨[], one, none, rfl, Chn.nil F d one, a0, a1, rfl⟩ (by omega)
  refine ⟨P, C, ?_⟩
  unfold f_way_of m_way_of
  have hfl : wayL one [] = [one] := rfl
  rw [hfl] at e
  have hia : Va.imm (D.tup [gl false n g, .lst false (intsD L)]) = true := rfl
  generalize intsD (wayL one P) = W at *
  generalize intsD L = V at *
  have e' : mWhile (mB (m2 (.v 1) (.v 2) (cmpF .NotEq))) (mSeq (mAsg (.t [6, 1]) (m2 (.v 4) (.v 1) ixF)) (mSet 3 (m2 (.v 3) (.e (mLst (mCons (mVar 6) (mCons (mVar 1) mNil)))) addF))) 100000 [some (famD F), some (.int one), some (.int other), some (.lst true [.int one]), some (gl false n g), some (.lst false V), none] = _ := e
  simp [runD, e1, mAsg, hia, e']
end Pl
/-! Ds11: bead_way, far, far_from, _law_ints; the parts of a way -/
namespace Pl
open Va L2 PySem

@[simp] theorem ev_mSlS (o1 : Opd) (lo hi : Option (M D)) (c : Int) (st : Va.S) : mSlS o1 lo hi c st = (match o1.run st with
  | some (r1, s1) => match mPart lo s1 with
    | some (l, s2) => match mPart hi s2 with
      | some (h, s3) => match o1.val r1 s3 with
        | some a => match stepF l h c a with
          | some z => some (z, s3)
          | none => none
        | none => none
      | none => none
    | none => none
  | none => none) := rfl
@[simp] theorem ev_mRg3 (m m' m3 : M D) (st : Va.S) : mRg3 m m' m3 st = (match m st with
  | some (.int a, s) => match m' s with
    | some (.int b, s') => match m3 s' with
      | some (.int c, s3) => match decide (c ≠ 0) && decide (c.natAbs < 1073741824) && Builtin.Range.small a b c && decide (0 ≤ Builtin.Range.rangeSize a b c) with
        | true => some (rg3D a b c, s3)
        | false => none
      | _ => none
    | _ => none
  | _ => none) := rfl
theorem nin_bag (x : Int) (b : Bag) : ninF (.int x) (bagD b) = some (.bl (!decide (x ∈ b))) := by
  have h := in_bag x b
  unfold inF at h
  unfold ninF
  cases hb : inB (.int x) (bagD b) with
  | none => rw [hb] at h; cases h
  | some c =>
    rw [hb] at h
    have : c = decide (x ∈ b) := by
      have h2 : some (D.bl c) = some (D.bl (decide (x ∈ b))) := h
      injection h2 with h2; injection h2
    subst this
    rfl
def SpBWay (f : Fn) : Prop := ∀ {n one other : Int} {F : List Bag} {d : Int → Nat}, Fam n F → 0 ≤ one → one < n → 0 ≤ other → other < n → IsD n F other d → ∃ P, Chn F d one P other ∧ f [famD F, .int one, .int other] = some (bagD (wayL one P), [some (famD F), some (.int one), some (.int other)])
theorem bway_sp {cn cb cw : Fn} (hn : SpNeed cn) (hb : SpNeedBead cb) (hw : SpWay cw) : SpBWay (f_bead_way cn cb cw) := fun {n one other F d} H a0 a1 b0 b1 hd => by
  have e1 := hn H
  have e2 := hb H a0 a1
  have e3 := hb H b0 b1
  obtain ⟨P, C, e4⟩ := hw H a0 a1 b0 b1 hd
  refine ⟨P, C, ?_⟩
  unfold f_bead_way m_bead_way
  generalize wayL one P = W at *
  simp [runD, e1, e2, e3, e4]
def SpFar2 (f : Fn) : Prop := ∀ {n one other : Int} {F : List Bag} {d : Int → Nat}, Fam n F → 0 ≤ one → one < n → 0 ≤ other → other < n → IsD n F one d → f [famD F, .int one, .int other] = some (.int ((d other : Nat) : Int), [some (famD F), some (.int one), some (.int other)])
theorem far2_sp {cn cb cf : Fn} (hn : SpNeed cn) (hb : SpNeedBead cb) (hf : SpFar cf) : SpFar2 (f_far cn cb cf) := fun {n one other F d} H a0 a1 b0 b1 hd => by
  have e1 := hn H
  have e2 := hb H a0 a1
  have e3 := hb H b0 b1
  obtain ⟨d', hd', e4⟩ := hf H a0 a1
  have e5 : fl true n d' = fl true n d := fl_congr fun j j0 j1 => hd'.uniq H hd j0 j1
  rw [e5] at e4
  have e6 := ix_fl (o := true) (g := d) b0 b1
  unfold f_far m_far
  simp [runD, e1, e2, e3, e4, e6]
def SpFarF (f : Fn) : Prop := ∀ {n one : Int} {F : List Bag} {d : Int → Nat}, Fam n F → 0 ≤ one → one < n → IsD n F one d → f [famD F, .int one] = some (ft n d, [some (famD F), some (.int one)])
theorem farf_sp {cn cb cf : Fn} (hn : SpNeed cn) (hb : SpNeedBead cb) (hf : SpFar cf) : SpFarF (f_far_from cn cb cf) := fun {n one F d} H a0 a1 hd => by
  have e1 := hn H
  have e2 := hb H a0 a1
  obtain ⟨d', hd', e4⟩ := hf H a0 a1
  have e5 : fl true n d' = fl true n d := fl_congr fun j j0 j1 => hd'.uniq H hd j0 j1
  rw [e5] at e4
  have e6 := tup_fl true n d
  unfold f_far_from m_far_from
  simp [runD, e1, e2, e4, e6]
def SpInts (f : Fn) : Prop := ∀ {b : List Int}, b.length ≤ 1000000 → f [bagD b] = some (.bl true, [some (bagD b)])
theorem ints_sp : SpInts f__law_ints := fun {b} hb => by
  have e1 : isiF .int = isiF .int := rfl
  unfold f__law_ints m__law_ints
  simp [runD]
  rw [mLc_af (l := b) D.int D.int (fun _ => false) (s := [some (bagD b), none]) (st0 := [some (bagD b), none]) (by simp [mItems]) (by simp) (by omega) (by simp) fun x hx => by
    have e1 : isiF .int (.int x) = some (.bl true) := rfl
    have e2 : isiF .bool (.int x) = some (.bl false) := rfl
    refine ⟨_, [some (bagD b), some (.int x)], by simp; rfl, by simp [e1, e2], (fun q => by cases q), by simp⟩]
  have e : b.filter (fun _ => false) = [] := by simp
  have e3 : eqcF (.lst true []) (.lst true []) = some (.bl true) := rfl
  rw [e]
  simp [e3]

theorem wayL_cons (one : Int) (p : Int × Int) (P : List (Int × Int)) : wayL one (p :: P) = one :: p.1 :: wayL p.2 P := rfl
theorem way_even : ∀ (P : List (Int × Int)) (one : Int) (j : Nat), (wayL one P)[2 * j]? = (bds one P)[j]?
  | [], one, 0 => rfl
  | [], one, j + 1 => by simp [wayL, bds]
  | p :: P, one, 0 => rfl
  | p :: P, one, j + 1 => by
    rw [wayL_cons, show 2 * (j + 1) = 2 * j + 1 + 1 by omega, List.getElem?_cons_succ, List.getElem?_cons_succ, way_even P p.2 j]
    rfl
theorem way_odd : ∀ (P : List (Int × Int)) (one : Int) (j : Nat), (wayL one P)[2 * j + 1]? = (P.map (·.1))[j]?
  | [], one, j => by simp [wayL]
  | p :: P, one, 0 => rfl
  | p :: P, one, j + 1 => by
    rw [wayL_cons, show 2 * (j + 1) + 1 = 2 * j + 1 + 1 + 1 by omega, List.getElem?_cons_succ, List.getElem?_cons_succ, way_odd P p.2 j]
    rfl
theorem pick_rng {α : Type} (L : List α) : ∀ m, m ≤ L.length → (List.range m).filterMap (fun k => L[k]?) = L.take m
  | 0, _ => rfl
  | m + 1, h => by
    rw [List.range_succ, List.filterMap_append, pick_rng L m (by omega), List.take_succ]
    rw [List.getElem?_eq_getElem (show m < L.length by omega)]
    simp [List.getElem?_eq_getElem (show m < L.length by omega)]
theorem ks_even (m : Nat) : ksT (2 * m + 1) none none 2 = (List.range (m + 1)).map fun k => 2 * k := by
  have e1 : Builtin.Slice.sliceAdjust none none 2 ((2 * m + 1 : Nat) : Int) = (0, ((2 * m + 1 : Nat) : Int)) := rfl
  have e2 : Builtin.Slice.slicePlaces 0 ((2 * m + 1 : Nat) : Int) 2 = m + 1 := by
    unfold Builtin.Slice.slicePlaces
    rw [if_pos (by decide), if_pos (by omega)]
    omega
  unfold ksT
  rw [e1]
  dsimp only
  rw [e2]
  refine List.map_congr_left fun k _ => ?_
  omega
theorem ks_odd (m : Nat) : ksT (2 * m + 1) (some 1) none 2 = (List.range m).map fun k => 2 * k + 1 := by
  have e1 : Builtin.Slice.sliceAdjust (some 1) none 2 ((2 * m + 1 : Nat) : Int) = (1, ((2 * m + 1 : Nat) : Int)) := by
    unfold Builtin.Slice.sliceAdjust
    simp
    omega
  have e2 : Builtin.Slice.slicePlaces 1 ((2 * m + 1 : Nat) : Int) 2 = m := by
    unfold Builtin.Slice.slicePlaces
    rw [if_pos (by decide)]
    by_cases h : m = 0
    · subst h; rfl
    · rw [if_pos (by omega)]
      omega
  unfold ksT
  rw [e1]
  dsimp only
  rw [e2]
  refine List.map_congr_left fun k _ => ?_
  omega
theorem step_even {one : Int} {P : List (Int × Int)} (h : P.length ≤ 1000) : stepF none none 2 (bagD (wayL one P)) = some (bagD (bds one P)) := by
  show (match Nat.ble (ksT (intsD (wayL one P)).length none none 2).length LN with | true => some (D.tup (picks (ksT (intsD (wayL one P)).length none none 2) (intsD (wayL one P)))) | false => none) = _
  rw [show (intsD (wayL one P)).length = 2 * P.length + 1 by rw [List.length_map, wayL_len], ks_even]
  rw [ble_ok (by simp; omega)]
  unfold picks bagD
  rw [List.filterMap_map]
  have : (fun (k : Nat) => (intsD (wayL one P))[2 * k]?) = fun k => (intsD (bds one P))[k]? := by
    funext k
    rw [List.getElem?_map, List.getElem?_map, way_even]
  show some (D.tup ((List.range (P.length + 1)).filterMap fun (k : Nat) => (intsD (wayL one P))[2 * k]?)) = _
  rw [this, pick_rng _ _ (by rw [List.length_map, bds_len]; omega), List.take_of_length_le (by rw [List.length_map, bds_len]; omega)]
theorem step_odd {one : Int} {P : List (Int × Int)} (h : P.length ≤ 1000) : stepF (some 1) none 2 (bagD (wayL one P)) = some (bagD (P.map (·.1))) := by
  show (match Nat.ble (ksT (intsD (wayL one P)).length (some 1) none 2).length LN with | true => some (D.tup (picks (ksT (intsD (wayL one P)).length (some 1) none 2) (intsD (wayL one P)))) | false => none) = _
  rw [show (intsD (wayL one P)).length = 2 * P.length + 1 by rw [List.length_map, wayL_len], ks_odd]
  rw [ble_ok (by simp; omega)]
  unfold picks bagD
  rw [List.filterMap_map]
  have : (fun (k : Nat) => (intsD (wayL one P))[2 * k + 1]?) = fun k => (intsD (P.map (·.1)))[k]? := by
    funext k
    rw [List.getElem?_map, List.getElem?_map, way_odd]
  show some (D.tup ((List.range P.length).filterMap fun (k : Nat) => (intsD (wayL one P))[2 * k + 1]?)) = _
  rw [this, pick_rng _ _ (by simp), List.take_of_length_le (by simp)]
theorem lenset_bag {b : List Int} (h : b.length ≤ 4000) (nd : b.Nodup) : lenSetF (bagD b) = some (.int b.length) := by
  show (match toInts (intsD b) with | some l => (match Nat.ble l.length 4000 with | true => some (D.int ((udl l).length : Nat)) | false => none) | none => none) = _
  rw [toInts_ints]
  dsimp only
  rw [Nat.ble_eq_true_of_le h, udl_of nd]
theorem small_step {a b c : Int} {m : Nat} (ha : 0 ≤ a) (ha' : a < 1000000) (hb : 0 ≤ b) (hb' : b < 1000000) (hc : 0 < c) (hc' : c < 1000) (hm : m < 1000000) (e : Builtin.Range.rangeSize a b c = m) : Builtin.Range.small a b c = true := by
  unfold Builtin.Range.small
  rw [e]
  simp only [Builtin.Range.rangeFitsLong, Bool.and_eq_true, Bool.or_eq_true, decide_eq_true_eq, beq_iff_eq]
  rw [if_pos hc]
  refine ⟨by omega, .inr ?_⟩
  simp only [Bool.and_eq_true, decide_eq_true_eq]
  omega
theorem rg3_way (m : Nat) (h : m ≤ 1000) : rg3D 1 ((2 * m + 1 : Nat) : Int) 2 = ((List.range m).map fun k : Nat => D.int (1 + (k : Int) * 2)) ∧ (decide ((2 : Int) ≠ 0) && decide ((2 : Int).natAbs < 1073741824) && Builtin.Range.small 1 ((2 * m + 1 : Nat) : Int) 2 && decide (0 ≤ Builtin.Range.rangeSize 1 ((2 * m + 1 : Nat) : Int) 2)) = true := by
  have e : Builtin.Range.rangeSize 1 ((2 * m + 1 : Nat) : Int) 2 = m := by
    unfold Builtin.Range.rangeSize
    rw [if_pos (by decide)]
    by_cases h : m = 0
    · subst h; rfl
    · rw [if_pos (by omega)]
      omega
  refine ⟨?_, ?_⟩
  · unfold rg3D
    rw [e, Int.toNat_natCast]
  · rw [e]
    have : Builtin.Range.small 1 ((2 * m + 1 : Nat) : Int) 2 = true := small_step (by omega) (by omega) (by omega) (by omega) (by omega) (by omega) (m := m) (by omega) e
    rw [this, show decide ((0 : Int) ≤ (m : Int)) = true from decide_eq_true (by omega)]
    rfl
end Pl
/-! Ds12: hard_of, resistance, mean_steps (printed); gates: the bead of a bag that is nearest to a bead -/
namespace Pl
open Va L2 PySem Nm
def m_hard_of (c_way_of c_lowered c_plus : Fn) : M Fl := (mSeq (mSet 3 (mTup (mCons (mC (.int 0)) (mCons (mC (.int 1)) mNil)))) (mSeq (mFor (mItems (mSlS (.e (mCall c_way_of (mCons (mTake 0) (mCons (mTake 1) (mCons (mTake 2) mNil))) [some 0, some 1, some 2])) (some (mC (.int 1))) none 2)) (.n 4) (mSet 3 (mCall c_plus (mCons (mTake 3) (mCons (mCall c_lowered (mCons (mC (.int 2)) (mCons (m1 (.e (m2 (.v 0) (.v 4) ixF)) lenF) mNil)) [none, none]) mNil)) [some 3, none]))) (mRet (mTake 3))))
def f_hard_of (c_way_of c_lowered c_plus : Fn) : Fn := runD 5 3 (fun i => ([true, true, true] : List Bool).getD i false) (m_hard_of c_way_of c_lowered c_plus)
def m_resistance (c_need_family c_need_bead c_hard_of : Fn) : M Fl := (mSeq (mDo (mCall c_need_family (mCons (mTake 0) mNil) [some 0])) (mSeq (mDo (mCall c_need_bead (mCons (mTake 0) (mCons (mTake 1) mNil)) [some 0, some 1])) (mSeq (mDo (mCall c_need_bead (mCons (mTake 0) (mCons (mTake 2) mNil)) [some 0, some 2])) (mRet (mCall c_hard_of (mCons (mTake 0) (mCons (mTake 1) (mCons (mTake 2) mNil))) [some 0, some 1, some 2])))))
def f_resistance (c_need_family c_need_bead c_hard_of : Fn) : Fn := runD 3 3 (fun i => ([true, true, true] : List Bool).getD i false) (m_resistance c_need_family c_need_bead c_hard_of)
def m_mean_steps (c_need_family c_need_bead c_hard_of c_near_numbers c_plus c_lowered : Fn) : M Fl := (mSeq (mDo (mCall c_need_family (mCons (mTake 0) mNil) [some 0])) (mSeq (mDo (mCall c_need_bead (mCons (mTake 0) (mCons (mTake 1) mNil)) [some 0, some 1])) (mSeq (mDo (mCall c_need_bead (mCons (mTake 0) (mCons (mTake 2) mNil)) [some 0, some 2])) (mSeq (mSet2 3 4 (mCons (mCall c_hard_of (mCons (mTake 0) (mCons (mTake 1) (mCons (mTake 2) mNil))) [some 0, some 1, some 2]) (mCons (mTup (mCons (mC (.int 0)) (mCons (mC (.int 1)) mNil))) mNil))) (mSeq (mFor (mEnum (mCall c_near_numbers (mCons (mTake 0) mNil) [some 0])) (.t [5, 6]) (mSeq (mSet 7 (mCall c_plus (mCons (mTake 3) (mCons (mCall c_hard_of (mCons (mTake 0) (mCons (mTake 2) (mCons (mTake 5) mNil))) [some 0, some 2, some 5]) mNil)) [some 3, none])) (mSeq (mSet 8 (mCall c_hard_of (mCons (mTake 0) (mCons (mTake 1) (mCons (mTake 5) mNil))) [some 0, some 1, some 5])) (mSeq (mSet 9 (mCall c_plus (mCons (mTake 7) (mCons (mTup (mCons (m1 (.e (m2 (.v 8) (.e (mC (.int 0))) ixF)) negF) (mCons (m2 (.v 8) (.e (mC (.int 1))) ixF) mNil))) mNil)) [some 7, none])) (mSet 4 (mCall c_plus (mCons (mTake 4) (mCons (mCall c_lowered (mCons (m2 (.e (m2 (.v 9) (.e (mC (.int 0))) ixF)) (.v 6) mulF) (mCons (m2 (.e (mC (.int 2))) (.e (m2 (.v 9) (.e (mC (.int 1))) ixF)) mulF) mNil)) [none, none]) mNil)) [some 4, none])))))) (mRet (mTake 4)))))))
def f_mean_steps (c_need_family c_need_bead c_hard_of c_near_numbers c_plus c_lowered : Fn) : Fn := runD 10 3 (fun i => ([true, true, true] : List Bool).getD i false) (m_mean_steps c_need_family c_need_bead c_hard_of c_near_numbers c_plus c_lowered)
theorem mSeq_run {a b : M Fl} {st s : Va.S} (h : a st = some (.nx, s)) : mSeq a b st = b s := by
  show (match a st with | some (.nx, s) => b s | r => r) = _
  rw [h]
theorem runD_ret {nN n : Nat} {RO : Nat → Bool} {m : M Fl} {ds : List D} {d : D} {s : Va.S} (hl : Nat.beq ds.length n = true) (hm : m (ds.map some ++ List.replicate (nN - n) none) = some (.ret d, s)) (hs : Nat.ble n s.length = true) : runD nN n RO m ds = some (d, outsOf RO 0 n s) := by
  unfold runD
  rw [hl]
  dsimp only
  rw [hm]
  dsimp only
  rw [hs]

/-- distances in a tree of bags -/
structure Tr (n : Int) (F : List Bag) (g : Int → Int → Nat) : Prop where
  d : ∀ a, 0 ≤ a → a < n → IsD n F a (g a)
  gate : ∀ a, 0 ≤ a → a < n → ∀ k : Int, 0 ≤ k → k < F.length → ∃ p ∈ bagAt F k, ∀ x ∈ bagAt F k, x ≠ p → g a x = g a p + 1
  par : ∀ a, 0 ≤ a → a < n → ∀ k k' : Int, 0 ≤ k → k < F.length → 0 ≤ k' → k' < F.length → ∀ x y y', x ∈ bagAt F k → y ∈ bagAt F k → x ∈ bagAt F k' → y' ∈ bagAt F k' → g a x = g a y + 1 → g a x = g a y' + 1 → k = k'
theorem Tr.of {n : Int} {F : List Bag} {g : Int → Int → Nat} (H : Fam n F) {cb : Fn} (hb : SpBack cb) (hg : ∀ a, 0 ≤ a → a < n → IsD n F a (g a)) : Tr n F g := by
  have key : ∀ a, 0 ≤ a → a < n → ∀ k : Int, 0 ≤ k → k < F.length → ∃ p ∈ bagAt F k, ∀ x ∈ bagAt F k, x ≠ p → g a x = g a p + 1 := fun a a0 a1 k k0 k1 => by
    obtain ⟨L, E, q, B, _⟩ := hb H a0 a1
    obtain ⟨d0, hz, h0⟩ := B.dist
    have hd0 := B.isD H hz h0
    obtain ⟨p, hp, hall⟩ := B.bag k k0 k1
    have hm := bagAt_mem k0 k1
    refine ⟨p, hp, fun x hx hne => ?_⟩
    have hxr := H.rng _ hm x hx
    have hpr := H.rng _ hm p hp
    have := h0 _ (hall x hx hne)
    dsimp only at this
    rw [(hg a a0 a1).uniq H hd0 hxr.1 hxr.2, (hg a a0 a1).uniq H hd0 hpr.1 hpr.2, this]
  refine ⟨hg, key, fun a a0 a1 k k' k0 k1 k0' k1' x y y' hx hy hx' hy' e e' => ?_⟩
  obtain ⟨L, E, q, B, _⟩ := hb H a0 a1
  obtain ⟨d0, hz, h0⟩ := B.dist
  have hd0 := B.isD H hz h0
  have up : ∀ k : Int, 0 ≤ k → k < F.length → ∀ y, x ∈ bagAt F k → y ∈ bagAt F k → g a x = g a y + 1 → ∃ p, (x, k, p) ∈ E := fun k k0 k1 y hx hy e => by
    have hm := bagAt_mem k0 k1
    obtain ⟨p, hp, hall⟩ := B.bag k k0 k1
    by_cases hxp : x = p
    · exfalso
      have hne : y ≠ p := fun q => by rw [hxp, q] at e; omega
      have h1 := h0 _ (hall y hy hne)
      dsimp only at h1
      have hxr := H.rng _ hm x hx
      have hyr := H.rng _ hm y hy
      rw [← hxp, ← (hg a a0 a1).uniq H hd0 hxr.1 hxr.2, ← (hg a a0 a1).uniq H hd0 hyr.1 hyr.2] at h1
      omega
    · exact ⟨p, hall x hx hxp⟩
  obtain ⟨p, hp⟩ := up k k0 k1 y hx hy e
  obtain ⟨p', hp'⟩ := up k' k0' k1' y' hx' hy' e'
  have h1 := B.not _ hp
  have h2 := B.not _ hp'
  dsimp only at h1 h2
  rw [h1] at h2
  injection h2 with h2
  injection h2
/-- the bead of bag k that is nearest -/
def gt (F : List Bag) (d : Int → Nat) (k : Int) : Int := ((bagAt F k).find? fun z => (bagAt F k).all fun y => decide (d z ≤ d y)).getD 0
theorem gt_eq {F : List Bag} {d : Int → Nat} {k p : Int} (hp : p ∈ bagAt F k) (h : ∀ x ∈ bagAt F k, x ≠ p → d x = d p + 1) : gt F d k = p := by
  unfold gt
  cases hf : (bagAt F k).find? fun z => (bagAt F k).all fun y => decide (d z ≤ d y) with
  | none =>
    have := List.find?_eq_none.mp hf p hp
    exfalso
    refine this (List.all_eq_true.mpr fun y hy => decide_eq_true ?_)
    by_cases e : y = p
    · rw [e]; exact Nat.le_refl _
    · rw [h y hy e]; omega
  | some z =>
    have h1 := List.find?_some hf
    have h2 := List.mem_of_find?_eq_some hf
    have h3 := of_decide_eq_true (List.all_eq_true.mp h1 p hp)
    show z = p
    by_cases e : z = p
    · exact e
    · have := h z h2 e
      omega
section
variable {n : Int} {F : List Bag} {g : Int → Int → Nat}
theorem Tr.gt (T : Tr n F g) {a k : Int} (a0 : 0 ≤ a) (a1 : a < n) (k0 : 0 ≤ k) (k1 : k < F.length) : gt F (g a) k ∈ bagAt F k ∧ ∀ x ∈ bagAt F k, x ≠ gt F (g a) k → g a x = g a (gt F (g a) k) + 1 := by
  obtain ⟨p, hp, h⟩ := T.gate a a0 a1 k k0 k1
  rw [gt_eq hp h]
  exact ⟨hp, h⟩
theorem Tr.self (T : Tr n F g) {a k : Int} (a0 : 0 ≤ a) (a1 : a < n) (k0 : 0 ≤ k) (k1 : k < F.length) (ha : a ∈ bagAt F k) : Pl.gt F (g a) k = a := by
  obtain ⟨h1, h2⟩ := T.gt a0 a1 k0 k1
  have hz := (T.d a a0 a1).zero
  by_cases e : a = Pl.gt F (g a) k
  · exact e.symm
  · have := h2 a ha e
    omega
theorem Tr.move (T : Tr n F g) (H : Fam n F) {a p k k0 : Int} (l0 : 0 ≤ k0) (l1 : k0 < F.length) (ha : a ∈ bagAt F k0) (hp : p ∈ bagAt F k0) (m0 : 0 ≤ k) (m1 : k < F.length) (hk : k ≠ k0) : Pl.gt F (g a) k = Pl.gt F (g p) k := by
  have hm0 := bagAt_mem l0 l1
  have hm := bagAt_mem m0 m1
  have ar := H.rng _ hm0 a ha
  have pr := H.rng _ hm0 p hp
  by_cases eap : a = p
  · rw [eap]
  obtain ⟨z1, z2⟩ := T.gt ar.1 ar.2 m0 m1
  obtain ⟨w1, w2⟩ := T.gt pr.1 pr.2 m0 m1
  generalize Pl.gt F (g a) k = z at *
  generalize Pl.gt F (g p) k = w at *
  refine Decidable.byContradiction fun hne => ?_
  have zr := H.rng _ hm z z1
  have wr := H.rng _ hm w w1
  have ea := z2 w w1 fun q => hne q.symm
  have ep := w2 z z1 hne
  have lip : ∀ x, 0 ≤ x → x < n → g a x ≤ g p x + 1 ∧ g p x ≤ g a x + 1 := fun x x0 x1 => by
    rw [IsD.symm H T.d ar.1 ar.2 x0 x1, IsD.symm H T.d pr.1 pr.2 x0 x1]
    exact ⟨(T.d x x0 x1).near _ hm0 a ha p hp, (T.d x x0 x1).near _ hm0 p hp a ha⟩
  have lz := lip z zr.1 zr.2
  have lw := lip w wr.1 wr.2
  by_cases hwp : w = p
  · subst hwp
    have hz := (T.d w wr.1 wr.2).zero
    have hga : g a z = 0 := by omega
    have haz : z = a := Decidable.byContradiction fun q => by
      have := (T.d a ar.1 ar.2).pos zr.1 zr.2 q
      omega
    subst haz
    have h1 : g z w = g z z + 1 := ea
    exact hk (T.par z ar.1 ar.2 k k0 m0 m1 l0 l1 w z z w1 z1 hp ha h1 h1)
  · obtain ⟨b, hb, hwb, y, hy, e1⟩ := (T.d p pr.1 pr.2).back w wr.1 wr.2 hwp
    have yr := H.rng b hb y hy
    obtain ⟨k', hk'⟩ := List.mem_iff_getElem?.mp hb
    have hkl := (List.getElem?_eq_some_iff.mp hk').1
    have hbA := bagAt_nat hk'
    have ly := lip y yr.1 yr.2
    have nr := (T.d a ar.1 ar.2).near b hb w hwb y hy
    have e2 : g a w = g a y + 1 := by omega
    have ekk := T.par a ar.1 ar.2 k k' m0 m1 (by omega) (by omega) w z y w1 z1 (by rw [hbA]; exact hwb) (by rw [hbA]; exact hy) ea e2
    rw [← hbA, ← ekk] at hy
    have eyz : y = z := Decidable.byContradiction fun q => by
      have := z2 y hy q
      omega
    rw [eyz] at e1
    omega
end
/-! ### sums -/
theorem nsum_one_diff {f h : Int → Nat} {c : Nat} {k0 : Int} : ∀ {l : List Int}, l.Nodup → k0 ∈ l → (∀ k ∈ l, k ≠ k0 → f k = h k) → f k0 = h k0 + c → nsum f l = nsum h l + c
  | [], _, hm, _, _ => by cases hm
  | x :: l, nd, hm, hall, he => by
    have nd' := List.nodup_cons.mp nd
    show f x + nsum f l = h x + nsum h l + c
    by_cases e : x = k0
    · have : nsum f l = nsum h l := nsum_congr fun y hy => hall y (List.mem_cons_of_mem _ hy) fun q => nd'.1 (by rw [e, ← q]; exact hy)
      rw [this, e, he]
      omega
    · have ih := nsum_one_diff nd'.2 ((List.mem_cons.mp hm).resolve_left fun q => e q.symm) (fun k hk => hall k (List.mem_cons_of_mem _ hk)) he
      rw [ih, hall x (List.mem_cons_self ..) e]
      omega
theorem nsum_le {f h : Int → Nat} : ∀ {l : List Int}, (∀ x ∈ l, f x ≤ h x) → nsum f l ≤ nsum h l
  | [], _ => Nat.le_refl _
  | x :: l, hl => by
    have := nsum_le (l := l) fun y hy => hl y (List.mem_cons_of_mem _ hy)
    have h1 := hl x (List.mem_cons_self ..)
    show f x + nsum f l ≤ h x + nsum h l
    omega
theorem nsum_zero : ∀ l : List Int, nsum (fun _ => 0) l = 0
  | [] => rfl
  | x :: l => by show 0 + nsum _ l = 0; rw [nsum_zero l]
theorem nsum_swap (f : Int → Int → Nat) : ∀ (A B : List Int), nsum (fun x => nsum (f x) B) A = nsum (fun y => nsum (fun x => f x y) A) B
  | [], B => (nsum_zero B).symm
  | x :: A, B => by
    show nsum (f x) B + nsum (fun x => nsum (f x) B) A = nsum (fun y => f x y + nsum (fun x => f x y) A) B
    rw [nsum_swap f A B, nsum_add]
theorem nsum_mulr (c : Nat) (f : Int → Nat) (l : List Int) : nsum (fun x => f x * c) l = nsum f l * c := by
  rw [Nat.mul_comm, nsum_mul]
  exact nsum_congr fun x _ => Nat.mul_comm _ _
theorem bags_iot (F : List Bag) : (iot (F.length : Int)).map (bagAt F) = F := by
  apply List.ext_getElem
  · simp [iot_len]
  · intro i h1 h2
    rw [List.getElem_map]
    have : (iot (F.length : Int))[i]? = some (i : Int) := iot_get (by simp; omega)
    have e : (iot (F.length : Int))[i]'(by simpa using h1) = (i : Int) := by
      rw [List.getElem?_eq_getElem (by simpa using h1)] at this
      exact Option.some.inj this
    rw [e]
    exact bagAt_nat (List.getElem?_eq_getElem h2)
theorem bsum_iot (f : Int → Nat) (F : List Bag) (a : Int) : bsum f F a = nsum (fun k => if a ∈ bagAt F k then nsum f (bagAt F k) - f a else 0) (iot (F.length : Int)) := by
  have key : ∀ l : List Int, bsum f (l.map (bagAt F)) a = nsum (fun k => if a ∈ bagAt F k then nsum f (bagAt F k) - f a else 0) l := fun l => by
    induction l with
    | nil => rfl
    | cons k l ih =>
      show (if a ∈ bagAt F k then nsum f (bagAt F k) - f a else 0) + bsum f (l.map (bagAt F)) a = _ + _
      rw [ih]
  have := key (iot (F.length : Int))
  rwa [bags_iot] at this
end Pl
/-! Ds13: weighed ways in a tree of bags; the mean steps of a blind walker, plain -/
namespace Pl
open Va L2 PySem Nm

structure Ww (F : List Bag) (M : Nat) (w : Int → Nat) : Prop where
  pos : 0 < M
  eq : ∀ k : Int, 0 ≤ k → k < F.length → w k * (bagAt F k).length = 2 * M
/-- the weighed way between x and y: the bags with two gates -/
def Rw (F : List Bag) (g : Int → Int → Nat) (w : Int → Nat) (x y : Int) : Nat := nsum (fun k => if gt F (g x) k = gt F (g y) k then 0 else w k) (iot (F.length : Int))
section
variable {n : Int} {F : List Bag} {g : Int → Int → Nat} {w : Int → Nat} {M : Nat}
theorem Rw_self (x : Int) : Rw F g w x x = 0 := by
  unfold Rw
  rw [nsum_congr (g := fun _ => 0) fun k _ => if_pos rfl, nsum_zero]
theorem Rw_symm (x y : Int) : Rw F g w x y = Rw F g w y x := by
  unfold Rw
  refine nsum_congr fun k _ => ?_
  by_cases h : gt F (g x) k = gt F (g y) k
  · rw [if_pos h, if_pos h.symm]
  · rw [if_neg h, if_neg fun q => h q.symm]
theorem Rw_tri (x y z : Int) : Rw F g w x z ≤ Rw F g w x y + Rw F g w y z := by
  unfold Rw
  rw [← nsum_add]
  refine nsum_le fun k _ => ?_
  by_cases h1 : gt F (g x) k = gt F (g y) k
  · by_cases h2 : gt F (g y) k = gt F (g z) k
    · rw [if_pos (h1.trans h2)]; omega
    · rw [if_neg fun q => h2 (h1.symm.trans q), if_neg h2]; omega
  · rw [if_neg h1]
    split <;> omega
theorem Rw_step (T : Tr n F g) (H : Fam n F) {x y k : Int} (x0 : 0 ≤ x) (x1 : x < n) (k0 : 0 ≤ k) (k1 : k < F.length) (hy : y ∈ bagAt F k) (hne : y ≠ gt F (g x) k) : Rw F g w x y = Rw F g w x (gt F (g x) k) + w k := by
  obtain ⟨hp, hall⟩ := T.gt x0 x1 k0 k1
  have hm := bagAt_mem k0 k1
  have yr := H.rng _ hm y hy
  have pr := H.rng _ hm _ hp
  unfold Rw
  refine nsum_one_diff (k0 := k) (iot_nodup _) (iot_mem.mpr ⟨k0, k1⟩) (fun j hj hjk => ?_) ?_
  · have jr := iot_mem.mp hj
    rw [T.move H k0 k1 hy hp jr.1 jr.2 hjk]
  · rw [T.self yr.1 yr.2 k0 k1 hy, T.self pr.1 pr.2 k0 k1 hp, if_neg fun q => hne q.symm, if_pos rfl, Nat.zero_add]
theorem nsum_const {f : Int → Nat} {c : Nat} : ∀ {l : List Int}, (∀ x ∈ l, f x = c) → nsum f l = l.length * c
  | [], _ => by simp [nsum]
  | x :: l, h => by
    show f x + nsum f l = (l.length + 1) * c
    rw [h x (List.mem_cons_self ..), nsum_const fun y hy => h y (List.mem_cons_of_mem _ hy), Nat.add_mul, Nat.one_mul, Nat.add_comm]
theorem rest_lenN {b : List Int} (nd : b.Nodup) {j : Int} (h : j ∈ b) : (b.filter fun x => decide (x ≠ j)).length + 1 = b.length := by
  have := nsum_rest (fun _ => 1) nd h
  rw [nsum_one, nsum_one] at this
  exact this.symm
/-- the sum of the weights at a -/
def Sa (F : List Bag) (w : Int → Nat) (a : Int) : Nat := nsum (fun k => if a ∈ bagAt F k then ((bagAt F k).length - 1) * w k else 0) (iot (F.length : Int))
theorem deg_iot (H : Fam n F) (a : Int) : degN F a = nsum (fun k => if a ∈ bagAt F k then (bagAt F k).length - 1 else 0) (iot (F.length : Int)) := by
  unfold degN
  rw [← nsum_one, ← bsum_ties (fun _ => 1) F H.nd a, bsum_iot]
  refine nsum_congr fun k _ => ?_
  rw [nsum_one]
theorem lap_bag (T : Tr n F g) (H : Fam n F) (W : Ww F M w) {x a k : Int} (x0 : 0 ≤ x) (x1 : x < n) (k0 : 0 ≤ k) (k1 : k < F.length) :
    (if a ∈ bagAt F k then nsum (Rw F g w x) (bagAt F k) - Rw F g w x a else 0) + 2 * M * (if a ∈ bagAt F k ∧ gt F (g x) k ≠ a then 1 else 0) = (if a ∈ bagAt F k then (bagAt F k).length - 1 else 0) * Rw F g w x a + (if a ∈ bagAt F k then ((bagAt F k).length - 1) * w k else 0) := by
  by_cases ha : a ∈ bagAt F k
  · obtain ⟨hp, hall⟩ := T.gt x0 x1 k0 k1
    have hm := bagAt_mem k0 k1
    have nd := H.nd _ hm
    have hl := H.len _ hm
    have h1 := nsum_rest (Rw F g w x) nd ha
    have hrl := rest_lenN nd ha
    rw [if_pos ha, if_pos ha, if_pos ha]
    have hw := W.eq k k0 k1
    have hst := fun u (hu : u ∈ bagAt F k) (hne : u ≠ gt F (g x) k) => Rw_step (w := w) T H x0 x1 k0 k1 hu hne
    generalize gt F (g x) k = p at *
    by_cases hpa : p = a
    · subst hpa
      have h2 : nsum (Rw F g w x) ((bagAt F k).filter fun y => decide (y ≠ p)) = ((bagAt F k).filter fun y => decide (y ≠ p)).length * (Rw F g w x p + w k) := nsum_const fun u hu => by
        obtain ⟨h3, h4⟩ := List.mem_filter.mp hu
        exact hst u h3 (of_decide_eq_true h4)
      rw [if_neg fun q => q.2 rfl, h1, h2]
      generalize ((bagAt F k).filter fun y => decide (y ≠ p)).length = m at *
      rw [show (bagAt F k).length - 1 = m by omega, Nat.mul_add]
      omega
    · have hpm : p ∈ (bagAt F k).filter fun y => decide (y ≠ a) := List.mem_filter.mpr ⟨hp, decide_eq_true hpa⟩
      have nd2 := nd.filter (fun y => decide (y ≠ a))
      have h2 := nsum_rest (Rw F g w x) nd2 hpm
      have hrl2 := rest_lenN nd2 hpm
      have ea := hst a ha fun q => hpa q.symm
      have h3 : nsum (Rw F g w x) (((bagAt F k).filter fun y => decide (y ≠ a)).filter fun y => decide (y ≠ p)) = (((bagAt F k).filter fun y => decide (y ≠ a)).filter fun y => decide (y ≠ p)).length * (Rw F g w x p + w k) := nsum_const fun u hu => by
        obtain ⟨h4, h5⟩ := List.mem_filter.mp hu
        exact hst u (List.mem_filter.mp h4).1 (of_decide_eq_true h5)
      rw [if_pos ⟨ha, hpa⟩, h1, h2, h3, ea]
      generalize (((bagAt F k).filter fun y => decide (y ≠ a)).filter fun y => decide (y ≠ p)).length = m at *
      generalize (bagAt F k).length = l at *
      have hlm : l = m + 2 := by omega
      subst hlm
      generalize Rw F g w x p = r at *
      generalize w k = v at *
      rw [show m + 2 - 1 = m + 1 by omega, Nat.add_sub_cancel, ← hw]
      grind
  · rw [if_neg ha, if_neg ha, if_neg ha, if_neg fun q => ha q.1]
    omega
theorem one_gate (T : Tr n F g) (H : Fam n F) {x a : Int} (x0 : 0 ≤ x) (x1 : x < n) (a0 : 0 ≤ a) (a1 : a < n) : nsum (fun k => if a ∈ bagAt F k ∧ gt F (g x) k ≠ a then 1 else 0) (iot (F.length : Int)) = if a = x then 0 else 1 := by
  by_cases h : a = x
  · subst h
    have e0 : nsum (fun k => if a ∈ bagAt F k ∧ gt F (g a) k ≠ a then 1 else 0) (iot (F.length : Int)) = nsum (fun _ => 0) (iot (F.length : Int)) := nsum_congr fun k hk => by
      have kr := iot_mem.mp hk
      by_cases ha : a ∈ bagAt F k
      · rw [if_neg fun q => q.2 (T.self a0 a1 kr.1 kr.2 ha)]
      · rw [if_neg fun q => ha q.1]
    rw [if_pos rfl, e0, nsum_zero]
  · rw [if_neg h]
    obtain ⟨b, hb, hab, y, hy, e1⟩ := (T.d x x0 x1).back a a0 a1 h
    obtain ⟨k', hk'⟩ := List.mem_iff_getElem?.mp hb
    have hkl := (List.getElem?_eq_some_iff.mp hk').1
    have hbA := bagAt_nat hk'
    rw [← hbA] at hab hy
    have m0 : (0 : Int) ≤ (k' : Int) := by omega
    have m1 : (k' : Int) < F.length := by omega
    have e0 : nsum (fun k => if a ∈ bagAt F k ∧ gt F (g x) k ≠ a then 1 else 0) (iot (F.length : Int)) = nsum (fun _ => 0) (iot (F.length : Int)) + 1 := by
      refine nsum_one_diff (k0 := (k' : Int)) (iot_nodup _) (iot_mem.mpr ⟨m0, m1⟩) (fun k hk hne => ?_) ?_
      · have kr := iot_mem.mp hk
        refine if_neg fun q => hne ?_
        obtain ⟨hp, hall⟩ := T.gt x0 x1 kr.1 kr.2
        exact T.par x x0 x1 k k' kr.1 kr.2 m0 m1 a _ y q.1 hp hab hy (hall a q.1 fun z => q.2 z.symm) e1
      · refine (if_pos ⟨hab, fun q => ?_⟩).trans rfl
        obtain ⟨hp, hall⟩ := T.gt x0 x1 m0 m1
        rw [q] at hall
        have := hall y hy fun z => by rw [z] at e1; omega
        omega
    rw [e0, nsum_zero]
theorem lap (T : Tr n F g) (H : Fam n F) (W : Ww F M w) {x a : Int} (x0 : 0 ≤ x) (x1 : x < n) (a0 : 0 ≤ a) (a1 : a < n) : nsum (Rw F g w x) (ties F a) + 2 * M * (if a = x then 0 else 1) = degN F a * Rw F g w x a + Sa F w a := by
  rw [← one_gate T H x0 x1 a0 a1, ← bsum_ties _ F H.nd a, bsum_iot, nsum_mul, ← nsum_add, deg_iot H, ← nsum_mulr, Sa, ← nsum_add]
  refine nsum_congr fun k hk => ?_
  have kr := iot_mem.mp hk
  exact lap_bag T H W x0 x1 kr.1 kr.2
/-- the mean steps, times 2 M -/
def Hn (n : Int) (F : List Bag) (g : Int → Int → Nat) (w : Int → Nat) (a b : Int) : Nat := nsum (fun v => (Rw F g w b a + Rw F g w v b - Rw F g w v a) * degN F v) (iot n)
def Ka (n : Int) (F : List Bag) (g : Int → Int → Nat) (w : Int → Nat) (a : Int) : Nat := nsum (fun v => Rw F g w v a * degN F v) (iot n)
theorem Hn_eq (a b : Int) : Hn n F g w a b + Ka n F g w a = nsum (degN F) (iot n) * Rw F g w b a + Ka n F g w b := by
  unfold Hn Ka
  rw [← nsum_add, ← nsum_mulr, ← nsum_add]
  refine nsum_congr fun v _ => ?_
  have h := Rw_tri (F := F) (g := g) (w := w) v b a
  rw [← Nat.add_mul, Nat.mul_comm (degN F v), ← Nat.add_mul]
  congr 1
  omega
theorem Hn_self (b : Int) : Hn n F g w b b = 0 := by
  have := Hn_eq (n := n) (F := F) (g := g) (w := w) b b
  rw [Rw_self, Nat.mul_zero] at this
  omega
theorem Hn_both (a b : Int) : Hn n F g w a b + Hn n F g w b a = 2 * (nsum (degN F) (iot n) * Rw F g w b a) := by
  have h1 := Hn_eq (n := n) (F := F) (g := g) (w := w) a b
  have h2 := Hn_eq (n := n) (F := F) (g := g) (w := w) b a
  rw [Rw_symm a b] at h2
  omega
theorem harm (T : Tr n F g) (H : Fam n F) (W : Ww F M w) {a b : Int} (a0 : 0 ≤ a) (a1 : a < n) (b0 : 0 ≤ b) (b1 : b < n) (hab : a ≠ b) : nsum (fun u => Hn n F g w u b) (ties F a) + 2 * M * degN F a = degN F a * Hn n F g w a b := by
  have A1 : nsum (fun u => Hn n F g w u b) (ties F a) + nsum (Ka n F g w) (ties F a) = nsum (degN F) (iot n) * nsum (Rw F g w b) (ties F a) + degN F a * Ka n F g w b := by
    rw [← nsum_add, nsum_mul]
    have e : degN F a * Ka n F g w b = nsum (fun _ => Ka n F g w b) (ties F a) := by
      rw [nsum_const (c := Ka n F g w b) fun _ _ => rfl]
      rfl
    rw [e, ← nsum_add]
    exact nsum_congr fun u _ => Hn_eq u b
  have A2 := lap T H W b0 b1 a0 a1
  rw [if_neg hab, Nat.mul_one] at A2
  have A3 : nsum (Ka n F g w) (ties F a) + nsum (fun v => (2 * M * if a = v then 0 else 1) * degN F v) (iot n) = degN F a * Ka n F g w a + Sa F w a * nsum (degN F) (iot n) := by
    unfold Ka
    rw [nsum_swap (fun x v => Rw F g w v x * degN F v), ← nsum_add, nsum_mul, nsum_mul, ← nsum_add]
    refine nsum_congr fun v hv => ?_
    have vr := iot_mem.mp hv
    have := lap T H W vr.1 vr.2 a0 a1
    rw [nsum_mulr (degN F v) (Rw F g w v), ← Nat.add_mul, this, Nat.add_mul, Nat.mul_assoc]
  have A5 : nsum (fun v => (2 * M * if a = v then 0 else 1) * degN F v) (iot n) + 2 * M * degN F a = 2 * M * nsum (degN F) (iot n) := by
    rw [nsum_mul]
    symm
    refine nsum_one_diff (k0 := a) (iot_nodup _) (iot_mem.mpr ⟨a0, a1⟩) (fun k _ hk => ?_) ?_
    · rw [if_neg fun q => hk q.symm, Nat.mul_one]
    · rw [if_pos rfl, Nat.mul_zero, Nat.zero_mul, Nat.zero_add]
  have A4 := Hn_eq (n := n) (F := F) (g := g) (w := w) a b
  generalize nsum (fun u => Hn n F g w u b) (ties F a) = X at *
  generalize nsum (Ka n F g w) (ties F a) = Y at *
  generalize nsum (Rw F g w b) (ties F a) = Z at *
  generalize nsum (fun v => (2 * M * if a = v then 0 else 1) * degN F v) (iot n) = V at *
  generalize Hn n F g w a b = h at *
  generalize Ka n F g w a = ka at *
  generalize Ka n F g w b = kb at *
  generalize nsum (degN F) (iot n) = D at *
  generalize degN F a = dg at *
  generalize Rw F g w b a = r at *
  generalize Sa F w a = S at *
  generalize 2 * M = m at *
  have e1 : D * Z + D * m = D * (dg * r + S) := by rw [← Nat.mul_add, A2]
  have e2 : dg * h + dg * ka = dg * (D * r + kb) := by rw [← Nat.mul_add, A4]
  rw [Nat.mul_add] at e1 e2
  have e3 : D * (dg * r) = dg * (D * r) := by rw [← Nat.mul_assoc, ← Nat.mul_assoc, Nat.mul_comm D dg]
  rw [Nat.mul_comm S D] at A3
  rw [Nat.mul_comm m D] at A5
  generalize D * Z = q1 at *
  generalize D * m = q2 at *
  generalize D * (dg * r) = q3 at *
  generalize D * S = q4 at *
  generalize dg * (D * r) = q5 at *
  generalize dg * kb = q6 at *
  generalize dg * ka = q7 at *
  generalize dg * h = q8 at *
  generalize m * dg = q9 at *
  omega
end
end Pl
/-! Ds14: hard_of, resistance, mean_steps -/
namespace Pl
open Va L2 PySem Nm

theorem ksL_odd (m : Nat) : ksL (2 * m + 1) (some 1) none 2 = (List.range m).map fun k => 2 * k + 1 := by
  have e1 : sliceBounds (some 1) none (some 2) (2 * m + 1) = (1, ((2 * m + 1 : Nat) : Int), 2) := by
    unfold sliceBounds
    simp
    omega
  unfold ksL
  rw [e1]
  unfold sliceRange
  dsimp only
  have e2 : (if (2 : Int) > 0 then (if (1 : Int) < ((2 * m + 1 : Nat) : Int) then (((2 * m + 1 : Nat) : Int) - 1 + 2 - 1) / 2 else 0) else (if (1 : Int) > ((2 * m + 1 : Nat) : Int) then (1 - ((2 * m + 1 : Nat) : Int) - 2 - 1) / (-2) else 0)).toNat = m := by
    rw [if_pos (by decide)]
    by_cases h : m = 0
    · subst h; rfl
    · rw [if_pos (by omega)]
      omega
  rw [e2]
  refine List.map_congr_left fun k _ => ?_
  omega
theorem step_oddL (o : Bool) {one : Int} {P : List (Int × Int)} : stepF (some 1) none 2 (.lst o (intsD (wayL one P))) = some (.lst true (intsD (P.map (·.1)))) := by
  show (match (intsD (wayL one P)).all imm with | true => some (D.lst true (picks (ksL (intsD (wayL one P)).length (some 1) none 2) (intsD (wayL one P)))) | false => none) = _
  rw [all_imm_ints]
  rw [show (intsD (wayL one P)).length = 2 * P.length + 1 by rw [List.length_map, wayL_len], ksL_odd]
  unfold picks
  rw [List.filterMap_map]
  have : (fun (k : Nat) => (intsD (wayL one P))[2 * k + 1]?) = fun k => (intsD (P.map (·.1)))[k]? := by
    funext k
    rw [List.getElem?_map, List.getElem?_map, way_odd]
  show some (D.lst true ((List.range P.length).filterMap fun (k : Nat) => (intsD (wayL one P))[2 * k + 1]?)) = _
  rw [this, pick_rng _ _ (by simp), List.take_of_length_le (by simp)]
/-- the product of the sizes -/
def mulSz : List Bag → Nat
  | [] => 1
  | b :: F => b.length * mulSz F
def wN (F : List Bag) (k : Int) : Nat := 2 * (mulSz F / (bagAt F k).length)
theorem sz_dvd : ∀ {F : List Bag} {b : Bag}, b ∈ F → b.length ∣ mulSz F
  | c :: F, b, h => by
    rcases List.mem_cons.mp h with rfl | h
    · exact Nat.dvd_mul_right _ _
    · exact Nat.dvd_trans (sz_dvd h) (Nat.dvd_mul_left _ _)
theorem sz_pos : ∀ {F : List Bag}, (∀ b ∈ F, 2 ≤ b.length) → 0 < mulSz F
  | [], _ => Nat.one_pos
  | c :: F, h => Nat.mul_pos (by have := h c (List.mem_cons_self ..); omega) (sz_pos fun b hb => h b (List.mem_cons_of_mem _ hb))
theorem Lg_sz : ∀ {F : List Bag}, (∀ b ∈ F, b.length ≤ 60) → Lg (mulSz F) (6 * F.length + 1)
  | [], _ => by unfold mulSz Lg; decide
  | c :: F, h => by
    have h1 := Lg_sz (F := F) fun b hb => h b (List.mem_cons_of_mem _ hb)
    have h2 : Lg c.length 6 := by have := h c (List.mem_cons_self ..); unfold Lg; omega
    exact (h2.mul h1).mono (by simp; omega)
section
variable {n : Int} {F : List Bag} {g : Int → Int → Nat}
theorem ww (H : Fam n F) : Ww F (mulSz F) (wN F) := by
  refine ⟨sz_pos H.len, fun k k0 k1 => ?_⟩
  unfold wN
  rw [Nat.mul_assoc, Nat.div_mul_cancel (sz_dvd (bagAt_mem k0 k1))]
theorem Lg_M (H : Fam n F) : Lg (mulSz F) 361 := by
  have := H.len_le
  have h60 := H.n60
  exact (Lg_sz fun b hb => by have := H.bag_le b hb; omega).mono (by omega)
theorem Lg_w (H : Fam n F) (k : Int) : Lg (wN F k) 363 := by
  have h1 : Lg (mulSz F / (bagAt F k).length) 361 := (Lg_M H).le (Nat.div_le_self _ _)
  have h2 : Lg 2 2 := by unfold Lg; omega
  exact h2.mul h1
theorem Lg_R (H : Fam n F) (x y : Int) : Lg (Rw F g (wN F) x y) 369 := by
  have hl := H.len_le
  have h60 := H.n60
  refine Lg_nsum (k := 6) (by rw [iot_len]; omega) fun k _ => ?_
  split
  · exact Nat.two_pow_pos _
  · exact Lg_w H k
theorem Stp.gate (T : Tr n F g) (H : Fam n F) {x k y other : Int} (b0 : 0 ≤ other) (b1 : other < n) (s : Stp F (g other) x k y) : gt F (g other) k = y := by
  obtain ⟨hp, hall⟩ := T.gt b0 b1 s.k0 s.k1
  refine Decidable.byContradiction fun q => ?_
  have := hall y s.hy fun z => q z.symm
  have h2 := s.least _ hp
  omega
/-- the weights on the way that is left -/
theorem Chn.left (T : Tr n F g) (H : Fam n F) {w : Int → Nat} {one other : Int} {P : List (Int × Int)} (b0 : 0 ≤ other) (b1 : other < n) (C : Chn F (g other) one P other) : ∀ j, j ≤ P.length → ∀ x, (bds one P)[j]? = some x → nsum w ((P.map (·.1)).take j) + Rw F g w other x = Rw F g w other one := by
  intro j
  induction j with
  | zero => intro _ x hx; cases hx; simp [nsum]
  | succ j ih =>
    intro hj x hx
    have hp : P[j]? = some P[j] := List.getElem?_eq_getElem hj
    obtain ⟨u, hu, s⟩ := C.stp j _ hp
    have h1 := ih (by omega) u hu
    have hx2 : (bds one P)[j + 1]? = some P[j].2 := by
      unfold bds
      rw [List.getElem?_cons_succ, List.getElem?_map, hp]; rfl
    rw [hx] at hx2
    have hxe : x = P[j].2 := Option.some.inj hx2
    have hg := s.gate T H b0 b1
    have h2 := Rw_step (w := w) T H b0 b1 s.k0 s.k1 s.hx (fun q => by
      rw [hg] at q
      have := s.fall
      rw [q] at this
      omega)
    rw [hg] at h2
    have h3 := nsum_take w (l := P.map (·.1)) (i := j) (by rw [List.length_map]; omega)
    rw [h3, List.getElem_map, hxe]
    omega
theorem Chn.all (T : Tr n F g) (H : Fam n F) {w : Int → Nat} {one other : Int} {P : List (Int × Int)} (b0 : 0 ≤ other) (b1 : other < n) (C : Chn F (g other) one P other) : nsum w (P.map (·.1)) = Rw F g w other one := by
  have := C.left T H (w := w) b0 b1 P.length (Nat.le_refl _) other C.last
  rwa [Rw_self, List.take_of_length_le (by simp)] at this
end
def SpHard (f : Fn) : Prop := ∀ {n one other : Int} {F : List Bag} {g : Int → Int → Nat}, Fam n F → Tr n F g → 0 ≤ one → one < n → 0 ≤ other → other < n → f [famD F, .int one, .int other] = some (pD (low (Rw F g (wN F) other one) (mulSz F)), [some (famD F), some (.int one), some (.int other)])
theorem hard_sp {cw cl cp : Fn} (hw : SpWay cw) (hl : SpLow cl) (hp : SpPlus cp) : SpHard (f_hard_of cw cl cp) := fun {n one other F g} H T a0 a1 b0 b1 => by
  have h60 := H.n60
  obtain ⟨P, C, e1⟩ := hw H a0 a1 b0 b1 (T.d other b0 b1)
  have W := ww H
  have hM := Lg_M H
  have hall := C.all T H (w := wN F) b0 b1
  have e2 := step_oddL true (one := one) (P := P)
  have hPl : P.length ≤ 1000 := by
    have h1 := C.len
    have h2 := (T.d other b0 b1).lt H a0 a1
    omega
  have hzz : low 0 (mulSz F) = (0, 1) := low_zero W.pos
  obtain ⟨st', e, x4, rfl⟩ := forL_idx (t := .n 4) (b := (mSet 3 (mCall cp (mCons (mTake 3) (mCons (mCall cl (mCons (mC (.int 2)) (mCons (m1 (.e (m2 (.v 0) (.v 4) ixF)) lenF) mNil)) [none, none]) mNil)) [some 3, none]))) D.int (fun j st => ∃ x4, st = [some (famD F), some (.int one), some (.int other), some (pD (low (nsum (wN F) ((P.map (·.1)).take j)) (mulSz F))), x4]) (l := P.map (·.1)) (st := [some (famD F), some (.int one), some (.int other), some (pD (low 0 (mulSz F))), none]) ⟨none, rfl⟩ fun j hj st ⟨y4, hst⟩ => by
    subst hst
    have hjP : j < P.length := by simpa using hj
    obtain ⟨u, hu, s⟩ := C.stp j _ (List.getElem?_eq_getElem hjP)
    have h3 := nsum_take (wN F) hj
    rw [h3]
    have hjj : (P.map (·.1))[j] = P[j].1 := List.getElem_map ..
    rw [hjj]
    generalize P[j] = p at *
    have hm := s.mem
    have i1 := ix_fam (F := F) (i := p.1) (k := p.1.toNat) (b := bagAt F p.1) (by have := s.k0; omega) (by
      have h0 := s.k0
      have h1 := s.k1
      unfold bagAt
      rw [List.getElem?_eq_getElem (by omega)]; rfl)
    have hb2 := H.len _ hm
    have hb60 := H.bag_le _ hm
    have i2 := hl (a := 2) (b := (bagAt F p.1).length) 2 6 (by omega) (by unfold Lg; omega) (by unfold Lg; omega) (by omega) (by omega)
    rw [ratD_low, low_eq (x' := wN F p.1) (y' := mulSz F) (by omega) W.pos (by rw [W.eq p.1 s.k0 s.k1])] at i2
    have hs : Lg (nsum (wN F) ((P.map (·.1)).take j)) 4000 := by
      have h4 := nsum_take_le (wN F) (P.map (·.1)) j
      rw [hall] at h4
      exact ((Lg_R H other one).le h4).mono (by omega)
    have i3 := hp (Sm.low hs (hM.mono (by omega)) W.pos) (Sm.low ((Lg_w H p.1).mono (by omega)) (hM.mono (by omega)) W.pos)
    rw [plus_same _ _ _ W.pos] at i3
    have i2' : cl [.int 2, .int ((bagAt F p.1).length : Int)] = some (pD (low (wN F p.1) (mulSz F)), [some (.int 2), some (.int ((bagAt F p.1).length : Int))]) := i2
    refine ⟨_, [some (famD F), some (.int one), some (.int other), some (pD (low (nsum (wN F) ((P.map (·.1)).take j) + wN F p.1) (mulSz F))), some (.int p.1)], rfl, ?_, _, rfl⟩
    simp [i1, i2', i3]
  rw [List.take_of_length_le (Nat.le_refl _), hall] at e
  rw [hzz] at e
  have hp0 : pD (0, 1) = .tup [.int 0, .int 1] := rfl
  rw [hp0] at e
  have hfr : frzL (intsD (P.map (·.1))) = intsD (P.map (·.1)) := frzL_ints _
  unfold f_hard_of m_hard_of
  have e' : forL (.n 4) (mSet 3 (mCall cp (mCons (mTake 3) (mCons (mCall cl (mCons (mC (.int 2)) (mCons (m1 (.e (m2 (.v 0) (.v 4) ixF)) lenF) mNil)) [none, none]) mNil)) [some 3, none])) (intsD (P.map (·.1))) [some (famD F), some (.int one), some (.int other), some (.tup [.int 0, .int 1]), none] = _ := e
  generalize intsD (P.map (·.1)) = V at *
  generalize wayL one P = V1 at *
  simp [runD, mItems, e1, e2, hfr, e']
theorem resist_sp {cn cb ch : Fn} (hn : SpNeed cn) (hb : SpNeedBead cb) (hh : SpHard ch) : SpHard (f_resistance cn cb ch) := fun {n one other F g} H T a0 a1 b0 b1 => by
  have e1 := hn H
  have e2 := hb H a0 a1
  have e3 := hb H b0 b1
  have e4 := hh H T a0 a1 b0 b1
  unfold f_resistance m_resistance
  simp [runD, e1, e2, e3, e4]
def SpMean (f : Fn) : Prop := ∀ {n one other : Int} {F : List Bag} {g : Int → Int → Nat}, Fam n F → Tr n F g → 0 ≤ one → one < n → 0 ≤ other → other < n → f [famD F, .int one, .int other] = some (pD (low (Hn n F g (wN F) one other) (2 * mulSz F)), [some (famD F), some (.int one), some (.int other)])
theorem low_half (k D m : Nat) (hD : 0 < D) : low ((low k D).1 * m) (2 * (low k D).2) = low (k * m) (2 * D) := by
  have h := low_cross k D
  have hp := low_pos (k := k) hD
  refine low_eq (by omega) (by omega) ?_
  generalize (low k D).1 = a at *
  generalize (low k D).2 = b at *
  grind
theorem Lg_Hn {n : Int} {F : List Bag} {g : Int → Int → Nat} (H : Fam n F) (a b : Int) : Lg (Hn n F g (wN F) a b) 400 := by
  have h60 := H.n60
  have h2 := H.n2
  refine (Lg_nsum (k := 6) (j := 382) (by rw [iot_len]; omega) fun v _ => ?_).mono (by omega)
  exact ((((Lg_R H b a).add (Lg_R H v b)).le (Nat.sub_le _ _)).mul (Lg_deg H v)).mono (by omega)
theorem mean_sp {cn cb ch cm cp cl : Fn} (hn : SpNeed cn) (hb : SpNeedBead cb) (hh : SpHard ch) (hm : SpNear cm) (hp : SpPlus cp) (hmi : SpMinus cp) (hl : SpLow cl) : SpMean (f_mean_steps cn cb ch cm cp cl) := fun {n one other F g} H T a0 a1 b0 b1 => by
  have h60 := H.n60
  have h2 := H.n2
  have e1 := hn H
  have e2 := hb H a0 a1
  have e3 := hb H b0 b1
  have e4 := hh H T a0 a1 b0 b1
  have e5 := hm H
  have W := ww H
  have hM := Lg_M H
  have hM4 : Lg (mulSz F) 4000 := hM.mono (by omega)
  have hM2 : Lg (2 * mulSz F) 363 := (show Lg 2 2 by unfold Lg; omega).mul hM
  have hzz : low 0 (2 * mulSz F) = (0, 1) := low_zero (by have := W.pos; omega)
  have een := enum_iot (n := n) fun x => D.int ((degN F x : Nat) : Int)
  obtain ⟨st', e, x5, x6, x7, x8, x9, rfl⟩ := forL_idx (t := .t [5, 6]) (b := (mSeq (mSet 7 (mCall cp (mCons (mTake 3) (mCons (mCall ch (mCons (mTake 0) (mCons (mTake 2) (mCons (mTake 5) mNil))) [some 0, some 2, some 5]) mNil)) [some 3, none])) (mSeq (mSet 8 (mCall ch (mCons (mTake 0) (mCons (mTake 1) (mCons (mTake 5) mNil))) [some 0, some 1, some 5])) (mSeq (mSet 9 (mCall cp (mCons (mTake 7) (mCons (mTup (mCons (m1 (.e (m2 (.v 8) (.e (mC (.int 0))) ixF)) negF) (mCons (m2 (.v 8) (.e (mC (.int 1))) ixF) mNil))) mNil)) [some 7, none])) (mSet 4 (mCall cp (mCons (mTake 4) (mCons (mCall cl (mCons (m2 (.e (m2 (.v 9) (.e (mC (.int 0))) ixF)) (.v 6) mulF) (mCons (m2 (.e (mC (.int 2))) (.e (m2 (.v 9) (.e (mC (.int 1))) ixF)) mulF) mNil)) [none, none]) mNil)) [some 4, none])))))) (fun x => D.tup [.int x, .int ((degN F x : Nat) : Int)]) (fun j st => ∃ x5 x6 x7 x8 x9, st = [some (famD F), some (.int one), some (.int other), some (pD (low (Rw F g (wN F) other one) (mulSz F))), some (pD (low (nsum (fun v => (Rw F g (wN F) other one + Rw F g (wN F) v other - Rw F g (wN F) v one) * degN F v) ((iot n).take j)) (2 * mulSz F))), x5, x6, x7, x8, x9]) (l := iot n) (st := [some (famD F), some (.int one), some (.int other), some (pD (low (Rw F g (wN F) other one) (mulSz F))), some (pD (low 0 (2 * mulSz F))), none, none, none, none, none]) ⟨none, none, none, none, none, rfl⟩ fun j hj st ⟨y5, y6, y7, y8, y9, hst⟩ => by
    subst hst
    have hxr := iot_mem.mp (List.getElem_mem hj)
    have h3 := nsum_take (fun v => (Rw F g (wN F) other one + Rw F g (wN F) v other - Rw F g (wN F) v one) * degN F v) hj
    have h4 : Lg (nsum (fun v => (Rw F g (wN F) other one + Rw F g (wN F) v other - Rw F g (wN F) v one) * degN F v) ((iot n).take j)) 4000 := ((Lg_Hn (g := g) H one other).le (nsum_take_le _ _ _)).mono (by omega)
    rw [h3]
    generalize (iot n)[j] = x at *
    have i1 := hh H T b0 b1 hxr.1 hxr.2
    have i2 := hh H T a0 a1 hxr.1 hxr.2
    have tri := Rw_tri (F := F) (g := g) (w := wN F) x other one
    rw [Nat.add_comm] at tri
    have l1 := Lg_R (g := g) H other one
    have l2 := Lg_R (g := g) H x other
    have l3 := Lg_R (g := g) H x one
    have l4 := Lg_deg H x
    generalize Rw F g (wN F) other one = r1 at *
    generalize Rw F g (wN F) x other = r2 at *
    generalize Rw F g (wN F) x one = r3 at *
    generalize nsum _ ((iot n).take j) = s at *
    have i3 := hp (Sm.low (l1.mono (show 369 ≤ 4000 by omega)) hM4 W.pos) (Sm.low (l2.mono (show 369 ≤ 4000 by omega)) hM4 W.pos)
    rw [plus_same _ _ _ W.pos] at i3
    have l12 := l1.add l2
    obtain ⟨m1, m2⟩ := minus_same (r1 + r2) r3 (mulSz F) W.pos tri
    have i4 := hmi (Sm.low (l12.mono (show 370 ≤ 4000 by omega)) hM4 W.pos) (Sm.low (l3.mono (show 369 ≤ 4000 by omega)) hM4 W.pos) m1
    rw [m2] at i4
    have hl5 : Lg (low (r1 + r2 - r3) (mulSz F)).1 370 := (l12.le (Nat.sub_le _ _)).le (low_le1 _ _)
    have hl6 : Lg (low (r1 + r2 - r3) (mulSz F)).2 361 := hM.le (low_le2 _ _)
    have hl7 := low_pos (k := r1 + r2 - r3) W.pos
    have i5 : mulF (.int (((low (r1 + r2 - r3) (mulSz F)).1 : Nat) : Int)) (.int ((degN F x : Nat) : Int)) = some (.int (((low (r1 + r2 - r3) (mulSz F)).1 * degN F x : Nat) : Int)) := mulN 370 12 hl5 l4 rfl rfl (by omega)
    have i6 : mulF (.int 2) (.int (((low (r1 + r2 - r3) (mulSz F)).2 : Nat) : Int)) = some (.int ((2 * (low (r1 + r2 - r3) (mulSz F)).2 : Nat) : Int)) := mulN 2 361 (a := 2) (show Lg 2 2 by unfold Lg; omega) hl6 rfl rfl (by omega)
    have i7 := hl (a := (low (r1 + r2 - r3) (mulSz F)).1 * degN F x) (b := 2 * (low (r1 + r2 - r3) (mulSz F)).2) 382 363 (by omega) (hl5.mul l4) ((show Lg 2 2 by unfold Lg; omega).mul hl6) (by omega) (by omega)
    rw [ratD_low, low_half _ _ _ W.pos] at i7
    have l8 : Lg ((r1 + r2 - r3) * degN F x) 4000 := (((l12.le (Nat.sub_le _ _)).mul l4)).mono (by omega)
    have i8 := hp (Sm.low h4 (hM2.mono (show 363 ≤ 4000 by omega)) (by have := W.pos; omega)) (Sm.low l8 (hM2.mono (show 363 ≤ 4000 by omega)) (by have := W.pos; omega))
    rw [plus_same _ _ _ (by have := W.pos; omega)] at i8
    have hnD : D.tup [.int (-(((low r3 (mulSz F)).1 : Nat) : Int)), .int (((low r3 (mulSz F)).2 : Nat) : Int)] = nD (low r3 (mulSz F)) := rfl
    have q1 := ix_pD0 (low r3 (mulSz F))
    have q2 := ix_pD1 (low r3 (mulSz F))
    have q3 := ix_pD0 (low (r1 + r2 - r3) (mulSz F))
    have q4 := ix_pD1 (low (r1 + r2 - r3) (mulSz F))
    have hi : Va.imm (nD (low r3 (mulSz F))) = true := rfl
    refine ⟨_, [some (famD F), some (.int one), some (.int other), some (pD (low r1 (mulSz F))), some (pD (low (s + (r1 + r2 - r3) * degN F x) (2 * mulSz F))), some (.int x), some (.int ((degN F x : Nat) : Int)), some (pD (low (r1 + r2) (mulSz F))), some (pD (low r3 (mulSz F))), some (pD (low (r1 + r2 - r3) (mulSz F)))], rfl, ?_, _, _, _, _, _, rfl⟩
    generalize (((low (r1 + r2 - r3) (mulSz F)).1 * degN F x : Nat) : Int) = z1 at *
    generalize ((2 * (low (r1 + r2 - r3) (mulSz F)).2 : Nat) : Int) = z2 at *
    generalize low (r1 + r2 - r3) (mulSz F) = p1 at *
    generalize low (r1 + r2) (mulSz F) = p2 at *
    generalize low r1 (mulSz F) = p3 at *
    generalize low r2 (mulSz F) = p4 at *
    generalize low r3 (mulSz F) = p5 at *
    generalize low ((r1 + r2 - r3) * degN F x) (2 * mulSz F) = p6 at *
    generalize low s (2 * mulSz F) = p7 at *
    generalize low (s + (r1 + r2 - r3) * degN F x) (2 * mulSz F) = p8 at *
    simp [-ev_mul, i1, i2, i3, q1, q2, hnD, hi, i4, q3, q4, i5, i6, i7, i8]
  rw [List.take_of_length_le (Nat.le_refl _), hzz] at e
  have hp0 : pD (0, 1) = .tup [.int 0, .int 1] := rfl
  rw [hp0] at e
  have efr : frzA (fl true n (degN F)) = .lst false ((iot n).map fun x => D.int ((degN F x : Nat) : Int)) := frz_fl' n (degN F)
  unfold f_mean_steps m_mean_steps
  have hh0 : nsum (fun v => (Rw F g (wN F) other one + Rw F g (wN F) v other - Rw F g (wN F) v one) * degN F v) (iot n) = Hn n F g (wN F) one other := rfl
  rw [hh0] at e
  have een' : enumD 0 ((iot n).map fun x => D.int ((degN F x : Nat) : Int)) = (iot n).map fun x => D.tup [.int x, .int ((degN F x : Nat) : Int)] := een
  generalize low (Hn n F g (wN F) one other) (2 * mulSz F) = p1 at *
  generalize low (Rw F g (wN F) other one) (mulSz F) = p2 at *
  simp [-ev_mul, runD, mSet2, e1, e2, e3, e4, e5, mItems, efr, een', e]
end Pl
/-! Ds15: least, greatest, first of sorted pairs -/
namespace Pl
open Va L2 PySem Nm

theorem min_ints (o : Bool) {b : List Int} (h : Int → Int) (hne : b ≠ []) : ∃ m, minF (.lst o (b.map fun x => D.int (h x))) = some (.int m) ∧ (∃ x ∈ b, h x = m) ∧ ∀ x ∈ b, m ≤ h x := by
  have e : b.map (fun x => D.int (h x)) = intsD (b.map h) := by unfold intsD; rw [List.map_map]; rfl
  rw [e]
  unfold minF intsF lstOf
  simp only [toInts_ints]
  cases hF : b.map h with
  | nil => rw [List.map_eq_nil_iff] at hF; exact absurd hF hne
  | cons x xs =>
    obtain ⟨i1, i2⟩ := imin_spec xs x
    rw [← hF] at i1 i2
    refine ⟨_, rfl, ?_, fun y hy => i2 _ (List.mem_map.mpr ⟨y, hy, rfl⟩)⟩
    obtain ⟨c, hc, ec⟩ := List.mem_map.mp i1
    exact ⟨c, hc, ec⟩
theorem max_ints (o : Bool) {b : List Int} (h : Int → Int) (hne : b ≠ []) : ∃ m, maxF (.lst o (b.map fun x => D.int (h x))) = some (.int m) ∧ (∃ x ∈ b, h x = m) ∧ ∀ x ∈ b, h x ≤ m := by
  have e : b.map (fun x => D.int (h x)) = intsD (b.map h) := by unfold intsD; rw [List.map_map]; rfl
  rw [e]
  unfold maxF intsF lstOf
  simp only [toInts_ints]
  cases hF : b.map h with
  | nil => rw [List.map_eq_nil_iff] at hF; exact absurd hF hne
  | cons x xs =>
    obtain ⟨i1, i2⟩ := imax_spec xs x
    rw [← hF] at i1 i2
    refine ⟨_, rfl, ?_, fun y hy => i2 _ (List.mem_map.mpr ⟨y, hy, rfl⟩)⟩
    obtain ⟨c, hc, ec⟩ := List.mem_map.mp i1
    exact ⟨c, hc, ec⟩
/-- the first of the sorted pairs (number, bead) -/
theorem sort_first (o : Bool) {b : List Int} {d : Int → Nat} {z : Int} (hz : z ∈ b) (hl : ∀ x ∈ b, x ≠ z → d z < d x) : ∃ L, sortLF (.lst o (b.map fun x => D.tup [.int ((d x : Nat) : Int), .int x])) = some (.lst true L) ∧ ixF (.lst true L) (.int 0) = some (.tup [.int ((d z : Nat) : Int), .int z]) := by
  have e : b.map (fun x => D.tup [.int ((d x : Nat) : Int), .int x]) = (b.map fun x => [((d x : Nat) : Int), x]).map bagD := by rw [List.map_map]; rfl
  rw [e, sort_bags o (fun c hc => by obtain ⟨x, _, rfl⟩ := List.mem_map.mp hc; simp) (by simp; rintro rfl; simp at hz)]
  refine ⟨_, rfl, ?_⟩
  have hp := isP_perm HT.lexLt (b.map fun x => [((d x : Nat) : Int), x])
  have hs := isP_sorted lex_asym lex_ntr (b.map fun x => [((d x : Nat) : Int), x])
  have hsr : srtB (b.map fun x => [((d x : Nat) : Int), x]) = isP HT.lexLt (b.map fun x => [((d x : Nat) : Int), x]) := rfl
  rw [hsr]
  have hm : [((d z : Nat) : Int), z] ∈ isP HT.lexLt (b.map fun x => [((d x : Nat) : Int), x]) := hp.mem_iff.mpr (List.mem_map.mpr ⟨z, hz, rfl⟩)
  have hsub := fun c => (hp.mem_iff (a := c)).mp
  generalize isP HT.lexLt (b.map fun x => [((d x : Nat) : Int), x]) = W at *
  match W, hm, hs, hsub with
  | c :: W, hm, hs, hsub =>
    have hc : c = [((d z : Nat) : Int), z] := by
      rcases List.mem_cons.mp hm with h | h
      · exact h.symm
      · have h1 := (List.pairwise_cons.mp hs).1 _ h
        obtain ⟨y, hy, rfl⟩ := List.mem_map.mp (hsub c (List.mem_cons_self ..))
        by_cases hyz : y = z
        · rw [hyz]
        · have h2 := hl y hy hyz
          rw [HT.lexLt_cons, if_neg (by omega)] at h1
          have := of_decide_eq_false h1
          omega
    rw [hc]
    show immO (atI (bagD [((d z : Nat) : Int), z] :: W.map bagD) 0) = _
    rw [atI_ok (by omega) (by simp)]
    rfl
end Pl
namespace K49
open PySem PySem.Spec PyProof.Rows L2 Va
def top (i : Nat) : Stmt := PySem.Challenge.pw_sharebags_k49_whole_mean_steps.main.body.getD i (.Pass ⟨0, 0, 0, 0⟩)
def sig : List (Str × Nat) := [(("is_int" : Str), 1), (("is_in" : Str), 3), (("is_rising" : Str), 1), (("is_bag" : Str), 1), (("need_bags" : Str), 1), (("size_of" : Str), 1), (("shared_by" : Str), 2), (("homes_of" : Str), 1), (("reached_from" : Str), 3), (("bar_of" : Str), 1), (("ring_of" : Str), 2), (("need_family" : Str), 1), (("need_bead" : Str), 2), (("common" : Str), 2), (("lowered" : Str), 2), (("plus" : Str), 2), (("back_from" : Str), 2), (("way_of" : Str), 3), (("near_numbers" : Str), 1), (("neighbors" : Str), 1), (("hard_of" : Str), 3), (("resistance" : Str), 3), (("mean_steps" : Str), 3), (("stay_share" : Str), 2), (("_law_taken" : Str), 2), (("_law_pick" : Str), 2), (("_law_alike" : Str), 2), (("_law_mixed" : Str), 2), (("_law_named" : Str), 2), (("_law_family" : Str), 2), (("_law_size" : Str), 1), (("_law_tree_far" : Str), 1), (("_law_common" : Str), 2), (("_law_lowered" : Str), 2), (("_law_plus" : Str), 2), (("law" : Str), 1)]
def bs : List Str := ["isinstance", "int", "bool", "zip", "all", "tuple", "len", "max", "range", "enumerate", "sorted", "sum", "abs", "list", "str", "min"]
def gis : List (Str × Int) := [("MOST_BEADS", 60)]
/-! is_int -/
def N_is_int : List Str := ["value"]
def ro_is_int : Nat → Bool := fun i => ([true] : List Bool).getD i false
def d_is_int : He.DefD := ⟨("is_int", none), "is_int", "is_int", defArgs (top 7), defBody (top 7), defScope (top 7), [], []⟩
def e_is_int : Ent := ⟨d_is_int, N_is_int, ["value"], ro_is_int, fun ρ =>  Pl.m_is_int⟩
theorem ss_is_int (ρ : Nat → Fn) : SS { N := N_is_int, sc := defScope (top 7) } (Phi sig bs gis ρ) ro_is_int (defBody (top 7)) (Pl.m_is_int) :=
  (ss_one (s_ret ((sv_and (sv_e (se_isi (T := .int) (so_v 0) rfl (fun g h => h.bl 0 _ rfl) (fun g h => h.bl 1 _ rfl))) (sv_and1 (sv_not (sv_e (se_isi (T := .bool) (so_v 0) rfl (fun g h => h.bl 0 _ rfl) (fun g h => h.bl 2 _ rfl)))))))))
theorem k_is_int : Ent.Ok sig bs gis e_is_int := ⟨rfl, rfl, rfl, ⟨rfl, rfl, rfl, by decide +kernel, rfl, by decide +kernel, by decide +kernel⟩, by decide, fun _ _ _ _ _ _ us hl => (match us, hl with | [_], _ => rfl), ss_is_int⟩
/-! is_in -/
def N_is_in : List Str := ["value", "least", "most"]
def ro_is_in : Nat → Bool := fun i => ([true, true, true] : List Bool).getD i false
def d_is_in : He.DefD := ⟨("is_in", none), "is_in", "is_in", defArgs (top 8), defBody (top 8), defScope (top 8), [], []⟩
def e_is_in : Ent := ⟨d_is_in, N_is_in, ["value", "least", "most"], ro_is_in, fun ρ =>  Pl.m_is_in (ρ 0)⟩
theorem ss_is_in (ρ : Nat → Fn) : SS { N := N_is_in, sc := defScope (top 8) } (Phi sig bs gis ρ) ro_is_in (defBody (top 8)) (Pl.m_is_in (ρ 0)) :=
  (ss_one (s_ret ((sv_and (sv_e (se_call (fun g h => h.fn 0 _ rfl) (sl_v 0 sl_nil))) (sv_and1 (sv_e (se_chain (so_v 1) (so_v 0) (so_v 2))))))))
theorem k_is_in : Ent.Ok sig bs gis e_is_in := ⟨rfl, rfl, rfl, ⟨rfl, rfl, rfl, by decide +kernel, rfl, by decide +kernel, by decide +kernel⟩, by decide, fun _ _ _ _ _ _ us hl => (match us, hl with | [_, _, _], _ => rfl), ss_is_in⟩
/-! is_rising -/
def N_is_rising : List Str := ["value", "one", "other"]
def ro_is_rising : Nat → Bool := fun i => ([true] : List Bool).getD i false
def d_is_rising : He.DefD := ⟨("is_rising", none), "is_rising", "is_rising", defArgs (top 9), defBody (top 9), defScope (top 9), [], []⟩
def e_is_rising : Ent := ⟨d_is_rising, N_is_rising, ["value"], ro_is_rising, fun ρ =>  Pl.m_is_rising⟩
theorem ss_is_rising (ρ : Nat → Fn) : SS { N := N_is_rising, sc := defScope (top 9) } (Phi sig bs gis ρ) ro_is_rising (defBody (top 9)) (Pl.m_is_rising) :=
  (ss_one (s_ret (se_b1 (fun _ _ hc => b_all hc) boot_all (fun g h => h.bl 4 _ rfl) (so_e (se_lc (own := [("one", 1), ("other", 2)]) (by decide +kernel) (si_zip (sa_cons (se_var 0) (sa_cons (se_sl (so_v 0) (sp_some (se_int)) sp_none) sa_nil)) (fun g h => h.bl 3 _ rfl)) (sg_t (sgs_cons 1 (sgs_cons 2 sgs_nil))) sts_nil (se_cmp (so_v 1) (so_v 2)))))))
theorem k_is_rising : Ent.Ok sig bs gis e_is_rising := ⟨rfl, rfl, rfl, ⟨rfl, rfl, rfl, by decide +kernel, rfl, by decide +kernel, by decide +kernel⟩, by decide, fun _ _ _ _ _ _ us hl => (match us, hl with | [_], _ => rfl), ss_is_rising⟩
/-! is_bag -/
def N_is_bag : List Str := ["value", "bead"]
def ro_is_bag : Nat → Bool := fun i => ([true] : List Bool).getD i false
def d_is_bag : He.DefD := ⟨("is_bag", none), "is_bag", "is_bag", defArgs (top 10), defBody (top 10), defScope (top 10), [], []⟩
def e_is_bag : Ent := ⟨d_is_bag, N_is_bag, ["value"], ro_is_bag, fun ρ =>  Pl.m_is_bag (ρ 1) (ρ 2)⟩
theorem ss_is_bag (ρ : Nat → Fn) : SS { N := N_is_bag, sc := defScope (top 10) } (Phi sig bs gis ρ) ro_is_bag (defBody (top 10)) (Pl.m_is_bag (ρ 1) (ρ 2)) :=
  (ss_cons (s_if (SW.st (sw_or (st_not (st_tru (se_isi (T := .tuple) (so_v 0) rfl (fun g h => h.bl 0 _ rfl) (fun g h => h.bl 5 _ rfl)))) (sw_or1 (st_cmp (so_e (se_b1 (fun _ _ _ => b_len) boot_len (fun g h => h.bl 6 _ rfl) (so_v 0))) (so_e (se_int)))))) (ss_one (s_ret (se_bl))) ss_nil)
    (ss_one (s_ret ((sv_and (sv_e (se_b1 (fun _ _ hc => b_all hc) boot_all (fun g h => h.bl 4 _ rfl) (so_e (se_lc (own := [("bead", 1)]) (by decide +kernel) (si_e (se_var 0)) (sg_n 1) sts_nil (se_call (fun g h => h.fn 1 _ rfl) (sl_v 1 (sl_e (se_int) (sl_e (se_sub (so_e (se_gint (fun X o => o.phi.int 0 _ rfl) rfl)) (so_e (se_int))) sl_nil)))))))) (sv_and1 (sv_e (se_call (fun g h => h.fn 2 _ rfl) (sl_v 0 sl_nil)))))))))
theorem k_is_bag : Ent.Ok sig bs gis e_is_bag := ⟨rfl, rfl, rfl, ⟨rfl, rfl, rfl, by decide +kernel, rfl, by decide +kernel, by decide +kernel⟩, by decide, fun _ _ _ _ _ _ us hl => (match us, hl with | [_], _ => rfl), ss_is_bag⟩
/-! need_bags -/
def N_need_bags : List Str := ["value", "bag"]
def ro_need_bags : Nat → Bool := fun i => ([true] : List Bool).getD i false
def d_need_bags : He.DefD := ⟨("need_bags", none), "need_bags", "need_bags", defArgs (top 11), defBody (top 11), defScope (top 11), [], []⟩
def e_need_bags : Ent := ⟨d_need_bags, N_need_bags, ["value"], ro_need_bags, fun ρ =>  Pl.m_need_bags (ρ 3) (ρ 2)⟩
theorem ss_need_bags (ρ : Nat → Fn) : SS { N := N_need_bags, sc := defScope (top 11) } (Phi sig bs gis ρ) ro_need_bags (defBody (top 11)) (Pl.m_need_bags (ρ 3) (ρ 2)) :=
  (ss_cons (s_if (SW.st (sw_or (st_not (st_tru (se_isi (T := .tuple) (so_v 0) rfl (fun g h => h.bl 0 _ rfl) (fun g h => h.bl 5 _ rfl)))) (sw_or (st_cmp (so_v 0) (so_e (se_tup sa_nil))) (sw_or1 (st_not (st_tru (se_b1 (fun _ _ hc => b_all hc) boot_all (fun g h => h.bl 4 _ rfl) (so_e (se_lc (own := [("bag", 1)]) (by decide +kernel) (si_e (se_var 0)) (sg_n 1) sts_nil (se_call (fun g h => h.fn 3 _ rfl) (sl_v 1 sl_nil))))))))))) (ss_one (s_no)) ss_nil)
    (ss_one (s_if (st_not (st_tru (se_call (fun g h => h.fn 2 _ rfl) (sl_v 0 sl_nil)))) (ss_one (s_no)) ss_nil)))
theorem k_need_bags : Ent.Ok sig bs gis e_need_bags := ⟨rfl, rfl, rfl, ⟨rfl, rfl, rfl, by decide +kernel, rfl, by decide +kernel, by decide +kernel⟩, by decide, fun _ _ _ _ _ _ us hl => (match us, hl with | [_], _ => rfl), ss_need_bags⟩
/-! size_of -/
def N_size_of : List Str := ["bags", "bag"]
def ro_size_of : Nat → Bool := fun i => ([true] : List Bool).getD i false
def d_size_of : He.DefD := ⟨("size_of", none), "size_of", "size_of", defArgs (top 12), defBody (top 12), defScope (top 12), [], []⟩
def e_size_of : Ent := ⟨d_size_of, N_size_of, ["bags"], ro_size_of, fun ρ =>  Pl.m_size_of⟩
theorem ss_size_of (ρ : Nat → Fn) : SS { N := N_size_of, sc := defScope (top 12) } (Phi sig bs gis ρ) ro_size_of (defBody (top 12)) (Pl.m_size_of) :=
  (ss_one (s_ret (se_add (so_e (se_int)) (so_e (se_b1 (fun _ _ hc => b_max hc) boot_max (fun g h => h.bl 7 _ rfl) (so_e (se_lc (own := [("bag", 1)]) (by decide +kernel) (si_e (se_var 0)) (sg_n 1) sts_nil (se_ix (so_v 1) (so_e (se_neg (so_e (se_int))))))))))))
theorem k_size_of : Ent.Ok sig bs gis e_size_of := ⟨rfl, rfl, rfl, ⟨rfl, rfl, rfl, by decide +kernel, rfl, by decide +kernel, by decide +kernel⟩, by decide, fun _ _ _ _ _ _ us hl => (match us, hl with | [_], _ => rfl), ss_size_of⟩
/-! shared_by -/
def N_shared_by : List Str := ["one", "other", "told", "bead"]
def ro_shared_by : Nat → Bool := fun i => ([true, true] : List Bool).getD i false
def d_shared_by : He.DefD := ⟨("shared_by", none), "shared_by", "shared_by", defArgs (top 13), defBody (top 13), defScope (top 13), [], []⟩
def e_shared_by : Ent := ⟨d_shared_by, N_shared_by, ["one", "other"], ro_shared_by, fun ρ =>  Pl.m_shared_by⟩
theorem ss_shared_by (ρ : Nat → Fn) : SS { N := N_shared_by, sc := defScope (top 13) } (Phi sig bs gis ρ) ro_shared_by (defBody (top 13)) (Pl.m_shared_by) :=
  (ss_cons (s_setN 2 (se_dc (own := [("bead", 3)]) (by decide +kernel) (si_e (se_var 1)) (sg_n 3) sts_nil (se_var 3) (se_bl)))
    (ss_one (s_ret (se_lc (own := [("bead", 3)]) (by decide +kernel) (si_e (se_var 0)) (sg_n 3) (sts_one (st_cmp (so_v 3) (so_v 2))) (se_var 3)))))
theorem k_shared_by : Ent.Ok sig bs gis e_shared_by := ⟨rfl, rfl, rfl, ⟨rfl, rfl, rfl, by decide +kernel, rfl, by decide +kernel, by decide +kernel⟩, by decide, fun _ _ _ _ _ _ us hl => (match us, hl with | [_, _], _ => rfl), ss_shared_by⟩
/-! homes_of -/
def N_homes_of : List Str := ["bags", "found", "index", "bag", "bead"]
def ro_homes_of : Nat → Bool := fun i => ([true] : List Bool).getD i false
def d_homes_of : He.DefD := ⟨("homes_of", none), "homes_of", "homes_of", defArgs (top 14), defBody (top 14), defScope (top 14), [], []⟩
def e_homes_of : Ent := ⟨d_homes_of, N_homes_of, ["bags"], ro_homes_of, fun ρ =>  Pl.m_homes_of (ρ 5)⟩
theorem ss_homes_of (ρ : Nat → Fn) : SS { N := N_homes_of, sc := defScope (top 14) } (Phi sig bs gis ρ) ro_homes_of (defBody (top 14)) (Pl.m_homes_of (ρ 5)) :=
  (ss_cons (s_setLc 1 (own := [("bead", 4)]) (by decide +kernel) (si_rg1 (se_call (fun g h => h.fn 5 _ rfl) (sl_v 0 sl_nil)) (fun g h => h.bl 8 _ rfl)) (sg_n 4) sts_nil (se_lst sa_nil))
    (ss_cons (s_for (si_enum (se_var 0) (fun g h => h.bl 9 _ rfl)) (sg_t (sgs_cons 2 (sgs_cons 3 sgs_nil))) (ss_one (s_for (si_e (se_var 3)) (sg_n 4) (ss_one (s_expr (se_app2 1 (se_var 4) (sat_v 2)))))))
    (ss_one (s_retV 1))))
theorem k_homes_of : Ent.Ok sig bs gis e_homes_of := ⟨rfl, rfl, rfl, ⟨rfl, rfl, rfl, by decide +kernel, rfl, by decide +kernel, by decide +kernel⟩, by decide, fun _ _ _ _ _ _ us hl => (match us, hl with | [_], _ => rfl), ss_homes_of⟩
/-! reached_from -/
def N_reached_from : List Str := ["bags", "homes", "first", "found", "rim", "bead", "index"]
def ro_reached_from : Nat → Bool := fun i => ([true, true, true] : List Bool).getD i false
def d_reached_from : He.DefD := ⟨("reached_from", none), "reached_from", "reached_from", defArgs (top 15), defBody (top 15), defScope (top 15), [], []⟩
def e_reached_from : Ent := ⟨d_reached_from, N_reached_from, ["bags", "homes", "first"], ro_reached_from, fun ρ =>  Pl.m_reached_from⟩
theorem ss_reached_from (ρ : Nat → Fn) : SS { N := N_reached_from, sc := defScope (top 15) } (Phi sig bs gis ρ) ro_reached_from (defBody (top 15)) (Pl.m_reached_from) :=
  (ss_cons (s_set2 3 4 (sa_cons (se_dict1 (se_var 2) (se_bl)) (sa_cons (se_lst (sa_cons (se_var 2) sa_nil)) sa_nil)))
    (ss_cons (s_while 100000 (st_cmp (so_v 4) (so_e (se_lst sa_nil))) (ss_one (s_for (si_e (se_ix (so_v 0) (so_e (se_pop 4)))) (sg_n 5) (ss_one (s_for (si_e (se_ix (so_v 1) (so_v 5))) (sg_n 6) (ss_one (s_if (st_cmp (so_v 6) (so_v 3)) (ss_cons (s_store 3 (se_bl) (se_var 6))
    (ss_one (s_expr (se_app 4 (se_var 6))))) ss_nil)))))))
    (ss_one (s_retV 3))))
theorem k_reached_from : Ent.Ok sig bs gis e_reached_from := ⟨rfl, rfl, rfl, ⟨rfl, rfl, rfl, by decide +kernel, rfl, by decide +kernel, by decide +kernel⟩, by decide, fun _ _ _ _ _ _ us hl => (match us, hl with | [_, _, _], _ => rfl), ss_reached_from⟩
/-! bar_of -/
def N_bar_of : List Str := ["bags", "homes", "bead", "told", "at", "one", "spot", "bag"]
def ro_bar_of : Nat → Bool := fun i => ([true] : List Bool).getD i false
def d_bar_of : He.DefD := ⟨("bar_of", none), "bar_of", "bar_of", defArgs (top 16), defBody (top 16), defScope (top 16), [], []⟩
def e_bar_of : Ent := ⟨d_bar_of, N_bar_of, ["bags"], ro_bar_of, fun ρ =>  Pl.m_bar_of (ρ 7) (ρ 6) (ρ 8) (ρ 10)⟩
theorem ss_bar_of (ρ : Nat → Fn) : SS { N := N_bar_of, sc := defScope (top 16) } (Phi sig bs gis ρ) ro_bar_of (defBody (top 16)) (Pl.m_bar_of (ρ 7) (ρ 6) (ρ 8) (ρ 10)) :=
  (ss_cons (s_set 1 (se_call (fun g h => h.fn 7 _ rfl) (sl_v 0 sl_nil)))
    (ss_cons (s_for (si_enum (se_var 1) (fun g h => h.bl 9 _ rfl)) (sg_t (sgs_cons 2 (sgs_cons 3 sgs_nil))) (ss_one (s_if (st_cmp (so_v 3) (so_e (se_lst sa_nil))) (ss_one (s_ret (se_tup (sa_cons (se_str) (sa_cons (se_var 2) sa_nil))))) ss_nil)))
    (ss_cons (s_for (si_enum (se_var 0) (fun g h => h.bl 9 _ rfl)) (sg_t (sgs_cons 4 (sgs_cons 5 sgs_nil))) (ss_one (s_for (si_rg1 (se_var 4) (fun g h => h.bl 8 _ rfl)) (sg_n 6) (ss_one (s_if (st_cmp (so_e (se_b1 (fun _ _ _ => b_len) boot_len (fun g h => h.bl 6 _ rfl) (so_e (se_call (fun g h => h.fn 6 _ rfl) (sl_e (se_ix (so_v 0) (so_v 6)) (sl_v 5 sl_nil)))))) (so_e (se_int))) (ss_one (s_ret (se_tup (sa_cons (se_str) (sa_cons (se_var 6) (sa_cons (se_var 4) sa_nil)))))) ss_nil)))))
    (ss_cons (s_if (st_cmp (so_e (se_b1 (fun _ _ _ => b_len) boot_len (fun g h => h.bl 6 _ rfl) (so_e (se_call (fun g h => h.fn 8 _ rfl) (sl_v 0 (sl_v 1 (sl_e (se_int) sl_nil))))))) (so_e (se_b1 (fun _ _ _ => b_len) boot_len (fun g h => h.bl 6 _ rfl) (so_v 0)))) (ss_one (s_ret (se_tup (sa_cons (se_str) (sa_cons (se_t1 (fun _ _ _ => b_tuple) boot_tuple (fun g h => h.bl 5 _ rfl) (so_e (se_b1 (fun _ hu _ => b_sorted hu) boot_sorted (fun g h => h.bl 10 _ rfl) (so_e (se_call (fun g h => h.fn 8 _ rfl) (sl_v 0 (sl_v 1 (sl_e (se_int) sl_nil)))))))) sa_nil))))) ss_nil)
    (ss_cons (s_if (st_cmp (so_e (se_b1 (fun _ _ hc => b_sum hc) boot_sum (fun g h => h.bl 11 _ rfl) (so_e (se_lc (own := [("bag", 7)]) (by decide +kernel) (si_e (se_var 0)) (sg_n 7) sts_nil (se_sub (so_e (se_b1 (fun _ _ _ => b_len) boot_len (fun g h => h.bl 6 _ rfl) (so_v 7))) (so_e (se_int))))))) (so_e (se_sub (so_e (se_b1 (fun _ _ _ => b_len) boot_len (fun g h => h.bl 6 _ rfl) (so_v 1))) (so_e (se_int))))) (ss_one (s_ret (se_tup (sa_cons (se_str) (sa_cons (se_t1 (fun _ _ _ => b_tuple) boot_tuple (fun g h => h.bl 5 _ rfl) (so_e (se_call (fun g h => h.fn 10 _ rfl) (sl_v 0 (sl_v 1 sl_nil))))) sa_nil))))) ss_nil)
    (ss_one (s_ret (se_non))))))))
theorem k_bar_of : Ent.Ok sig bs gis e_bar_of := ⟨rfl, rfl, rfl, ⟨rfl, rfl, rfl, by decide +kernel, rfl, by decide +kernel, by decide +kernel⟩, by decide, fun _ _ _ _ _ _ us hl => (match us, hl with | [_], _ => rfl), ss_bar_of⟩
/-! ring_of -/
def N_ring_of : List Str := ["bags", "homes", "left", "is_going", "index", "ties", "bead", "other"]
def ro_ring_of : Nat → Bool := fun i => ([true, true] : List Bool).getD i false
def m_ring_of : M Fl := (mSeq (mSet 2 (mDc (mRg1 (m1 (.v 0) lenF)) (.n 4) mYes (mVar 4) (mC (.bl true)) [4])) (mSeq (mSet 3 (mC (.bl true))) (mSeq (mWhile (mTru (mVar 3)) (mSeq (mSet 3 (mC (.bl false))) (mFor (mItems (m1 (.v 2) sortLF)) (.n 4) (mSeq (mSet 5 (mLc (mItems (m2 (.v 0) (.v 4) ixF)) (.n 6) (mB (m2 (.e (m1 (.e (mLc (mItems (m2 (.v 1) (.v 6) ixF)) (.n 7) (mB (m2 (.v 7) (.v 2) (cmpF .In))) (mC (.int 1)) [7])) lenF)) (.e (mC (.int 1))) (cmpF .Gt))) (mVar 6) [6])) (mIf (mAnd (mB (m2 (.e (m1 (.v 5) lenF)) (.e (mC (.int 2))) (cmpF .Lt))) (mB (m2 (.e (m1 (.v 2) lenF)) (.e (mC (.int 1))) (cmpF .Gt)))) (mSeq (fun _ => none) (mSet 3 (mC (.bl true)))) mNx)))) 100000) (mRet (m1 (.v 2) sortLF)))))
def f_ring_of : Fn := runD 8 2 (fun i => ([true, true] : List Bool).getD i false) (m_ring_of)
def d_ring_of : He.DefD := ⟨("ring_of", none), "ring_of", "ring_of", defArgs (top 17), defBody (top 17), defScope (top 17), [], []⟩
def e_ring_of : Ent := ⟨d_ring_of, N_ring_of, ["bags", "homes"], ro_ring_of, fun ρ =>  m_ring_of⟩
theorem ss_ring_of (ρ : Nat → Fn) : SS { N := N_ring_of, sc := defScope (top 17) } (Phi sig bs gis ρ) ro_ring_of (defBody (top 17)) (m_ring_of) :=
  (ss_cons (s_setN 2 (se_dc (own := [("index", 4)]) (by decide +kernel) (si_rg1 (se_b1 (fun _ _ _ => b_len) boot_len (fun g h => h.bl 6 _ rfl) (so_v 0)) (fun g h => h.bl 8 _ rfl)) (sg_n 4) sts_nil (se_var 4) (se_bl)))
    (ss_cons (s_set 3 (se_bl))
    (ss_cons (s_while 100000 (st_tru (se_var 3)) (ss_cons (s_set 3 (se_bl))
    (ss_one (s_for (si_e (se_b1 (fun _ hu _ => b_sorted hu) boot_sorted (fun g h => h.bl 10 _ rfl) (so_v 2))) (sg_n 4) (ss_cons (s_setLc 5 (own := [("bead", 6)]) (by decide +kernel) (si_e (se_ix (so_v 0) (so_v 4))) (sg_n 6) (sts_one (st_cmp (so_e (se_b1 (fun _ _ _ => b_len) boot_len (fun g h => h.bl 6 _ rfl) (so_e (se_lc (own := [("other", 7)]) (by decide +kernel) (si_e (se_ix (so_v 1) (so_v 6))) (sg_n 7) (sts_one (st_cmp (so_v 7) (so_v 2))) (se_int))))) (so_e (se_int)))) (se_var 6))
    (ss_one (s_if (SW.st (sw_and (st_cmp (so_e (se_b1 (fun _ _ _ => b_len) boot_len (fun g h => h.bl 6 _ rfl) (so_v 5))) (so_e (se_int))) (sw_and1 (st_cmp (so_e (se_b1 (fun _ _ _ => b_len) boot_len (fun g h => h.bl 6 _ rfl) (so_v 2))) (so_e (se_int)))))) (ss_cons s_no
    (ss_one (s_set 3 (se_bl)))) ss_nil)))))))
    (ss_one (s_ret (se_b1 (fun _ hu _ => b_sorted hu) boot_sorted (fun g h => h.bl 10 _ rfl) (so_v 2)))))))
theorem k_ring_of : Ent.Ok sig bs gis e_ring_of := ⟨rfl, rfl, rfl, ⟨rfl, rfl, rfl, by decide +kernel, rfl, by decide +kernel, by decide +kernel⟩, by decide, fun _ _ _ _ _ _ us hl => (match us, hl with | [_, _], _ => rfl), ss_ring_of⟩
/-! need_family -/
def N_need_family : List Str := ["value"]
def ro_need_family : Nat → Bool := fun i => ([true] : List Bool).getD i false
def d_need_family : He.DefD := ⟨("need_family", none), "need_family", "need_family", defArgs (top 18), defBody (top 18), defScope (top 18), [], []⟩
def e_need_family : Ent := ⟨d_need_family, N_need_family, ["value"], ro_need_family, fun ρ =>  Pl.m_need_family (ρ 4) (ρ 9)⟩
theorem ss_need_family (ρ : Nat → Fn) : SS { N := N_need_family, sc := defScope (top 18) } (Phi sig bs gis ρ) ro_need_family (defBody (top 18)) (Pl.m_need_family (ρ 4) (ρ 9)) :=
  (ss_cons (s_expr (se_call (fun g h => h.fn 4 _ rfl) (sl_v 0 sl_nil)))
    (ss_one (s_if (st_cmp (so_e (se_call (fun g h => h.fn 9 _ rfl) (sl_v 0 sl_nil))) (so_e (se_non))) (ss_one (s_no)) ss_nil)))
theorem k_need_family : Ent.Ok sig bs gis e_need_family := ⟨rfl, rfl, rfl, ⟨rfl, rfl, rfl, by decide +kernel, rfl, by decide +kernel, by decide +kernel⟩, by decide, fun _ _ _ _ _ _ us hl => (match us, hl with | [_], _ => rfl), ss_need_family⟩
/-! need_bead -/
def N_need_bead : List Str := ["family", "value"]
def ro_need_bead : Nat → Bool := fun i => ([true, true] : List Bool).getD i false
def d_need_bead : He.DefD := ⟨("need_bead", none), "need_bead", "need_bead", defArgs (top 19), defBody (top 19), defScope (top 19), [], []⟩
def e_need_bead : Ent := ⟨d_need_bead, N_need_bead, ["family", "value"], ro_need_bead, fun ρ =>  Pl.m_need_bead (ρ 5) (ρ 1)⟩
theorem ss_need_bead (ρ : Nat → Fn) : SS { N := N_need_bead, sc := defScope (top 19) } (Phi sig bs gis ρ) ro_need_bead (defBody (top 19)) (Pl.m_need_bead (ρ 5) (ρ 1)) :=
  (ss_one (s_if (st_not (st_tru (se_call (fun g h => h.fn 1 _ rfl) (sl_v 1 (sl_e (se_int) (sl_e (se_sub (so_e (se_call (fun g h => h.fn 5 _ rfl) (sl_v 0 sl_nil))) (so_e (se_int))) sl_nil)))))) (ss_one (s_no)) ss_nil))
theorem k_need_bead : Ent.Ok sig bs gis e_need_bead := ⟨rfl, rfl, rfl, ⟨rfl, rfl, rfl, by decide +kernel, rfl, by decide +kernel, by decide +kernel⟩, by decide, fun _ _ _ _ _ _ us hl => (match us, hl with | [_, _], _ => rfl), ss_need_bead⟩
/-! common -/
def N_common : List Str := ["one", "other"]
def ro_common : Nat → Bool := fun i => ([false, false] : List Bool).getD i false
def d_common : He.DefD := ⟨("common", none), "common", "common", defArgs (top 21), defBody (top 21), defScope (top 21), [], []⟩
def e_common : Ent := ⟨d_common, N_common, ["one", "other"], ro_common, fun ρ =>  Pl.m_common⟩
theorem ss_common (ρ : Nat → Fn) : SS { N := N_common, sc := defScope (top 21) } (Phi sig bs gis ρ) ro_common (defBody (top 21)) (Pl.m_common) :=
  (ss_cons (s_while 100000 (st_cmp (so_v 1) (so_e (se_int))) (ss_one (s_set2 0 1 (sa_cons (se_var 1) (sa_cons (se_mod (so_v 0) (so_v 1)) sa_nil)))))
    (ss_one (s_ret (se_b1 (fun _ _ _ => b_abs) boot_abs (fun g h => h.bl 12 _ rfl) (so_v 0)))))
theorem k_common : Ent.Ok sig bs gis e_common := ⟨rfl, rfl, rfl, ⟨rfl, rfl, rfl, by decide +kernel, rfl, by decide +kernel, by decide +kernel⟩, by decide, fun _ _ _ _ _ _ us hl => (match us, hl with | [_, _], _ => rfl), ss_common⟩
/-! lowered -/
def N_lowered : List Str := ["above", "low", "shared"]
def ro_lowered : Nat → Bool := fun i => ([true, true] : List Bool).getD i false
def d_lowered : He.DefD := ⟨("lowered", none), "lowered", "lowered", defArgs (top 22), defBody (top 22), defScope (top 22), [], []⟩
def e_lowered : Ent := ⟨d_lowered, N_lowered, ["above", "low"], ro_lowered, fun ρ =>  Pl.m_lowered (ρ 13)⟩
theorem ss_lowered (ρ : Nat → Fn) : SS { N := N_lowered, sc := defScope (top 22) } (Phi sig bs gis ρ) ro_lowered (defBody (top 22)) (Pl.m_lowered (ρ 13)) :=
  (ss_cons (s_set 2 (se_call (fun g h => h.fn 13 _ rfl) (sl_v 0 (sl_v 1 sl_nil))))
    (ss_one (s_ret (se_tup (sa_cons (se_fdiv (so_v 0) (so_v 2)) (sa_cons (se_fdiv (so_v 1) (so_v 2)) sa_nil))))))
theorem k_lowered : Ent.Ok sig bs gis e_lowered := ⟨rfl, rfl, rfl, ⟨rfl, rfl, rfl, by decide +kernel, rfl, by decide +kernel, by decide +kernel⟩, by decide, fun _ _ _ _ _ _ us hl => (match us, hl with | [_, _], _ => rfl), ss_lowered⟩
/-! plus -/
def N_plus : List Str := ["one", "other"]
def ro_plus : Nat → Bool := fun i => ([true, true] : List Bool).getD i false
def d_plus : He.DefD := ⟨("plus", none), "plus", "plus", defArgs (top 24), defBody (top 24), defScope (top 24), [], []⟩
def e_plus : Ent := ⟨d_plus, N_plus, ["one", "other"], ro_plus, fun ρ =>  Pl.m_plus (ρ 14)⟩
theorem ss_plus (ρ : Nat → Fn) : SS { N := N_plus, sc := defScope (top 24) } (Phi sig bs gis ρ) ro_plus (defBody (top 24)) (Pl.m_plus (ρ 14)) :=
  (ss_one (s_ret (se_call (fun g h => h.fn 14 _ rfl) (sl_e (se_add (so_e (se_mul (so_e (se_ix (so_v 0) (so_e (se_int)))) (so_e (se_ix (so_v 1) (so_e (se_int)))))) (so_e (se_mul (so_e (se_ix (so_v 1) (so_e (se_int)))) (so_e (se_ix (so_v 0) (so_e (se_int))))))) (sl_e (se_mul (so_e (se_ix (so_v 0) (so_e (se_int)))) (so_e (se_ix (so_v 1) (so_e (se_int))))) sl_nil)))))
theorem k_plus : Ent.Ok sig bs gis e_plus := ⟨rfl, rfl, rfl, ⟨rfl, rfl, rfl, by decide +kernel, rfl, by decide +kernel, by decide +kernel⟩, by decide, fun _ _ _ _ _ _ us hl => (match us, hl with | [_, _], _ => rfl), ss_plus⟩
/-! back_from -/
def N_back_from : List Str := ["family", "first", "at", "homes", "found", "line", "seen", "bead", "index", "other"]
def ro_back_from : Nat → Bool := fun i => ([true, true] : List Bool).getD i false
def d_back_from : He.DefD := ⟨("back_from", none), "back_from", "back_from", defArgs (top 26), defBody (top 26), defScope (top 26), [], []⟩
def e_back_from : Ent := ⟨d_back_from, N_back_from, ["family", "first"], ro_back_from, fun ρ =>  Pl.m_back_from (ρ 5) (ρ 7)⟩
theorem ss_back_from (ρ : Nat → Fn) : SS { N := N_back_from, sc := defScope (top 26) } (Phi sig bs gis ρ) ro_back_from (defBody (top 26)) (Pl.m_back_from (ρ 5) (ρ 7)) :=
  (ss_cons (s_setP (sa_cons (se_call (fun g h => h.fn 7 _ rfl) (sl_v 0 sl_nil)) (sa_cons (se_mul (so_e (se_lst (sa_cons (se_non) sa_nil))) (so_e (se_call (fun g h => h.fn 5 _ rfl) (sl_v 0 sl_nil)))) (sa_cons (se_lst (sa_cons (se_var 1) sa_nil)) (sa_cons (se_dict0) sa_nil)))) (sgs_cons 3 (sgs_cons 4 (sgs_cons 5 (sgs_cons 6 sgs_nil)))))
    (ss_cons (s_for (si_rg1 (se_call (fun g h => h.fn 5 _ rfl) (sl_v 0 sl_nil)) (fun g h => h.bl 8 _ rfl)) (sg_n 2) (ss_cons (s_set 7 (se_ix (so_v 5) (so_v 2)))
    (ss_one (s_for (si_e (se_ix (so_e (se_var 3)) (so_v 7))) (sg_n 8) (ss_one (s_if (st_cmp (so_v 8) (so_v 6)) (ss_cons (s_store 6 (se_bl) (se_var 8))
    (ss_one (s_for (si_e (se_ix (so_v 0) (so_v 8))) (sg_n 9) (ss_one (s_if (st_cmp (so_v 9) (so_v 7)) (ss_cons (s_store 4 (se_tup (sa_cons (se_var 8) (sa_cons (se_var 7) sa_nil))) (se_var 9))
    (ss_one (s_expr (se_app 5 (se_var 9))))) ss_nil))))) ss_nil))))))
    (ss_one (s_ret (se_tup (sa_cons (se_var 4) (sa_cons (se_var 5) sa_nil)))))))
theorem k_back_from : Ent.Ok sig bs gis e_back_from := ⟨rfl, rfl, rfl, ⟨rfl, rfl, rfl, by decide +kernel, rfl, by decide +kernel, by decide +kernel⟩, by decide, fun _ _ _ _ _ _ us hl => (match us, hl with | [_, _], _ => rfl), ss_back_from⟩
/-! way_of -/
def N_way_of : List Str := ["family", "one", "other", "found", "back", "line", "index"]
def ro_way_of : Nat → Bool := fun i => ([true, false, true] : List Bool).getD i false
def d_way_of : He.DefD := ⟨("way_of", none), "way_of", "way_of", defArgs (top 27), defBody (top 27), defScope (top 27), [], []⟩
def e_way_of : Ent := ⟨d_way_of, N_way_of, ["family", "one", "other"], ro_way_of, fun ρ =>  Pl.m_way_of (ρ 16)⟩
theorem ss_way_of (ρ : Nat → Fn) : SS { N := N_way_of, sc := defScope (top 27) } (Phi sig bs gis ρ) ro_way_of (defBody (top 27)) (Pl.m_way_of (ρ 16)) :=
  (ss_cons (s_asg (se_call (fun g h => h.fn 16 _ rfl) (sl_v 0 (sl_v 2 sl_nil))) (sg_t (sgs_cons 4 (sgs_cons 5 sgs_nil))))
    (ss_cons (s_set 3 (se_lst (sa_cons (se_var 1) sa_nil)))
    (ss_cons (s_while 100000 (st_cmp (so_v 1) (so_v 2)) (ss_cons (s_asg (se_ix (so_v 4) (so_v 1)) (sg_t (sgs_cons 6 (sgs_cons 1 sgs_nil))))
    (ss_one (s_set 3 (se_add (so_v 3) (so_e (se_lst (sa_cons (se_var 6) (sa_cons (se_var 1) sa_nil)))))))))
    (ss_one (s_retV 3)))))
theorem k_way_of : Ent.Ok sig bs gis e_way_of := ⟨rfl, rfl, rfl, ⟨rfl, rfl, rfl, by decide +kernel, rfl, by decide +kernel, by decide +kernel⟩, by decide, fun _ _ _ _ _ _ us hl => (match us, hl with | [_, _, _], _ => rfl), ss_way_of⟩
/-! near_numbers -/
def N_near_numbers : List Str := ["family", "found", "bag", "bead"]
def ro_near_numbers : Nat → Bool := fun i => ([true] : List Bool).getD i false
def d_near_numbers : He.DefD := ⟨("near_numbers", none), "near_numbers", "near_numbers", defArgs (top 29), defBody (top 29), defScope (top 29), [], []⟩
def e_near_numbers : Ent := ⟨d_near_numbers, N_near_numbers, ["family"], ro_near_numbers, fun ρ =>  Pl.m_near_numbers (ρ 5)⟩
theorem ss_near_numbers (ρ : Nat → Fn) : SS { N := N_near_numbers, sc := defScope (top 29) } (Phi sig bs gis ρ) ro_near_numbers (defBody (top 29)) (Pl.m_near_numbers (ρ 5)) :=
  (ss_cons (s_set 1 (se_mul (so_e (se_lst (sa_cons (se_int) sa_nil))) (so_e (se_call (fun g h => h.fn 5 _ rfl) (sl_v 0 sl_nil)))))
    (ss_cons (s_for (si_e (se_var 0)) (sg_n 2) (ss_one (s_for (si_e (se_var 2)) (sg_n 3) (ss_one (s_augS 1 (fun _ => aug_add) (se_var 3) (se_sub (so_e (se_b1 (fun _ _ _ => b_len) boot_len (fun g h => h.bl 6 _ rfl) (so_v 2))) (so_e (se_int))))))))
    (ss_one (s_retV 1))))
theorem k_near_numbers : Ent.Ok sig bs gis e_near_numbers := ⟨rfl, rfl, rfl, ⟨rfl, rfl, rfl, by decide +kernel, rfl, by decide +kernel, by decide +kernel⟩, by decide, fun _ _ _ _ _ _ us hl => (match us, hl with | [_], _ => rfl), ss_near_numbers⟩
/-! neighbors -/
def N_neighbors : List Str := ["family"]
def ro_neighbors : Nat → Bool := fun i => ([true] : List Bool).getD i false
def d_neighbors : He.DefD := ⟨("neighbors", none), "neighbors", "neighbors", defArgs (top 30), defBody (top 30), defScope (top 30), [], []⟩
def e_neighbors : Ent := ⟨d_neighbors, N_neighbors, ["family"], ro_neighbors, fun ρ =>  Pl.m_neighbors (ρ 11) (ρ 18)⟩
theorem ss_neighbors (ρ : Nat → Fn) : SS { N := N_neighbors, sc := defScope (top 30) } (Phi sig bs gis ρ) ro_neighbors (defBody (top 30)) (Pl.m_neighbors (ρ 11) (ρ 18)) :=
  (ss_cons (s_expr (se_call (fun g h => h.fn 11 _ rfl) (sl_v 0 sl_nil)))
    (ss_one (s_ret (se_t1 (fun _ _ _ => b_tuple) boot_tuple (fun g h => h.bl 5 _ rfl) (so_e (se_call (fun g h => h.fn 18 _ rfl) (sl_v 0 sl_nil)))))))
theorem k_neighbors : Ent.Ok sig bs gis e_neighbors := ⟨rfl, rfl, rfl, ⟨rfl, rfl, rfl, by decide +kernel, rfl, by decide +kernel, by decide +kernel⟩, by decide, fun _ _ _ _ _ _ us hl => (match us, hl with | [_], _ => rfl), ss_neighbors⟩
/-! hard_of -/
def N_hard_of : List Str := ["family", "one", "other", "found", "index"]
def ro_hard_of : Nat → Bool := fun i => ([true, true, true] : List Bool).getD i false
def d_hard_of : He.DefD := ⟨("hard_of", none), "hard_of", "hard_of", defArgs (top 31), defBody (top 31), defScope (top 31), [], []⟩
def e_hard_of : Ent := ⟨d_hard_of, N_hard_of, ["family", "one", "other"], ro_hard_of, fun ρ =>  Pl.m_hard_of (ρ 17) (ρ 14) (ρ 15)⟩
theorem ss_hard_of (ρ : Nat → Fn) : SS { N := N_hard_of, sc := defScope (top 31) } (Phi sig bs gis ρ) ro_hard_of (defBody (top 31)) (Pl.m_hard_of (ρ 17) (ρ 14) (ρ 15)) :=
  (ss_cons (s_set 3 (se_tup (sa_cons (se_int) (sa_cons (se_int) sa_nil))))
    (ss_cons (s_for (si_e (se_slS (so_e (se_call (fun g h => h.fn 17 _ rfl) (sl_v 0 (sl_v 1 (sl_v 2 sl_nil))))) (sp_some (se_int)) sp_none)) (sg_n 4) (ss_one (s_set 3 (se_call (fun g h => h.fn 15 _ rfl) (sl_v 3 (sl_e (se_call (fun g h => h.fn 14 _ rfl) (sl_e (se_int) (sl_e (se_b1 (fun _ _ _ => b_len) boot_len (fun g h => h.bl 6 _ rfl) (so_e (se_ix (so_v 0) (so_v 4)))) sl_nil))) sl_nil))))))
    (ss_one (s_retV 3))))
theorem k_hard_of : Ent.Ok sig bs gis e_hard_of := ⟨rfl, rfl, rfl, ⟨rfl, rfl, rfl, by decide +kernel, rfl, by decide +kernel, by decide +kernel⟩, by decide, fun _ _ _ _ _ _ us hl => (match us, hl with | [_, _, _], _ => rfl), ss_hard_of⟩
/-! resistance -/
def N_resistance : List Str := ["family", "one", "other"]
def ro_resistance : Nat → Bool := fun i => ([true, true, true] : List Bool).getD i false
def d_resistance : He.DefD := ⟨("resistance", none), "resistance", "resistance", defArgs (top 32), defBody (top 32), defScope (top 32), [], []⟩
def e_resistance : Ent := ⟨d_resistance, N_resistance, ["family", "one", "other"], ro_resistance, fun ρ =>  Pl.m_resistance (ρ 11) (ρ 12) (ρ 20)⟩
theorem ss_resistance (ρ : Nat → Fn) : SS { N := N_resistance, sc := defScope (top 32) } (Phi sig bs gis ρ) ro_resistance (defBody (top 32)) (Pl.m_resistance (ρ 11) (ρ 12) (ρ 20)) :=
  (ss_cons (s_expr (se_call (fun g h => h.fn 11 _ rfl) (sl_v 0 sl_nil)))
    (ss_cons (s_expr (se_call (fun g h => h.fn 12 _ rfl) (sl_v 0 (sl_v 1 sl_nil))))
    (ss_cons (s_expr (se_call (fun g h => h.fn 12 _ rfl) (sl_v 0 (sl_v 2 sl_nil))))
    (ss_one (s_ret (se_call (fun g h => h.fn 20 _ rfl) (sl_v 0 (sl_v 1 (sl_v 2 sl_nil)))))))))
theorem k_resistance : Ent.Ok sig bs gis e_resistance := ⟨rfl, rfl, rfl, ⟨rfl, rfl, rfl, by decide +kernel, rfl, by decide +kernel, by decide +kernel⟩, by decide, fun _ _ _ _ _ _ us hl => (match us, hl with | [_, _, _], _ => rfl), ss_resistance⟩
/-! mean_steps -/
def N_mean_steps : List Str := ["family", "one", "other", "straight", "found", "bead", "many", "more", "less", "whole"]
def ro_mean_steps : Nat → Bool := fun i => ([true, true, true] : List Bool).getD i false
def d_mean_steps : He.DefD := ⟨("mean_steps", none), "mean_steps", "mean_steps", defArgs (top 33), defBody (top 33), defScope (top 33), [], []⟩
def e_mean_steps : Ent := ⟨d_mean_steps, N_mean_steps, ["family", "one", "other"], ro_mean_steps, fun ρ =>  Pl.m_mean_steps (ρ 11) (ρ 12) (ρ 20) (ρ 18) (ρ 15) (ρ 14)⟩
theorem ss_mean_steps (ρ : Nat → Fn) : SS { N := N_mean_steps, sc := defScope (top 33) } (Phi sig bs gis ρ) ro_mean_steps (defBody (top 33)) (Pl.m_mean_steps (ρ 11) (ρ 12) (ρ 20) (ρ 18) (ρ 15) (ρ 14)) :=
  (ss_cons (s_expr (se_call (fun g h => h.fn 11 _ rfl) (sl_v 0 sl_nil)))
    (ss_cons (s_expr (se_call (fun g h => h.fn 12 _ rfl) (sl_v 0 (sl_v 1 sl_nil))))
    (ss_cons (s_expr (se_call (fun g h => h.fn 12 _ rfl) (sl_v 0 (sl_v 2 sl_nil))))
    (ss_cons (s_set2 3 4 (sa_cons (se_call (fun g h => h.fn 20 _ rfl) (sl_v 0 (sl_v 1 (sl_v 2 sl_nil)))) (sa_cons (se_tup (sa_cons (se_int) (sa_cons (se_int) sa_nil))) sa_nil)))
    (ss_cons (s_for (si_enum (se_call (fun g h => h.fn 18 _ rfl) (sl_v 0 sl_nil)) (fun g h => h.bl 9 _ rfl)) (sg_t (sgs_cons 5 (sgs_cons 6 sgs_nil))) (ss_cons (s_set 7 (se_call (fun g h => h.fn 15 _ rfl) (sl_v 3 (sl_e (se_call (fun g h => h.fn 20 _ rfl) (sl_v 0 (sl_v 2 (sl_v 5 sl_nil)))) sl_nil))))
    (ss_cons (s_set 8 (se_call (fun g h => h.fn 20 _ rfl) (sl_v 0 (sl_v 1 (sl_v 5 sl_nil)))))
    (ss_cons (s_set 9 (se_call (fun g h => h.fn 15 _ rfl) (sl_v 7 (sl_e (se_tup (sa_cons (se_neg (so_e (se_ix (so_v 8) (so_e (se_int))))) (sa_cons (se_ix (so_v 8) (so_e (se_int))) sa_nil))) sl_nil))))
    (ss_one (s_set 4 (se_call (fun g h => h.fn 15 _ rfl) (sl_v 4 (sl_e (se_call (fun g h => h.fn 14 _ rfl) (sl_e (se_mul (so_e (se_ix (so_v 9) (so_e (se_int)))) (so_v 6)) (sl_e (se_mul (so_e (se_int)) (so_e (se_ix (so_v 9) (so_e (se_int))))) sl_nil))) sl_nil)))))))))
    (ss_one (s_retV 4)))))))
theorem k_mean_steps : Ent.Ok sig bs gis e_mean_steps := ⟨rfl, rfl, rfl, ⟨rfl, rfl, rfl, by decide +kernel, rfl, by decide +kernel, by decide +kernel⟩, by decide, fun _ _ _ _ _ _ us hl => (match us, hl with | [_, _, _], _ => rfl), ss_mean_steps⟩
/-! stay_share -/
def N_stay_share : List Str := ["family", "bead", "told"]
def ro_stay_share : Nat → Bool := fun i => ([true, true] : List Bool).getD i false
def d_stay_share : He.DefD := ⟨("stay_share", none), "stay_share", "stay_share", defArgs (top 34), defBody (top 34), defScope (top 34), [], []⟩
def e_stay_share : Ent := ⟨d_stay_share, N_stay_share, ["family", "bead"], ro_stay_share, fun ρ =>  Pl.m_stay_share (ρ 11) (ρ 12) (ρ 18) (ρ 14)⟩
theorem ss_stay_share (ρ : Nat → Fn) : SS { N := N_stay_share, sc := defScope (top 34) } (Phi sig bs gis ρ) ro_stay_share (defBody (top 34)) (Pl.m_stay_share (ρ 11) (ρ 12) (ρ 18) (ρ 14)) :=
  (ss_cons (s_expr (se_call (fun g h => h.fn 11 _ rfl) (sl_v 0 sl_nil)))
    (ss_cons (s_expr (se_call (fun g h => h.fn 12 _ rfl) (sl_v 0 (sl_v 1 sl_nil))))
    (ss_cons (s_set 2 (se_call (fun g h => h.fn 18 _ rfl) (sl_v 0 sl_nil)))
    (ss_one (s_ret (se_call (fun g h => h.fn 14 _ rfl) (sl_e (se_ix (so_v 2) (so_v 1)) (sl_e (se_b1 (fun _ _ hc => b_sumT hc) boot_sum (fun g h => h.bl 11 _ rfl) (so_v 2)) sl_nil))))))))
theorem k_stay_share : Ent.Ok sig bs gis e_stay_share := ⟨rfl, rfl, rfl, ⟨rfl, rfl, rfl, by decide +kernel, rfl, by decide +kernel, by decide +kernel⟩, by decide, fun _ _ _ _ _ _ us hl => (match us, hl with | [_, _], _ => rfl), ss_stay_share⟩
/-! _law_taken -/
def N__law_taken : List Str := ["_law_row", "_law_many", "_law_cell", "_law_found"]
def ro__law_taken : Nat → Bool := fun i => ([true, true] : List Bool).getD i false
def d__law_taken : He.DefD := ⟨("_law_taken", none), "_law_taken", "_law_taken", defArgs (top 36), defBody (top 36), defScope (top 36), [], []⟩
def e__law_taken : Ent := ⟨d__law_taken, N__law_taken, ["_law_row", "_law_many"], ro__law_taken, fun ρ =>  Pl.m__law_taken⟩
theorem ss__law_taken (ρ : Nat → Fn) : SS { N := N__law_taken, sc := defScope (top 36) } (Phi sig bs gis ρ) ro__law_taken (defBody (top 36)) (Pl.m__law_taken) :=
  (ss_cons (s_if (st_cmp (so_e (se_ix (so_v 0) (so_e (se_int)))) (so_e (se_int))) (ss_cons (s_set 3 (se_mod (so_e (se_t1 (fun _ _ _ => b_int) boot_int (fun g h => h.bl 1 _ rfl) (so_e (se_ix (so_v 0) (so_e (se_int)))))) (so_v 1)))
    (ss_cons (s_store 0 (se_fdiv (so_e (se_ix (so_v 0) (so_e (se_int)))) (so_v 1)) (se_int))
    (ss_one (s_retV 3)))) ss_nil)
    (ss_cons (s_store 0 (se_add (so_e (se_ix (so_v 0) (so_e (se_int)))) (so_e (se_int))) (se_int))
    (ss_cons (s_if (st_cmp (so_e (se_ix (so_v 0) (so_e (se_int)))) (so_e (se_b1 (fun _ _ _ => b_len) boot_len (fun g h => h.bl 6 _ rfl) (so_e (se_ix (so_v 0) (so_e (se_int))))))) (ss_cons (s_store 0 (se_mod (so_e (se_t1 (fun _ _ _ => b_int) boot_int (fun g h => h.bl 1 _ rfl) (so_e (se_add (so_e (se_mul (so_e (se_ix (so_v 0) (so_e (se_int)))) (so_e (se_int)))) (so_e (se_int)))))) (so_e (se_int))) (se_int))
    (ss_one (s_ret (se_mod (so_e (se_t1 (fun _ _ _ => b_int) boot_int (fun g h => h.bl 1 _ rfl) (so_e (se_fdiv (so_e (se_ix (so_v 0) (so_e (se_int)))) (so_e (se_int)))))) (so_v 1))))) ss_nil)
    (ss_cons (s_set 2 (se_ix (so_e (se_ix (so_v 0) (so_e (se_int)))) (so_e (se_sub (so_e (se_ix (so_v 0) (so_e (se_int)))) (so_e (se_int))))))
    (ss_cons (s_store 0 (se_mod (so_e (se_t1 (fun _ _ _ => b_int) boot_int (fun g h => h.bl 1 _ rfl) (so_e (se_add (so_e (se_add (so_e (se_mul (so_e (se_ix (so_v 0) (so_e (se_int)))) (so_e (se_int)))) (so_v 2))) (so_e (se_int)))))) (so_e (se_int))) (se_int))
    (ss_cons (s_if (st_cmp (so_v 2) (so_e (se_pow (so_e (se_int)) (so_e (se_int))))) (ss_one (s_store 0 (se_fdiv (so_v 2) (so_v 1)) (se_int))) ss_nil)
    (ss_one (s_ret (se_mod (so_e (se_t1 (fun _ _ _ => b_int) boot_int (fun g h => h.bl 1 _ rfl) (so_v 2))) (so_v 1))))))))))
theorem k__law_taken : Ent.Ok sig bs gis e__law_taken := ⟨rfl, rfl, rfl, ⟨rfl, rfl, rfl, by decide +kernel, rfl, by decide +kernel, by decide +kernel⟩, by decide, fun _ _ _ _ _ _ us hl => (match us, hl with | [_, _], _ => rfl), ss__law_taken⟩
/-! _law_pick -/
def N__law_pick : List Str := ["_law_row", "_law_things"]
def ro__law_pick : Nat → Bool := fun i => ([true, true] : List Bool).getD i false
def d__law_pick : He.DefD := ⟨("_law_pick", none), "_law_pick", "_law_pick", defArgs (top 37), defBody (top 37), defScope (top 37), [], []⟩
def e__law_pick : Ent := ⟨d__law_pick, N__law_pick, ["_law_row", "_law_things"], ro__law_pick, fun ρ =>  Pl.m__law_pick (ρ 24)⟩
theorem ss__law_pick (ρ : Nat → Fn) : SS { N := N__law_pick, sc := defScope (top 37) } (Phi sig bs gis ρ) ro__law_pick (defBody (top 37)) (Pl.m__law_pick (ρ 24)) :=
  (ss_one (s_ret (se_ix (so_v 1) (so_e (se_call (fun g h => h.fn 24 _ rfl) (sl_v 0 (sl_e (se_b1 (fun _ _ _ => b_len) boot_len (fun g h => h.bl 6 _ rfl) (so_v 1)) sl_nil)))))))
theorem k__law_pick : Ent.Ok sig bs gis e__law_pick := ⟨rfl, rfl, rfl, ⟨rfl, rfl, rfl, by decide +kernel, rfl, by decide +kernel, by decide +kernel⟩, by decide, fun _ _ _ _ _ _ us hl => (match us, hl with | [_, _], _ => rfl), ss__law_pick⟩
/-! _law_alike -/
def N__law_alike : List Str := ["_law_found", "_law_due", "_law_k"]
def ro__law_alike : Nat → Bool := fun i => ([true, true] : List Bool).getD i false
def d__law_alike : He.DefD := ⟨("_law_alike", none), "_law_alike", "_law_alike", defArgs (top 38), defBody (top 38), defScope (top 38), [], []⟩
def e__law_alike : Ent := ⟨d__law_alike, N__law_alike, ["_law_found", "_law_due"], ro__law_alike, fun ρ =>  Pl.m__law_alike (ρ 26)⟩
theorem ss__law_alike (ρ : Nat → Fn) : SS { N := N__law_alike, sc := defScope (top 38) } (Phi sig bs gis ρ) ro__law_alike (defBody (top 38)) (Pl.m__law_alike (ρ 26)) :=
  (ss_cons (s_if (st_tru (se_isi2 (T := .tuple) (U := .list) (so_v 1) rfl rfl (fun g h => h.bl 0 _ rfl) (fun g h => h.bl 5 _ rfl) (fun g h => h.bl 13 _ rfl))) (ss_cons (s_if (SW.st (sw_or (st_not (st_tru (se_isi2 (T := .tuple) (U := .list) (so_v 0) rfl rfl (fun g h => h.bl 0 _ rfl) (fun g h => h.bl 5 _ rfl) (fun g h => h.bl 13 _ rfl)))) (sw_or1 (st_cmp (so_e (se_isi (T := .list) (so_v 0) rfl (fun g h => h.bl 0 _ rfl) (fun g h => h.bl 13 _ rfl))) (so_e (se_isi (T := .list) (so_v 1) rfl (fun g h => h.bl 0 _ rfl) (fun g h => h.bl 13 _ rfl))))))) (ss_one (s_ret (se_bl))) ss_nil)
    (ss_cons (s_if (st_cmp (so_e (se_b1 (fun _ _ _ => b_len) boot_len (fun g h => h.bl 6 _ rfl) (so_v 0))) (so_e (se_b1 (fun _ _ _ => b_len) boot_len (fun g h => h.bl 6 _ rfl) (so_v 1)))) (ss_one (s_ret (se_bl))) ss_nil)
    (ss_one (s_ret (se_cmp (so_e (se_lc (own := [("_law_k", 2)]) (by decide +kernel) (si_rg1 (se_b1 (fun _ _ _ => b_len) boot_len (fun g h => h.bl 6 _ rfl) (so_v 1)) (fun g h => h.bl 8 _ rfl)) (sg_n 2) (sts_one (st_not (st_tru (se_call (fun g h => h.fn 26 _ rfl) (sl_e (se_ix (so_v 0) (so_v 2)) (sl_e (se_ix (so_v 1) (so_v 2)) sl_nil)))))) (se_var 2))) (so_e (se_lst sa_nil))))))) ss_nil)
    (ss_cons (s_if (SW.st (sw_or (st_cmp (so_v 1) (so_e (se_non))) (sw_or1 (st_tru (se_isi (T := .str) (so_v 1) rfl (fun g h => h.bl 0 _ rfl) (fun g h => h.bl 14 _ rfl)))))) (ss_one (s_ret ((sv_and (sv_e (se_cmp (so_v 0) (so_v 1))) (sv_and1 (sv_e (se_cmp (so_e (se_isi (T := .str) (so_v 0) rfl (fun g h => h.bl 0 _ rfl) (fun g h => h.bl 14 _ rfl))) (so_e (se_isi (T := .str) (so_v 1) rfl (fun g h => h.bl 0 _ rfl) (fun g h => h.bl 14 _ rfl)))))))))) ss_nil)
    (ss_one (s_ret ((sv_and (sv_e (se_isi (T := .int) (so_v 0) rfl (fun g h => h.bl 0 _ rfl) (fun g h => h.bl 1 _ rfl))) (sv_and (sv_e (se_cmp (so_e (se_isi (T := .bool) (so_v 0) rfl (fun g h => h.bl 0 _ rfl) (fun g h => h.bl 2 _ rfl))) (so_e (se_isi (T := .bool) (so_v 1) rfl (fun g h => h.bl 0 _ rfl) (fun g h => h.bl 2 _ rfl))))) (sv_and1 (sv_e (se_cmp (so_v 0) (so_v 1)))))))))))
theorem k__law_alike : Ent.Ok sig bs gis e__law_alike := ⟨rfl, rfl, rfl, ⟨rfl, rfl, rfl, by decide +kernel, rfl, by decide +kernel, by decide +kernel⟩, by decide, fun _ _ _ _ _ _ us hl => (match us, hl with | [_, _], _ => rfl), ss__law_alike⟩
/-! _law_mixed -/
def N__law_mixed : List Str := ["_law_row", "_law_some", "_law_turn", "_law_left", "_law_found"]
def ro__law_mixed : Nat → Bool := fun i => ([true, true] : List Bool).getD i false
def d__law_mixed : He.DefD := ⟨("_law_mixed", none), "_law_mixed", "_law_mixed", defArgs (top 39), defBody (top 39), defScope (top 39), [], []⟩
def e__law_mixed : Ent := ⟨d__law_mixed, N__law_mixed, ["_law_row", "_law_some"], ro__law_mixed, fun ρ =>  Pl.m__law_mixed (ρ 24)⟩
theorem ss__law_mixed (ρ : Nat → Fn) : SS { N := N__law_mixed, sc := defScope (top 39) } (Phi sig bs gis ρ) ro__law_mixed (defBody (top 39)) (Pl.m__law_mixed (ρ 24)) :=
  (ss_cons (s_set2 3 4 (sa_cons (se_t1 (fun _ _ _ => b_list) boot_list (fun g h => h.bl 13 _ rfl) (so_v 1)) (sa_cons (se_lst sa_nil) sa_nil)))
    (ss_cons (s_for (si_rg1 (se_b1 (fun _ _ _ => b_len) boot_len (fun g h => h.bl 6 _ rfl) (so_v 3)) (fun g h => h.bl 8 _ rfl)) (sg_n 2) (ss_one (s_expr (se_app 4 (se_popAt 3 (se_call (fun g h => h.fn 24 _ rfl) (sl_v 0 (sl_e (se_b1 (fun _ _ _ => b_len) boot_len (fun g h => h.bl 6 _ rfl) (so_v 3)) sl_nil))))))))
    (ss_one (s_retV 4))))
theorem k__law_mixed : Ent.Ok sig bs gis e__law_mixed := ⟨rfl, rfl, rfl, ⟨rfl, rfl, rfl, by decide +kernel, rfl, by decide +kernel, by decide +kernel⟩, by decide, fun _ _ _ _ _ _ us hl => (match us, hl with | [_, _], _ => rfl), ss__law_mixed⟩
/-! _law_named -/
def N__law_named : List Str := ["_law_bags", "_law_names", "_law_bag", "_law_bead"]
def ro__law_named : Nat → Bool := fun i => ([true, true] : List Bool).getD i false
def d__law_named : He.DefD := ⟨("_law_named", none), "_law_named", "_law_named", defArgs (top 40), defBody (top 40), defScope (top 40), [], []⟩
def e__law_named : Ent := ⟨d__law_named, N__law_named, ["_law_bags", "_law_names"], ro__law_named, fun ρ =>  Pl.m__law_named⟩
theorem ss__law_named (ρ : Nat → Fn) : SS { N := N__law_named, sc := defScope (top 40) } (Phi sig bs gis ρ) ro__law_named (defBody (top 40)) (Pl.m__law_named) :=
  (ss_one (s_ret (se_t1 (fun _ _ _ => b_tuple) boot_tuple (fun g h => h.bl 5 _ rfl) (so_e (se_b1 (fun _ hu _ => b_sorted hu) boot_sorted (fun g h => h.bl 10 _ rfl) (so_e (se_lc (own := [("_law_bag", 2)]) (by decide +kernel) (si_e (se_var 0)) (sg_n 2) sts_nil (se_t1 (fun _ _ _ => b_tuple) boot_tuple (fun g h => h.bl 5 _ rfl) (so_e (se_b1 (fun _ hu _ => b_sorted hu) boot_sorted (fun g h => h.bl 10 _ rfl) (so_e (se_lc (own := [("_law_bead", 3)]) (by decide +kernel) (si_e (se_var 2)) (sg_n 3) sts_nil (se_ix (so_v 1) (so_v 3))))))))))))))
theorem k__law_named : Ent.Ok sig bs gis e__law_named := ⟨rfl, rfl, rfl, ⟨rfl, rfl, rfl, by decide +kernel, rfl, by decide +kernel, by decide +kernel⟩, by decide, fun _ _ _ _ _ _ us hl => (match us, hl with | [_, _], _ => rfl), ss__law_named⟩
/-! _law_family -/
def N__law_family : List Str := ["_law_row", "_law_most", "_law_bags", "_law_bead", "_law_size_here", "_law_often"]
def ro__law_family : Nat → Bool := fun i => ([true, true] : List Bool).getD i false
def d__law_family : He.DefD := ⟨("_law_family", none), "_law_family", "_law_family", defArgs (top 41), defBody (top 41), defScope (top 41), [], []⟩
def e__law_family : Ent := ⟨d__law_family, N__law_family, ["_law_row", "_law_most"], ro__law_family, fun ρ =>  Pl.m__law_family (ρ 25) (ρ 24) (ρ 27) (ρ 28)⟩
theorem ss__law_family (ρ : Nat → Fn) : SS { N := N__law_family, sc := defScope (top 41) } (Phi sig bs gis ρ) ro__law_family (defBody (top 41)) (Pl.m__law_family (ρ 25) (ρ 24) (ρ 27) (ρ 28)) :=
  (ss_cons (s_set2 4 5 (sa_cons (se_add (so_e (se_int)) (so_e (se_call (fun g h => h.fn 24 _ rfl) (sl_v 0 (sl_e (se_sub (so_v 1) (so_e (se_int))) sl_nil))))) (sa_cons (se_call (fun g h => h.fn 25 _ rfl) (sl_v 0 (sl_e (se_lst (sa_cons (se_int) (sa_cons (se_int) (sa_cons (se_int) (sa_cons (se_int) (sa_cons (se_int) sa_nil)))))) sl_nil))) sa_nil)))
    (ss_cons (s_set 2 (se_lst (sa_cons (se_lst (sa_cons (se_int) (sa_cons (se_int) sa_nil))) sa_nil)))
    (ss_cons (s_for (si_rg2 (se_int) (se_var 4) (fun g h => h.bl 8 _ rfl)) (sg_n 3) (ss_one (s_if (st_cmp (so_e (se_call (fun g h => h.fn 24 _ rfl) (sl_v 0 (sl_v 5 sl_nil)))) (so_e (se_int))) (ss_one (s_expr (se_app2 2 (se_call (fun g h => h.fn 24 _ rfl) (sl_v 0 (sl_e (se_b1 (fun _ _ _ => b_len) boot_len (fun g h => h.bl 6 _ rfl) (so_v 2)) sl_nil))) (sat_v 3)))) (ss_one (s_expr (se_app 2 (se_lst (sa_cons (se_call (fun g h => h.fn 24 _ rfl) (sl_v 0 (sl_v 3 sl_nil))) (sa_cons (se_var 3) sa_nil)))))))))
    (ss_one (s_ret (se_call (fun g h => h.fn 28 _ rfl) (sl_v 2 (sl_e (se_call (fun g h => h.fn 27 _ rfl) (sl_v 0 (sl_e (se_lstRg (so_v 4) (fun g h => h.bl 13 _ rfl) (fun g h => h.bl 8 _ rfl)) sl_nil))) sl_nil))))))))
theorem k__law_family : Ent.Ok sig bs gis e__law_family := ⟨rfl, rfl, rfl, ⟨rfl, rfl, rfl, by decide +kernel, rfl, by decide +kernel, by decide +kernel⟩, by decide, fun _ _ _ _ _ _ us hl => (match us, hl with | [_, _], _ => rfl), ss__law_family⟩
/-! _law_size -/
def N__law_size : List Str := ["_law_family_here", "_law_bag"]
def ro__law_size : Nat → Bool := fun i => ([true] : List Bool).getD i false
def d__law_size : He.DefD := ⟨("_law_size", none), "_law_size", "_law_size", defArgs (top 42), defBody (top 42), defScope (top 42), [], []⟩
def e__law_size : Ent := ⟨d__law_size, N__law_size, ["_law_family_here"], ro__law_size, fun ρ =>  Pl.m__law_size⟩
theorem ss__law_size (ρ : Nat → Fn) : SS { N := N__law_size, sc := defScope (top 42) } (Phi sig bs gis ρ) ro__law_size (defBody (top 42)) (Pl.m__law_size) :=
  (ss_one (s_ret (se_add (so_e (se_int)) (so_e (se_b1 (fun _ _ hc => b_max hc) boot_max (fun g h => h.bl 7 _ rfl) (so_e (se_lc (own := [("_law_bag", 1)]) (by decide +kernel) (si_e (se_var 0)) (sg_n 1) sts_nil (se_ix (so_v 1) (so_e (se_neg (so_e (se_int))))))))))))
theorem k__law_size : Ent.Ok sig bs gis e__law_size := ⟨rfl, rfl, rfl, ⟨rfl, rfl, rfl, by decide +kernel, rfl, by decide +kernel, by decide +kernel⟩, by decide, fun _ _ _ _ _ _ us hl => (match us, hl with | [_], _ => rfl), ss__law_size⟩
/-! _law_tree_far -/
def N__law_tree_far : List Str := ["_law_family_here", "_law_found", "_law_first", "_law_told", "_law_rim", "_law_later", "_law_bead", "_law_bag", "_law_one"]
def ro__law_tree_far : Nat → Bool := fun i => ([true] : List Bool).getD i false
def d__law_tree_far : He.DefD := ⟨("_law_tree_far", none), "_law_tree_far", "_law_tree_far", defArgs (top 43), defBody (top 43), defScope (top 43), [], []⟩
def e__law_tree_far : Ent := ⟨d__law_tree_far, N__law_tree_far, ["_law_family_here"], ro__law_tree_far, fun ρ =>  Pl.m__law_tree_far (ρ 30)⟩
theorem ss__law_tree_far (ρ : Nat → Fn) : SS { N := N__law_tree_far, sc := defScope (top 43) } (Phi sig bs gis ρ) ro__law_tree_far (defBody (top 43)) (Pl.m__law_tree_far (ρ 30)) :=
  (ss_cons (s_set 1 (se_lst sa_nil))
    (ss_cons (s_for (si_rg1 (se_call (fun g h => h.fn 30 _ rfl) (sl_v 0 sl_nil)) (fun g h => h.bl 8 _ rfl)) (sg_n 2) (ss_cons (s_setP (sa_cons (se_dict1 (se_var 2) (se_int)) (sa_cons (se_lst (sa_cons (se_var 2) sa_nil)) sa_nil)) (sgs_cons 3 (sgs_cons 4 sgs_nil)))
    (ss_cons (s_while 100000 (st_cmp (so_v 4) (so_e (se_lst sa_nil))) (ss_cons (s_set 5 (se_lst sa_nil))
    (ss_cons (s_for (si_e (se_var 4)) (sg_n 6) (ss_one (s_for (si_e (se_var 0)) (sg_n 7) (ss_one (s_if (st_cmp (so_v 6) (so_v 7)) (ss_cons (s_set 5 (se_add (so_v 5) (so_e (se_lc (own := [("_law_one", 8)]) (by decide +kernel) (si_e (se_var 7)) (sg_n 8) (sts_one (st_cmp (so_v 8) (so_v 3))) (se_var 8)))))
    (ss_one (s_for (si_e (se_var 7)) (sg_n 8) (ss_one (s_expr (se_setd 3 (so_v 3) (se_var 8) (se_add (so_e (se_ix (so_v 3) (so_v 6))) (so_e (se_int))))))))) ss_nil)))))
    (ss_one (s_set 4 (se_var 5))))))
    (ss_one (s_expr (se_app 1 (se_lc (own := [("_law_bead", 6)]) (by decide +kernel) (si_rg1 (se_call (fun g h => h.fn 30 _ rfl) (sl_v 0 sl_nil)) (fun g h => h.bl 8 _ rfl)) (sg_n 6) sts_nil (se_ix (so_v 3) (so_v 6)))))))))
    (ss_one (s_retV 1))))
theorem k__law_tree_far : Ent.Ok sig bs gis e__law_tree_far := ⟨rfl, rfl, rfl, ⟨rfl, rfl, rfl, by decide +kernel, rfl, by decide +kernel, by decide +kernel⟩, by decide, fun _ _ _ _ _ _ us hl => (match us, hl with | [_], _ => rfl), ss__law_tree_far⟩
/-! _law_common -/
def N__law_common : List Str := ["_law_one", "_law_other"]
def ro__law_common : Nat → Bool := fun i => ([false, false] : List Bool).getD i false
def d__law_common : He.DefD := ⟨("_law_common", none), "_law_common", "_law_common", defArgs (top 44), defBody (top 44), defScope (top 44), [], []⟩
def e__law_common : Ent := ⟨d__law_common, N__law_common, ["_law_one", "_law_other"], ro__law_common, fun ρ =>  Pl.m__law_common⟩
theorem ss__law_common (ρ : Nat → Fn) : SS { N := N__law_common, sc := defScope (top 44) } (Phi sig bs gis ρ) ro__law_common (defBody (top 44)) (Pl.m__law_common) :=
  (ss_cons (s_set2 0 1 (sa_cons (se_b1 (fun _ _ _ => b_abs) boot_abs (fun g h => h.bl 12 _ rfl) (so_v 0)) (sa_cons (se_b1 (fun _ _ _ => b_abs) boot_abs (fun g h => h.bl 12 _ rfl) (so_v 1)) sa_nil)))
    (ss_cons (s_while 100000 (st_cmp (so_v 1) (so_e (se_int))) (ss_one (s_set2 0 1 (sa_cons (se_var 1) (sa_cons (se_mod (so_v 0) (so_v 1)) sa_nil)))))
    (ss_one (s_retV 0))))
theorem k__law_common : Ent.Ok sig bs gis e__law_common := ⟨rfl, rfl, rfl, ⟨rfl, rfl, rfl, by decide +kernel, rfl, by decide +kernel, by decide +kernel⟩, by decide, fun _ _ _ _ _ _ us hl => (match us, hl with | [_, _], _ => rfl), ss__law_common⟩
/-! _law_lowered -/
def N__law_lowered : List Str := ["_law_above", "_law_low", "_law_shared"]
def ro__law_lowered : Nat → Bool := fun i => ([true, true] : List Bool).getD i false
def d__law_lowered : He.DefD := ⟨("_law_lowered", none), "_law_lowered", "_law_lowered", defArgs (top 45), defBody (top 45), defScope (top 45), [], []⟩
def e__law_lowered : Ent := ⟨d__law_lowered, N__law_lowered, ["_law_above", "_law_low"], ro__law_lowered, fun ρ =>  Pl.m__law_lowered (ρ 32)⟩
theorem ss__law_lowered (ρ : Nat → Fn) : SS { N := N__law_lowered, sc := defScope (top 45) } (Phi sig bs gis ρ) ro__law_lowered (defBody (top 45)) (Pl.m__law_lowered (ρ 32)) :=
  (ss_cons (s_set 2 (se_call (fun g h => h.fn 32 _ rfl) (sl_v 0 (sl_v 1 sl_nil))))
    (ss_one (s_ret (se_tup (sa_cons (se_fdiv (so_v 0) (so_v 2)) (sa_cons (se_fdiv (so_v 1) (so_v 2)) sa_nil))))))
theorem k__law_lowered : Ent.Ok sig bs gis e__law_lowered := ⟨rfl, rfl, rfl, ⟨rfl, rfl, rfl, by decide +kernel, rfl, by decide +kernel, by decide +kernel⟩, by decide, fun _ _ _ _ _ _ us hl => (match us, hl with | [_, _], _ => rfl), ss__law_lowered⟩
/-! _law_plus -/
def N__law_plus : List Str := ["_law_one", "_law_other"]
def ro__law_plus : Nat → Bool := fun i => ([true, true] : List Bool).getD i false
def d__law_plus : He.DefD := ⟨("_law_plus", none), "_law_plus", "_law_plus", defArgs (top 46), defBody (top 46), defScope (top 46), [], []⟩
def e__law_plus : Ent := ⟨d__law_plus, N__law_plus, ["_law_one", "_law_other"], ro__law_plus, fun ρ =>  Pl.m__law_plus (ρ 33)⟩
theorem ss__law_plus (ρ : Nat → Fn) : SS { N := N__law_plus, sc := defScope (top 46) } (Phi sig bs gis ρ) ro__law_plus (defBody (top 46)) (Pl.m__law_plus (ρ 33)) :=
  (ss_one (s_ret (se_call (fun g h => h.fn 33 _ rfl) (sl_e (se_add (so_e (se_mul (so_e (se_ix (so_v 0) (so_e (se_int)))) (so_e (se_ix (so_v 1) (so_e (se_int)))))) (so_e (se_mul (so_e (se_ix (so_v 1) (so_e (se_int)))) (so_e (se_ix (so_v 0) (so_e (se_int))))))) (sl_e (se_mul (so_e (se_ix (so_v 0) (so_e (se_int)))) (so_e (se_ix (so_v 1) (so_e (se_int))))) sl_nil)))))
theorem k__law_plus : Ent.Ok sig bs gis e__law_plus := ⟨rfl, rfl, rfl, ⟨rfl, rfl, rfl, by decide +kernel, rfl, by decide +kernel, by decide +kernel⟩, by decide, fun _ _ _ _ _ _ us hl => (match us, hl with | [_, _], _ => rfl), ss__law_plus⟩
/-! law -/
def N_law : List Str := ["_law_script", "_law_row", "_law_family_here", "_law_size_here", "_law_means", "_law_bead", "_law_far", "_law_bag", "_law_both", "_law_share", "_law_other", "_law_told", "_law_one", "_law_hard", "_law_gates", "_law_mean", "_law_many", "_law_end", "_law_near"]
def ro_law : Nat → Bool := fun i => ([true] : List Bool).getD i false
def m_law (c__law_pick c__law_family c__law_size c_neighbors c__law_taken c_mean_steps c__law_alike c__law_lowered c__law_plus c__law_tree_far c_resistance c_stay_share : Fn) : M Fl := (mSeq (mSet 1 (mLst (mCons (mVar 0) (mCons (mC (.int 0)) (mCons (mC (.int 5249)) (mCons (mC (.int 0)) mNil)))))) (mSeq (mSet 2 (mCall c__law_family (mLate 1 (mCons (mCall c__law_pick (mCons (mTake 1) (mCons (mLst (mCons (mC (.int 5)) (mCons (mC (.int 14)) mNil))) mNil)) [some 1, none]) mNil)) [some 1, none])) (mSeq (mSet 3 (mCall c__law_size (mCons (mTake 2) mNil) [some 2])) (mSeq (mSetP [10, 11] (mCons (mCall c__law_taken (mCons (mTake 1) (mCons (mTake 3) mNil)) [some 1, some 3]) (mCons (mCall c_neighbors (mCons (mTake 2) mNil) [some 2]) mNil))) (mSeq (mSet 4 (mLc (mRg1 (mVar 3)) (.n 5) mYes (mCall c_mean_steps (mCons (mTake 2) (mCons (mTake 5) (mCons (mTake 10) mNil))) [some 2, some 5, some 10]) [5])) (mSeq (mIf (mNot (mTru (mCall c__law_alike (mCons (m2 (.v 4) (.v 10) ixF) (mCons (mTup (mCons (mC (.int 0)) (mCons (mC (.int 1)) mNil))) mNil)) [none, none]))) (mRet (mC (.bl false))) mNx) (mSeq (mFor (mRg1 (mVar 3)) (.n 5) (mIf (mB (m2 (.v 5) (.v 10) (cmpF .NotEq))) (mSeq (mSetP [15, 16] (mCons (mTup (mCons (mC (.int 1)) (mCons (mC (.int 1)) mNil))) (mCons (mC (.int 0)) mNil))) (mSeq (mFor (mItems (mVar 2)) (.n 7) (mIf (mB (m2 (.v 5) (.v 7) (cmpF .In))) (mFor (mItems (mVar 7)) (.n 18) (mIf (mB (m2 (.v 18) (.v 5) (cmpF .NotEq))) (mSet2 15 16 (mCons (mCall c__law_plus (mCons (mTake 15) (mCons (mCall c__law_lowered (mCons (m2 (.e (m2 (.e (mVar 4)) (.v 18) ixF)) (.e (mC (.int 0))) ixF) (mCons (m2 (.e (m2 (.e (m2 (.e (mVar 4)) (.v 18) ixF)) (.e (mC (.int 1))) ixF)) (.e (m2 (.v 11) (.v 5) ixF)) mulF) mNil)) [none, none]) mNil)) [some 15, none]) (mCons (m2 (.v 16) (.e (mC (.int 1))) addF) mNil))) mNx)) mNx)) (mIf (mOr (mB (m2 (.v 16) (.e (m2 (.v 11) (.v 5) ixF)) (cmpF .NotEq))) (mNot (mTru (mCall c__law_alike (mCons (m2 (.v 4) (.v 5) ixF) (mCons (mTake 15) mNil)) [none, some 15])))) (mRet (mC (.bl false))) mNx))) mNx)) (mSeq (mSetP [12, 13] (mCons (mCall c__law_taken (mCons (mTake 1) (mCons (mTake 3) mNil)) [some 1, some 3]) (mCons (mTup (mCons (mC (.int 0)) (mCons (mC (.int 1)) mNil))) mNil))) (mSeq (mSet 6 (mCall c__law_tree_far (mCons (mTake 2) mNil) [some 2])) (mSeq (mFor (mItems (mVar 2)) (.n 7) (mSeq (mIf (mB (m2 (.e (m1 (.e (m2 (.e (m1 (.e (mLc (mItems (mVar 7)) (.n 5) mYes (m2 (.e (m2 (.e (mVar 6)) (.v 12) ixF)) (.v 5) ixF) [5])) minF)) (.e (m1 (.e (mLc (mItems (mVar 7)) (.n 5) mYes (m2 (.e (m2 (.e (mVar 6)) (.v 12) ixF)) (.v 5) ixF) [5])) maxF)) subF)) absF)) (.e (mC (.int 1))) (cmpF .Gt))) (mRet (mC (.bl false))) mNx) (mSeq (mSet 14 (mLc (mItems (mTup (mCons (mVar 12) (mCons (mVar 10) mNil)))) (.n 17) mYes (m2 (.e (m2 (.e (m1 (.e (mLc (mItems (mVar 7)) (.n 5) mYes (mTup (mCons (m2 (.e (m2 (.e (mVar 6)) (.v 17) ixF)) (.v 5) ixF) (mCons (mVar 5) mNil))) [5])) sortLF)) (.e (mC (.int 0))) ixF)) (.e (mC (.int 1))) ixF) [17])) (mIf (mB (m2 (.e (m2 (.v 14) (.e (mC (.int 0))) ixF)) (.e (m2 (.v 14) (.e (mC (.int 1))) ixF)) (cmpF .NotEq))) (mSet 13 (mCall c__law_plus (mCons (mTake 13) (mCons (mCall c__law_lowered (mCons (mC (.int 2)) (mCons (m1 (.v 7) lenF) mNil)) [none, none]) mNil)) [some 13, none])) mNx)))) (mSeq (mIf (mNot (mTru (mCall c__law_alike (mCons (mCall c_resistance (mCons (mTake 2) (mCons (mTake 12) (mCons (mTake 10) mNil))) [some 2, some 12, some 10]) (mCons (mTake 13) mNil)) [none, some 13]))) (mRet (mC (.bl false))) mNx) (mSeq (mSet 8 (mCall c__law_plus (mCons (mCall c_mean_steps (mCons (mTake 2) (mCons (mTake 12) (mCons (mTake 10) mNil))) [some 2, some 12, some 10]) (mCons (mCall c_mean_steps (mCons (mTake 2) (mCons (mTake 10) (mCons (mTake 12) mNil))) [some 2, some 10, some 12]) mNil)) [none, none])) (mSeq (mSet 9 (mCall c_stay_share (mCons (mTake 2) (mCons (mTake 12) mNil)) [some 2, some 12])) (mRet (mD (mAnd (mB (m2 (.v 8) (.e (mCall c__law_lowered (mCons (m2 (.e (m2 (.v 13) (.e (mC (.int 0))) ixF)) (.e (m1 (.v 11) sumTF)) mulF) (mCons (m2 (.v 13) (.e (mC (.int 1))) ixF) mNil)) [none, none])) (cmpF .Eq))) (mB (m2 (.v 9) (.e (mCall c__law_lowered (mCons (m2 (.v 11) (.v 12) ixF) (mCons (m1 (.v 11) sumTF) mNil)) [none, none])) (cmpF .Eq)))))))))))))))))))
def f_law (c__law_pick c__law_family c__law_size c_neighbors c__law_taken c_mean_steps c__law_alike c__law_lowered c__law_plus c__law_tree_far c_resistance c_stay_share : Fn) : Fn := runD 19 1 (fun i => ([true] : List Bool).getD i false) (m_law c__law_pick c__law_family c__law_size c_neighbors c__law_taken c_mean_steps c__law_alike c__law_lowered c__law_plus c__law_tree_far c_resistance c_stay_share)
def d_law : He.DefD := ⟨("law", none), "law", "law", defArgs (top 47), defBody (top 47), defScope (top 47), [], []⟩
def e_law : Ent := ⟨d_law, N_law, ["_law_script"], ro_law, fun ρ =>  m_law (ρ 25) (ρ 29) (ρ 30) (ρ 19) (ρ 24) (ρ 22) (ρ 26) (ρ 33) (ρ 34) (ρ 31) (ρ 21) (ρ 23)⟩
theorem ss_law (ρ : Nat → Fn) : SS { N := N_law, sc := defScope (top 47) } (Phi sig bs gis ρ) ro_law (defBody (top 47)) (m_law (ρ 25) (ρ 29) (ρ 30) (ρ 19) (ρ 24) (ρ 22) (ρ 26) (ρ 33) (ρ 34) (ρ 31) (ρ 21) (ρ 23)) :=
  (ss_cons (s_set 1 (se_lst (sa_cons (se_var 0) (sa_cons (se_int) (sa_cons (se_int) (sa_cons (se_int) sa_nil))))))
    (ss_cons (s_set 2 (se_call (fun g h => h.fn 29 _ rfl) (sl_w 1 (sl_e (se_call (fun g h => h.fn 25 _ rfl) (sl_v 1 (sl_e (se_lst (sa_cons (se_int) (sa_cons (se_int) sa_nil))) sl_nil))) sl_nil))))
    (ss_cons (s_set 3 (se_call (fun g h => h.fn 30 _ rfl) (sl_v 2 sl_nil)))
    (ss_cons (s_setP (sa_cons (se_call (fun g h => h.fn 24 _ rfl) (sl_v 1 (sl_v 3 sl_nil))) (sa_cons (se_call (fun g h => h.fn 19 _ rfl) (sl_v 2 sl_nil)) sa_nil)) (sgs_cons 10 (sgs_cons 11 sgs_nil)))
    (ss_cons (s_setLc 4 (own := [("_law_bead", 5)]) (by decide +kernel) (si_rg1 (se_var 3) (fun g h => h.bl 8 _ rfl)) (sg_n 5) sts_nil (se_call (fun g h => h.fn 22 _ rfl) (sl_v 2 (sl_v 5 (sl_v 10 sl_nil)))))
    (ss_cons (s_if (st_not (st_tru (se_call (fun g h => h.fn 26 _ rfl) (sl_e (se_ix (so_v 4) (so_v 10)) (sl_e (se_tup (sa_cons (se_int) (sa_cons (se_int) sa_nil))) sl_nil))))) (ss_one (s_ret (se_bl))) ss_nil)
    (ss_cons (s_for (si_rg1 (se_var 3) (fun g h => h.bl 8 _ rfl)) (sg_n 5) (ss_one (s_if (st_cmp (so_v 5) (so_v 10)) (ss_cons (s_setP (sa_cons (se_tup (sa_cons (se_int) (sa_cons (se_int) sa_nil))) (sa_cons (se_int) sa_nil)) (sgs_cons 15 (sgs_cons 16 sgs_nil)))
    (ss_cons (s_for (si_e (se_var 2)) (sg_n 7) (ss_one (s_if (st_cmp (so_v 5) (so_v 7)) (ss_one (s_for (si_e (se_var 7)) (sg_n 18) (ss_one (s_if (st_cmp (so_v 18) (so_v 5)) (ss_one (s_set2 15 16 (sa_cons (se_call (fun g h => h.fn 34 _ rfl) (sl_v 15 (sl_e (se_call (fun g h => h.fn 33 _ rfl) (sl_e (se_ix (so_e (se_ix (so_e (se_var 4)) (so_v 18))) (so_e (se_int))) (sl_e (se_mul (so_e (se_ix (so_e (se_ix (so_e (se_var 4)) (so_v 18))) (so_e (se_int)))) (so_e (se_ix (so_v 11) (so_v 5)))) sl_nil))) sl_nil))) (sa_cons (se_add (so_v 16) (so_e (se_int))) sa_nil)))) ss_nil)))) ss_nil)))
    (ss_one (s_if (SW.st (sw_or (st_cmp (so_v 16) (so_e (se_ix (so_v 11) (so_v 5)))) (sw_or1 (st_not (st_tru (se_call (fun g h => h.fn 26 _ rfl) (sl_e (se_ix (so_v 4) (so_v 5)) (sl_v 15 sl_nil)))))))) (ss_one (s_ret (se_bl))) ss_nil)))) ss_nil)))
    (ss_cons (s_setP (sa_cons (se_call (fun g h => h.fn 24 _ rfl) (sl_v 1 (sl_v 3 sl_nil))) (sa_cons (se_tup (sa_cons (se_int) (sa_cons (se_int) sa_nil))) sa_nil)) (sgs_cons 12 (sgs_cons 13 sgs_nil)))
    (ss_cons (s_set 6 (se_call (fun g h => h.fn 31 _ rfl) (sl_v 2 sl_nil)))
    (ss_cons (s_for (si_e (se_var 2)) (sg_n 7) (ss_cons (s_if (st_cmp (so_e (se_b1 (fun _ _ _ => b_abs) boot_abs (fun g h => h.bl 12 _ rfl) (so_e (se_sub (so_e (se_b1 (fun _ _ hc => b_min hc) boot_min (fun g h => h.bl 15 _ rfl) (so_e (se_lc (own := [("_law_bead", 5)]) (by decide +kernel) (si_e (se_var 7)) (sg_n 5) sts_nil (se_ix (so_e (se_ix (so_e (se_var 6)) (so_v 12))) (so_v 5)))))) (so_e (se_b1 (fun _ _ hc => b_max hc) boot_max (fun g h => h.bl 7 _ rfl) (so_e (se_lc (own := [("_law_bead", 5)]) (by decide +kernel) (si_e (se_var 7)) (sg_n 5) sts_nil (se_ix (so_e (se_ix (so_e (se_var 6)) (so_v 12))) (so_v 5)))))))))) (so_e (se_int))) (ss_one (s_ret (se_bl))) ss_nil)
    (ss_cons (s_setLc 14 (own := [("_law_end", 17)]) (by decide +kernel) (si_e (se_tup (sa_cons (se_var 12) (sa_cons (se_var 10) sa_nil)))) (sg_n 17) sts_nil (se_ix (so_e (se_ix (so_e (se_b1 (fun _ hu _ => b_sorted hu) boot_sorted (fun g h => h.bl 10 _ rfl) (so_e (se_lc (own := [("_law_bead", 5)]) (by decide +kernel) (si_e (se_var 7)) (sg_n 5) sts_nil (se_tup (sa_cons (se_ix (so_e (se_ix (so_e (se_var 6)) (so_v 17))) (so_v 5)) (sa_cons (se_var 5) sa_nil))))))) (so_e (se_int)))) (so_e (se_int))))
    (ss_one (s_if (st_cmp (so_e (se_ix (so_v 14) (so_e (se_int)))) (so_e (se_ix (so_v 14) (so_e (se_int))))) (ss_one (s_set 13 (se_call (fun g h => h.fn 34 _ rfl) (sl_v 13 (sl_e (se_call (fun g h => h.fn 33 _ rfl) (sl_e (se_int) (sl_e (se_b1 (fun _ _ _ => b_len) boot_len (fun g h => h.bl 6 _ rfl) (so_v 7)) sl_nil))) sl_nil))))) ss_nil)))))
    (ss_cons (s_if (st_not (st_tru (se_call (fun g h => h.fn 26 _ rfl) (sl_e (se_call (fun g h => h.fn 21 _ rfl) (sl_v 2 (sl_v 12 (sl_v 10 sl_nil)))) (sl_v 13 sl_nil))))) (ss_one (s_ret (se_bl))) ss_nil)
    (ss_cons (s_set 8 (se_call (fun g h => h.fn 34 _ rfl) (sl_e (se_call (fun g h => h.fn 22 _ rfl) (sl_v 2 (sl_v 12 (sl_v 10 sl_nil)))) (sl_e (se_call (fun g h => h.fn 22 _ rfl) (sl_v 2 (sl_v 10 (sl_v 12 sl_nil)))) sl_nil))))
    (ss_cons (s_set 9 (se_call (fun g h => h.fn 23 _ rfl) (sl_v 2 (sl_v 12 sl_nil))))
    (ss_one (s_ret ((sv_and (sv_e (se_cmp (so_v 8) (so_e (se_call (fun g h => h.fn 33 _ rfl) (sl_e (se_mul (so_e (se_ix (so_v 13) (so_e (se_int)))) (so_e (se_b1 (fun _ _ hc => b_sumT hc) boot_sum (fun g h => h.bl 11 _ rfl) (so_v 11)))) (sl_e (se_ix (so_v 13) (so_e (se_int))) sl_nil)))))) (sv_and1 (sv_e (se_cmp (so_v 9) (so_e (se_call (fun g h => h.fn 33 _ rfl) (sl_e (se_ix (so_v 11) (so_v 12)) (sl_e (se_b1 (fun _ _ hc => b_sumT hc) boot_sum (fun g h => h.bl 11 _ rfl) (so_v 11)) sl_nil))))))))))))))))))))))))
theorem k_law : Ent.Ok sig bs gis e_law := ⟨rfl, rfl, rfl, ⟨rfl, rfl, rfl, by decide +kernel, rfl, by decide +kernel, by decide +kernel⟩, by decide, fun _ _ _ _ _ _ us hl => (match us, hl with | [_], _ => rfl), ss_law⟩
def T : List Ent := [e_is_int, e_is_in, e_is_rising, e_is_bag, e_need_bags, e_size_of, e_shared_by, e_homes_of, e_reached_from, e_bar_of, e_ring_of, e_need_family, e_need_bead, e_common, e_lowered, e_plus, e_back_from, e_way_of, e_near_numbers, e_neighbors, e_hard_of, e_resistance, e_mean_steps, e_stay_share, e__law_taken, e__law_pick, e__law_alike, e__law_mixed, e__law_named, e__law_family, e__law_size, e__law_tree_far, e__law_common, e__law_lowered, e__law_plus, e_law]
theorem oks : Oks sig bs gis T := .cons k_is_int (.cons k_is_in (.cons k_is_rising (.cons k_is_bag (.cons k_need_bags (.cons k_size_of (.cons k_shared_by (.cons k_homes_of (.cons k_reached_from (.cons k_bar_of (.cons k_ring_of (.cons k_need_family (.cons k_need_bead (.cons k_common (.cons k_lowered (.cons k_plus (.cons k_back_from (.cons k_way_of (.cons k_near_numbers (.cons k_neighbors (.cons k_hard_of (.cons k_resistance (.cons k_mean_steps (.cons k_stay_share (.cons k__law_taken (.cons k__law_pick (.cons k__law_alike (.cons k__law_mixed (.cons k__law_named (.cons k__law_family (.cons k__law_size (.cons k__law_tree_far (.cons k__law_common (.cons k__law_lowered (.cons k__law_plus (.cons k_law (.nil))))))))))))))))))))))))))))))))))))
theorem hsig : sig = T.map fun e => (e.d.name, e.ps.length) := rfl
theorem r_is_int (k : Nat) : rho T (k + 1) 0 = Pl.f_is_int := rfl
theorem r_is_in (k : Nat) : rho T (k + 1) 1 = Pl.f_is_in (rho T k 0) := rfl
theorem r_is_rising (k : Nat) : rho T (k + 1) 2 = Pl.f_is_rising := rfl
theorem r_is_bag (k : Nat) : rho T (k + 1) 3 = Pl.f_is_bag (rho T k 1) (rho T k 2) := rfl
theorem r_need_bags (k : Nat) : rho T (k + 1) 4 = Pl.f_need_bags (rho T k 3) (rho T k 2) := rfl
theorem r_size_of (k : Nat) : rho T (k + 1) 5 = Pl.f_size_of := rfl
theorem r_shared_by (k : Nat) : rho T (k + 1) 6 = Pl.f_shared_by := rfl
theorem r_homes_of (k : Nat) : rho T (k + 1) 7 = Pl.f_homes_of (rho T k 5) := rfl
theorem r_reached_from (k : Nat) : rho T (k + 1) 8 = Pl.f_reached_from := rfl
theorem r_bar_of (k : Nat) : rho T (k + 1) 9 = Pl.f_bar_of (rho T k 7) (rho T k 6) (rho T k 8) (rho T k 10) := rfl
theorem r_ring_of (k : Nat) : rho T (k + 1) 10 = f_ring_of := rfl
theorem r_need_family (k : Nat) : rho T (k + 1) 11 = Pl.f_need_family (rho T k 4) (rho T k 9) := rfl
theorem r_need_bead (k : Nat) : rho T (k + 1) 12 = Pl.f_need_bead (rho T k 5) (rho T k 1) := rfl
theorem r_common (k : Nat) : rho T (k + 1) 13 = Pl.f_common := rfl
theorem r_lowered (k : Nat) : rho T (k + 1) 14 = Pl.f_lowered (rho T k 13) := rfl
theorem r_plus (k : Nat) : rho T (k + 1) 15 = Pl.f_plus (rho T k 14) := rfl
theorem r_back_from (k : Nat) : rho T (k + 1) 16 = Pl.f_back_from (rho T k 5) (rho T k 7) := rfl
theorem r_way_of (k : Nat) : rho T (k + 1) 17 = Pl.f_way_of (rho T k 16) := rfl
theorem r_near_numbers (k : Nat) : rho T (k + 1) 18 = Pl.f_near_numbers (rho T k 5) := rfl
theorem r_neighbors (k : Nat) : rho T (k + 1) 19 = Pl.f_neighbors (rho T k 11) (rho T k 18) := rfl
theorem r_hard_of (k : Nat) : rho T (k + 1) 20 = Pl.f_hard_of (rho T k 17) (rho T k 14) (rho T k 15) := rfl
theorem r_resistance (k : Nat) : rho T (k + 1) 21 = Pl.f_resistance (rho T k 11) (rho T k 12) (rho T k 20) := rfl
theorem r_mean_steps (k : Nat) : rho T (k + 1) 22 = Pl.f_mean_steps (rho T k 11) (rho T k 12) (rho T k 20) (rho T k 18) (rho T k 15) (rho T k 14) := rfl
theorem r_stay_share (k : Nat) : rho T (k + 1) 23 = Pl.f_stay_share (rho T k 11) (rho T k 12) (rho T k 18) (rho T k 14) := rfl
theorem r__law_taken (k : Nat) : rho T (k + 1) 24 = Pl.f__law_taken := rfl
theorem r__law_pick (k : Nat) : rho T (k + 1) 25 = Pl.f__law_pick (rho T k 24) := rfl
theorem r__law_alike (k : Nat) : rho T (k + 1) 26 = Pl.f__law_alike (rho T k 26) := rfl
theorem r__law_mixed (k : Nat) : rho T (k + 1) 27 = Pl.f__law_mixed (rho T k 24) := rfl
theorem r__law_named (k : Nat) : rho T (k + 1) 28 = Pl.f__law_named := rfl
theorem r__law_family (k : Nat) : rho T (k + 1) 29 = Pl.f__law_family (rho T k 25) (rho T k 24) (rho T k 27) (rho T k 28) := rfl
theorem r__law_size (k : Nat) : rho T (k + 1) 30 = Pl.f__law_size := rfl
theorem r__law_tree_far (k : Nat) : rho T (k + 1) 31 = Pl.f__law_tree_far (rho T k 30) := rfl
theorem r__law_common (k : Nat) : rho T (k + 1) 32 = Pl.f__law_common := rfl
theorem r__law_lowered (k : Nat) : rho T (k + 1) 33 = Pl.f__law_lowered (rho T k 32) := rfl
theorem r__law_plus (k : Nat) : rho T (k + 1) 34 = Pl.f__law_plus (rho T k 33) := rfl
theorem r_law (k : Nat) : rho T (k + 1) 35 = f_law (rho T k 25) (rho T k 29) (rho T k 30) (rho T k 19) (rho T k 24) (rho T k 22) (rho T k 26) (rho T k 33) (rho T k 34) (rho T k 31) (rho T k 21) (rho T k 23) := rfl
end K49
namespace K49
open PySem PySem.Spec PyProof.Rows L2 Va Pl Nm
theorem q_is_int (k : Nat) (n : Int) : rho T (k + 1) 0 [.int n] = some (.bl true, [some (.int n)]) := is_int_ok n
theorem q_is_in (k : Nat) : SpIn (rho T (k + 2) 1) := fun {v lo hi} h1 h2 => is_in_ok (q_is_int k) h1 h2
theorem q_is_rising (k : Nat) : SpRis (rho T (k + 1) 2) := ris_sp
theorem q_is_bag (k : Nat) : SpBag (rho T (k + 3) 3) := bag_sp (fun v h0 h1 => q_is_in k h0 h1) (q_is_rising (k + 1))
theorem q_need_bags (k : Nat) : SpNeed (rho T (k + 4) 4) := fun {n F} H => need_bags_ok (q_is_bag k) (q_is_rising (k + 2)) H
theorem q_size_of (k : Nat) : SpSize (rho T (k + 1) 5) := fun {n F} H => size_of_ok H
theorem q_homes_of (k : Nat) : SpHomes (rho T (k + 2) 7) := fun {n F} H => homes_ok H (q_size_of k H)
theorem q_bar_of (k : Nat) : SpNeed (rho T (k + 3) 9) := fun {n F} H => bar_of_ok H (q_homes_of k H) (fun a ha b hb => shared_ok (by have := H.bag_le a ha; have := H.n60; omega) (by have := H.bag_le b hb; have := H.n60; omega) (H.nd b hb)) (reached_ok H)
theorem q_need_family (k : Nat) : SpNeed (rho T (k + 5) 11) := need_family_sp (q_need_bags k) (q_bar_of (k + 1))
theorem q_need_bead (k : Nat) : SpNeedBead (rho T (k + 3) 12) := need_bead_sp (q_size_of (k + 1)) (q_is_in k)
theorem q_common (k : Nat) : SpGcd (rho T (k + 1) 13) := common_sp
theorem q_lowered (k : Nat) : SpLow (rho T (k + 2) 14) := lowered_sp (q_common k)
theorem q_plus (k : Nat) : SpPlus (rho T (k + 3) 15) := plus_sp (q_lowered k)
theorem q_plus_minus (k : Nat) : SpMinus (rho T (k + 3) 15) := minus_sp (q_lowered k)
theorem q_back_from (k : Nat) : SpBack (rho T (k + 3) 16) := back_sp (q_size_of (k + 1)) (q_homes_of k)
theorem q_way_of (k : Nat) : SpWay (rho T (k + 4) 17) := way_sp (q_back_from k)
theorem q_near_numbers (k : Nat) : SpNear (rho T (k + 2) 18) := near_sp (q_size_of k)
theorem q_neighbors (k : Nat) : SpNbs (rho T (k + 6) 19) := neighbors_sp (q_need_family k) (q_near_numbers (k + 3))
theorem q_hard_of (k : Nat) : SpHard (rho T (k + 5) 20) := hard_sp (q_way_of k) (q_lowered (k + 2)) (q_plus (k + 1))
theorem q_resistance (k : Nat) : SpHard (rho T (k + 6) 21) := resist_sp (q_need_family k) (q_need_bead (k + 2)) (q_hard_of k)
theorem q_mean_steps (k : Nat) : SpMean (rho T (k + 6) 22) := mean_sp (q_need_family k) (q_need_bead (k + 2)) (q_hard_of k) (q_near_numbers (k + 3)) (q_plus (k + 2)) (q_plus_minus (k + 2)) (q_lowered (k + 3))
theorem q_stay_share (k : Nat) : SpStay (rho T (k + 6) 23) := stay_sp (q_need_family k) (q_need_bead (k + 2)) (q_near_numbers (k + 3)) (q_lowered (k + 3))
theorem q__law_taken (ns : List Int) (k : Nat) : SpTaken ns (rho T (k + 1) 24) := taken_sp ns
theorem q__law_pick (ns : List Int) (k : Nat) : SpPick ns (rho T (k + 2) 25) := pick_sp (q__law_taken ns k)
theorem q__law_mixed (ns : List Int) (k : Nat) : SpMixed ns (rho T (k + 2) 27) := mixed_sp (q__law_taken ns k)
theorem q__law_family (ns : List Int) (k : Nat) : SpFamily ns (rho T (k + 3) 29) := family_sp (q__law_taken ns (k + 1)) (q__law_pick ns k) (q__law_mixed ns k) fun {B names} h1 h2 h3 => named_ok h1 h2 h3
theorem q__law_size (k : Nat) : SpSize (rho T (k + 1) 30) := fun {n F} H => law_size_ok H
theorem q__law_tree_far (k : Nat) : SpTree (rho T (k + 2) 31) := tree_sp (q__law_size k)
theorem q__law_common (k : Nat) : SpGcd (rho T (k + 1) 32) := law_common_sp
theorem q__law_lowered (k : Nat) : SpLow (rho T (k + 2) 33) := law_lowered_sp (q__law_common k)
theorem q__law_plus (k : Nat) : SpPlus (rho T (k + 3) 34) := lplus_sp (q__law_lowered k)
end K49
namespace K49
open PySem PySem.Spec PyProof.Rows L2 Va Pl Nm
def nearB (cl cp : Fn) : M Fl := (mIf (mB (m2 (.v 18) (.v 5) (cmpF .NotEq))) (mSet2 15 16 (mCons (mCall cp (mCons (mTake 15) (mCons (mCall cl (mCons (m2 (.e (m2 (.e (mVar 4)) (.v 18) ixF)) (.e (mC (.int 0))) ixF) (mCons (m2 (.e (m2 (.e (m2 (.e (mVar 4)) (.v 18) ixF)) (.e (mC (.int 1))) ixF)) (.e (m2 (.v 11) (.v 5) ixF)) mulF) mNil)) [none, none]) mNil)) [some 15, none]) (mCons (m2 (.v 16) (.e (mC (.int 1))) addF) mNil))) mNx)
def bagB (cl cp : Fn) : M Fl := (mIf (mB (m2 (.v 5) (.v 7) (cmpF .In))) (mFor (mItems (mVar 7)) (.n 18) (nearB cl cp)) mNx)
def beadB (ca cl cp : Fn) : M Fl := (mIf (mB (m2 (.v 5) (.v 10) (cmpF .NotEq))) (mSeq (mSetP [15, 16] (mCons (mTup (mCons (mC (.int 1)) (mCons (mC (.int 1)) mNil))) (mCons (mC (.int 0)) mNil))) (mSeq (mFor (mItems (mVar 2)) (.n 7) (bagB cl cp)) (mIf (mOr (mB (m2 (.v 16) (.e (m2 (.v 11) (.v 5) ixF)) (cmpF .NotEq))) (mNot (mTru (mCall ca (mCons (m2 (.v 4) (.v 5) ixF) (mCons (mTake 15) mNil)) [none, some 15])))) (mRet (mC (.bl false))) mNx))) mNx)
def gateB (cl cp : Fn) : M Fl := (mSeq (mIf (mB (m2 (.e (m1 (.e (m2 (.e (m1 (.e (mLc (mItems (mVar 7)) (.n 5) mYes (m2 (.e (m2 (.e (mVar 6)) (.v 12) ixF)) (.v 5) ixF) [5])) minF)) (.e (m1 (.e (mLc (mItems (mVar 7)) (.n 5) mYes (m2 (.e (m2 (.e (mVar 6)) (.v 12) ixF)) (.v 5) ixF) [5])) maxF)) subF)) absF)) (.e (mC (.int 1))) (cmpF .Gt))) (mRet (mC (.bl false))) mNx) (mSeq (mSet 14 (mLc (mItems (mTup (mCons (mVar 12) (mCons (mVar 10) mNil)))) (.n 17) mYes (m2 (.e (m2 (.e (m1 (.e (mLc (mItems (mVar 7)) (.n 5) mYes (mTup (mCons (m2 (.e (m2 (.e (mVar 6)) (.v 17) ixF)) (.v 5) ixF) (mCons (mVar 5) mNil))) [5])) sortLF)) (.e (mC (.int 0))) ixF)) (.e (mC (.int 1))) ixF) [17])) (mIf (mB (m2 (.e (m2 (.v 14) (.e (mC (.int 0))) ixF)) (.e (m2 (.v 14) (.e (mC (.int 1))) ixF)) (cmpF .NotEq))) (mSet 13 (mCall cp (mCons (mTake 13) (mCons (mCall cl (mCons (mC (.int 2)) (mCons (m1 (.v 7) lenF) mNil)) [none, none]) mNil)) [some 13, none])) mNx)))

/-- the state: o = the means still owned -/
def sH (R r : Option D) (F : List Bag) (n : Int) (o : Bool) (hn : Int → Nat × Nat) (x5 x6 x7 : Option D) (other : Int) (x12 x13 x14 x15 x16 x17 x18 : Option D) : Va.S :=
  [R, r, some (famD F), some (.int n), some (pl o n hn), x5, x6, x7, none, none, some (.int other), some (ft n (degN F)), x12, x13, x14, x15, x16, x17, x18]
theorem ties_app (A B : List Bag) (j : Int) : ties (A ++ B) j = ties A j ++ ties B j := by
  unfold ties
  rw [List.flatMap_append]
theorem ties_take_le (F : List Bag) (i : Nat) (j : Int) : (ties (F.take i) j).length ≤ degN F j := by
  have : degN F j = (ties (F.take i) j).length + (ties (F.drop i) j).length := by
    unfold degN
    rw [← List.length_append, ← ties_app, List.take_append_drop]
  omega
section
variable {n other : Int} {F : List Bag} {hv : Int → Nat} {D2 : Nat} {cl cp : Fn}
theorem near_step (hl : SpLow cl) (hp : SpPlus cp) (H : Fam n F) (hD : 0 < D2) (hDl : Lg D2 363) (hvl : ∀ x, Lg (hv x) 400) {a x : Int} (a0 : 0 ≤ a) (a1 : a < n) (x0 : 0 ≤ x) (x1 : x < n) {s : Nat} (hs : Lg s 3900) {m : Nat} {o : Bool} {R r x6 x7 x12 x13 x14 x17 : Option D} :
    ∃ o', nearB cl cp (sH R r F n o (fun x => low (hv x) D2) (some (.int a)) x6 x7 other x12 x13 x14 (some (pD (low s (D2 * degN F a)))) (some (.int (m : Nat))) x17 (some (.int x))) = some (.nx, sH R r F n o' (fun x => low (hv x) D2) (some (.int a)) x6 x7 other x12 x13 x14 (some (pD (low (s + if x ≠ a then hv x else 0) (D2 * degN F a)))) (some (.int ((m + if x ≠ a then 1 else 0 : Nat) : Int))) x17 (some (.int x))) := by
  by_cases h : x = a
  · subst h
    refine ⟨o, ?_⟩
    simp [nearB, sH, neI]
  · have hq : necF (.int x) (.int a) = some (.bl true) := by simp [h]
    have dp := deg_pos H a0 a1
    have hdl := Lg_deg H a
    have hQ : 0 < D2 * degN F a := Nat.mul_pos hD dp
    have hQl : Lg (D2 * degN F a) 4000 := (hDl.mul hdl).mono (by omega)
    have i1 := ix_pl (o := false) (n := n) (g := fun x => low (hv x) D2) x0 x1
    have hfz := frz_pl n (fun x => low (hv x) D2)
    have l1 : Lg (low (hv x) D2).1 400 := (hvl x).le (low_le1 _ _)
    have l2 : Lg (low (hv x) D2).2 363 := hDl.le (low_le2 _ _)
    have l3 := low_pos (k := hv x) hD
    have i2 := ix_ft (g := degN F) a0 a1
    have i3 : mulF (.int (((low (hv x) D2).2 : Nat) : Int)) (.int ((degN F a : Nat) : Int)) = some (.int (((low (hv x) D2).2 * degN F a : Nat) : Int)) := mulN 363 12 l2 hdl rfl rfl (by omega)
    have i4 := hl (a := (low (hv x) D2).1) (b := (low (hv x) D2).2 * degN F a) 400 375 (Nat.mul_pos l3 dp) l1 (l2.mul hdl) (by omega) (by omega)
    rw [ratD_low, low_low _ _ _ hD dp] at i4
    have i5 := hp (Sm.low (hs.mono (by omega)) hQl hQ) (Sm.low ((hvl x).mono (by omega)) hQl hQ)
    rw [plus_same _ _ _ hQ] at i5
    have q1 := ix_pD0 (low (hv x) D2)
    have q2 := ix_pD1 (low (hv x) D2)
    have im1 := imm_pl false n (fun x => low (hv x) D2)
    have im2 := imm_pl true n (fun x => low (hv x) D2)
    rw [if_pos h, if_pos h]
    refine ⟨false, ?_⟩
    unfold nearB sH
    generalize (((low (hv x) D2).2 * degN F a : Nat) : Int) = z1 at *
    generalize low (hv x) D2 = p1 at *
    generalize low (hv x) (D2 * degN F a) = p2 at *
    generalize low s (D2 * degN F a) = p3 at *
    generalize low (s + hv x) (D2 * degN F a) = p4 at *
    generalize (fun x => low (hv x) D2) = f at *
    have z2 : ((m + 1 : Nat) : Int) = (m : Int) + 1 := rfl
    rw [z2]
    cases o
    · simp [-ev_mul, mSet2, hq, i1, q1, q2, i2, i3, i4, i5]
    · simp [-ev_mul, mSet2, hq, hfz, i1, q1, q2, i2, i3, i4, i5]
theorem near_loop (hl : SpLow cl) (hp : SpPlus cp) (H : Fam n F) (hD : 0 < D2) (hDl : Lg D2 363) (hvl : ∀ x, Lg (hv x) 400) {a : Int} (a0 : 0 ≤ a) (a1 : a < n) {b : Bag} (hb : b ∈ F) {s : Nat} (hs : Lg s 3800) {m : Nat} {o : Bool} {R r x6 x7 x12 x13 x14 x17 x18 : Option D} :
    ∃ o' x18', forL (.n 18) (nearB cl cp) (intsD b) (sH R r F n o (fun x => low (hv x) D2) (some (.int a)) x6 x7 other x12 x13 x14 (some (pD (low s (D2 * degN F a)))) (some (.int (m : Nat))) x17 x18) = some (.nx, sH R r F n o' (fun x => low (hv x) D2) (some (.int a)) x6 x7 other x12 x13 x14 (some (pD (low (s + nsum hv (b.filter fun x => decide (x ≠ a))) (D2 * degN F a)))) (some (.int ((m + (b.filter fun x => decide (x ≠ a)).length : Nat) : Int))) x17 x18') := by
  have h60 := H.n60
  have hbl := H.bag_le b hb
  obtain ⟨st', e, o', x18', rfl⟩ := forL_idx (t := .n 18) (b := nearB cl cp) D.int (fun j st => ∃ o' x18', st = sH R r F n o' (fun x => low (hv x) D2) (some (.int a)) x6 x7 other x12 x13 x14 (some (pD (low (s + nsum hv ((b.take j).filter fun x => decide (x ≠ a))) (D2 * degN F a)))) (some (.int ((m + ((b.take j).filter fun x => decide (x ≠ a)).length : Nat) : Int))) x17 x18') (l := b) (st := sH R r F n o (fun x => low (hv x) D2) (some (.int a)) x6 x7 other x12 x13 x14 (some (pD (low s (D2 * degN F a)))) (some (.int (m : Nat))) x17 x18) ⟨o, x18, by simp [nsum]⟩ fun j hj st ⟨oo, y18, hst⟩ => by
    subst hst
    have hxr := H.rng b hb _ (List.getElem_mem hj)
    have htk : b.take (j + 1) = b.take j ++ [b[j]] := List.take_succ_eq_append_getElem hj
    have hlen : ((b.take j).filter fun x => decide (x ≠ a)).length < 2 ^ 6 := by
      have := List.length_filter_le (fun x => decide (x ≠ a)) (b.take j)
      rw [List.length_take] at this
      omega
    have hsl : Lg (s + nsum hv ((b.take j).filter fun x => decide (x ≠ a))) 3900 := (hs.add ((Lg_nsum (k := 6) hlen fun x _ => hvl x).mono (by omega))).mono (by omega)
    rw [htk, List.filter_append, nsum_app, List.length_append]
    generalize b[j] = x at *
    obtain ⟨o1, e1⟩ := near_step (other := other) hl hp H hD hDl hvl a0 a1 hxr.1 hxr.2 hsl (m := m + ((b.take j).filter fun x => decide (x ≠ a)).length) (o := oo) (R := R) (r := r) (x6 := x6) (x7 := x7) (x12 := x12) (x13 := x13) (x14 := x14) (x17 := x17)
    refine ⟨sH R r F n oo (fun x => low (hv x) D2) (some (.int a)) x6 x7 other x12 x13 x14 (some (pD (low (s + nsum hv ((b.take j).filter fun x => decide (x ≠ a))) (D2 * degN F a)))) (some (.int ((m + ((b.take j).filter fun x => decide (x ≠ a)).length : Nat) : Int))) x17 (some (.int x)), _, rfl, e1, o1, some (.int x), ?_⟩
    by_cases h : x = a
    · subst h; simp [nsum]
    · simp [h, nsum, Nat.add_assoc]
  rw [List.take_length] at e
  exact ⟨o', x18', e⟩
theorem bag_loop (hl : SpLow cl) (hp : SpPlus cp) (H : Fam n F) (hD : 0 < D2) (hDl : Lg D2 363) (hvl : ∀ x, Lg (hv x) 400) {a : Int} (a0 : 0 ≤ a) (a1 : a < n) {o : Bool} {R r x6 x7 x12 x13 x14 x17 x18 : Option D} :
    ∃ o' x7' x18', forL (.n 7) (bagB cl cp) (F.map bagD) (sH R r F n o (fun x => low (hv x) D2) (some (.int a)) x6 x7 other x12 x13 x14 (some (pD (low (D2 * degN F a) (D2 * degN F a)))) (some (.int 0)) x17 x18) = some (.nx, sH R r F n o' (fun x => low (hv x) D2) (some (.int a)) x6 x7' other x12 x13 x14 (some (pD (low (D2 * degN F a + nsum hv (ties F a)) (D2 * degN F a)))) (some (.int ((degN F a : Nat) : Int))) x17 x18') := by
  obtain ⟨st', e, o', x7', x18', rfl⟩ := forL_idx (t := .n 7) (b := bagB cl cp) bagD (fun i st => ∃ o' x7' x18', st = sH R r F n o' (fun x => low (hv x) D2) (some (.int a)) x6 x7' other x12 x13 x14 (some (pD (low (D2 * degN F a + nsum hv (ties (F.take i) a)) (D2 * degN F a)))) (some (.int (((ties (F.take i) a).length : Nat) : Int))) x17 x18') (l := F) (st := sH R r F n o (fun x => low (hv x) D2) (some (.int a)) x6 x7 other x12 x13 x14 (some (pD (low (D2 * degN F a) (D2 * degN F a)))) (some (.int 0)) x17 x18) ⟨o, x7, x18, by simp [ties, nsum]⟩ fun i hi st ⟨oo, y7, y18, hst⟩ => by
    subst hst
    have hb := List.getElem_mem hi
    have e0 : ties (F.take (i + 1)) a = ties (F.take i) a ++ (if a ∈ F[i] then F[i].filter (fun x => decide (x ≠ a)) else []) := by
      rw [List.take_succ_eq_append_getElem hi, ties_app]
      simp [ties]
    have h1 := ties_take_le F i a
    have hdl := Lg_deg H a
    have hs : Lg (D2 * degN F a + nsum hv (ties (F.take i) a)) 3800 := (((hDl.mul hdl).mono (show 375 ≤ 412 by omega)).add (Lg_nsum (k := 12) (Nat.lt_of_le_of_lt h1 hdl) fun x _ => hvl x)).mono (by omega)
    generalize F[i] = b at *
    rw [e0]
    by_cases hab : a ∈ b
    · obtain ⟨o1, z18, e1⟩ := near_loop (other := other) hl hp H hD hDl hvl a0 a1 hb hs (m := (ties (F.take i) a).length) (o := oo) (R := R) (r := r) (x6 := x6) (x7 := some (bagD b)) (x12 := x12) (x13 := x13) (x14 := x14) (x17 := x17) (x18 := y18)
      refine ⟨sH R r F n oo (fun x => low (hv x) D2) (some (.int a)) x6 (some (bagD b)) other x12 x13 x14 (some (pD (low (D2 * degN F a + nsum hv (ties (F.take i) a)) (D2 * degN F a)))) (some (.int (((ties (F.take i) a).length : Nat) : Int))) x17 y18, sH R r F n o1 (fun x => low (hv x) D2) (some (.int a)) x6 (some (bagD b)) other x12 x13 x14 (some (pD (low (D2 * degN F a + nsum hv (ties (F.take i) a) + nsum hv (b.filter fun x => decide (x ≠ a))) (D2 * degN F a)))) (some (.int (((ties (F.take i) a).length + (b.filter fun x => decide (x ≠ a)).length : Nat) : Int))) x17 z18, rfl, ?_, o1, some (bagD b), z18, ?_⟩
      · unfold bagB
        unfold sH at e1 ⊢
        generalize (pD (low (D2 * degN F a + nsum hv (ties (F.take i) a)) (D2 * degN F a))) = w1 at *
        generalize (((ties (F.take i) a).length : Nat) : Int) = w2 at *
        generalize (b.filter fun x => decide (x ≠ a)) = cc at *
        generalize (((ties (F.take i) a).length + cc.length : Nat) : Int) = w3 at *
        simp [in_bag, hab, mItems, bag_map, e1]
      · rw [if_pos hab, nsum_app, List.length_append, Nat.add_assoc]
    · refine ⟨sH R r F n oo (fun x => low (hv x) D2) (some (.int a)) x6 (some (bagD b)) other x12 x13 x14 (some (pD (low (D2 * degN F a + nsum hv (ties (F.take i) a)) (D2 * degN F a)))) (some (.int (((ties (F.take i) a).length : Nat) : Int))) x17 y18, sH R r F n oo (fun x => low (hv x) D2) (some (.int a)) x6 (some (bagD b)) other x12 x13 x14 (some (pD (low (D2 * degN F a + nsum hv (ties (F.take i) a)) (D2 * degN F a)))) (some (.int (((ties (F.take i) a).length : Nat) : Int))) x17 y18, rfl, ?_, oo, some (bagD b), y18, ?_⟩
      · unfold bagB sH
        generalize (pD (low (D2 * degN F a + nsum hv (ties (F.take i) a)) (D2 * degN F a))) = w1 at *
        generalize (((ties (F.take i) a).length : Nat) : Int) = w2 at *
        simp [in_bag, hab]
      · rw [if_neg hab, List.append_nil]
  rw [List.take_length] at e
  exact ⟨o', x7', x18', e⟩
end
end K49
namespace K49
open PySem PySem.Spec PyProof.Rows L2 Va Pl Nm
theorem low_self {Q : Nat} (h : 0 < Q) : low Q Q = (1, 1) := by
  unfold low
  rw [Nat.gcd_self, Nat.div_self h]
section
variable {n other : Int} {F : List Bag} {hv : Int → Nat} {D2 : Nat} {ca cl cp : Fn}
theorem bead_loop (hca : ∀ p, SpAl ca (pD p)) (hl : SpLow cl) (hp : SpPlus cp) (H : Fam n F) (hD : 0 < D2) (hDl : Lg D2 363) (hvl : ∀ x, Lg (hv x) 400) (hh : ∀ a, 0 ≤ a → a < n → a ≠ other → nsum hv (ties F a) + D2 * degN F a = degN F a * hv a) {o : Bool} {R r x6 x7 x12 x13 x14 x15 x16 x17 x18 : Option D} :
    ∃ o' x5' x7' x15' x16' x18', (∀ d, x5' = some d → Va.imm d = true) ∧ forL (.n 5) (beadB ca cl cp) (intsD (iot n)) (sH R r F n o (fun x => low (hv x) D2) none x6 x7 other x12 x13 x14 x15 x16 x17 x18) = some (.nx, sH R r F n o' (fun x => low (hv x) D2) x5' x6 x7' other x12 x13 x14 x15' x16' x17 x18') := by
  obtain ⟨st', e, o', x5', x7', x15', x16', x18', rfl, h5⟩ := forL_idx (t := .n 5) (b := beadB ca cl cp) D.int (fun i st => ∃ o' x5' x7' x15' x16' x18', st = sH R r F n o' (fun x => low (hv x) D2) x5' x6 x7' other x12 x13 x14 x15' x16' x17 x18' ∧ ∀ d, x5' = some d → Va.imm d = true) (l := iot n) (st := sH R r F n o (fun x => low (hv x) D2) none x6 x7 other x12 x13 x14 x15 x16 x17 x18) ⟨o, none, x7, x15, x16, x18, rfl, fun d h => by cases h⟩ fun i hi st ⟨oo, y5, y7, y15, y16, y18, hst, _⟩ => by
    subst hst
    have ar := iot_mem.mp (List.getElem_mem hi)
    generalize (iot n)[i] = a at *
    by_cases h : a = other
    · refine ⟨sH R r F n oo (fun x => low (hv x) D2) (some (.int a)) x6 y7 other x12 x13 x14 y15 y16 x17 y18, sH R r F n oo (fun x => low (hv x) D2) (some (.int a)) x6 y7 other x12 x13 x14 y15 y16 x17 y18, rfl, ?_, oo, some (.int a), y7, y15, y16, y18, rfl, fun d h => by cases h; rfl⟩
      subst h
      simp [beadB, sH, neI]
    · have hq : necF (.int a) (.int other) = some (.bl true) := by simp [h]
      have dp := deg_pos H ar.1 ar.2
      have hQ : 0 < D2 * degN F a := Nat.mul_pos hD dp
      obtain ⟨o1, z7, z18, e1⟩ := bag_loop (other := other) hl hp H hD hDl hvl ar.1 ar.2 (o := oo) (R := R) (r := r) (x6 := x6) (x7 := y7) (x12 := x12) (x13 := x13) (x14 := x14) (x17 := x17) (x18 := y18)
      have e2 := hh a ar.1 ar.2 h
      rw [low_self hQ, Nat.add_comm, e2, Nat.mul_comm (degN F a) (hv a), low_mul _ _ _ dp hD] at e1
      obtain ⟨_, c1, c2, e3⟩ := hca (low (hv a) D2)
      have e4 := ix_pl (o := o1) (n := n) (g := fun x => low (hv x) D2) ar.1 ar.2
      have e5 := ix_ft (g := degN F) ar.1 ar.2
      have hp0 : pD (1, 1) = .tup [.int 1, .int 1] := rfl
      rw [hp0] at e1
      refine ⟨sH R r F n oo (fun x => low (hv x) D2) (some (.int a)) x6 y7 other x12 x13 x14 y15 y16 x17 y18, sH R r F n o1 (fun x => low (hv x) D2) (some (.int a)) x6 z7 other x12 x13 x14 (some (pD (low (hv a) D2))) (some (.int ((degN F a : Nat) : Int))) x17 z18, rfl, ?_, o1, some (.int a), z7, _, _, z18, rfl, fun d h => by cases h; rfl⟩
      unfold beadB
      unfold sH at e1 ⊢
      generalize low (hv a) D2 = p1 at *
      generalize (fun x => low (hv x) D2) = f at *
      simp [hq, mSetP, mItems, e1, e5, neI, e4, e3]
  exact ⟨o', x5', x7', x15', x16', x18', h5, e⟩
end
/-- the state of the gates -/
def sG (R r : Option D) (F : List Bag) (n : Int) (x4 x5 : Option D) (o : Bool) (g : Int → Int → Nat) (x7 : Option D) (other one : Int) (x13 x14 x15 x16 x17 x18 : Option D) : Va.S :=
  [R, r, some (famD F), some (.int n), x4, x5, some (tabN o n g), x7, none, none, some (.int other), some (ft n (degN F)), some (.int one), x13, x14, x15, x16, x17, x18]
section
variable {n other one : Int} {F : List Bag} {g : Int → Int → Nat} {cl cp : Fn}
theorem dist_lc (H : Fam n F) {b : Bag} (hb : b ∈ F) (o0 : 0 ≤ one) (o1 : one < n) (o : Bool) {R r x4 x5 x13 x14 x15 x16 x17 x18 : Option D} (h5 : ∀ d, x5 = some d → Va.imm d = true) :
    mLc (mItems (mVar 7)) (.n 5) mYes (m2 (.e (m2 (.e (mVar 6)) (.v 12) ixF)) (.v 5) ixF) [5] (sG R r F n x4 x5 o g (some (bagD b)) other one x13 x14 x15 x16 x17 x18) = some (.lst true (b.map fun x => D.int ((g one x : Nat) : Int)), sG R r F n x4 x5 false g (some (bagD b)) other one x13 x14 x15 x16 x17 x18) := by
  have h60 := H.n60
  have hbl := H.bag_le b hb
  have hb2 := H.len b hb
  have hf := frz_tabN n g
  obtain ⟨out, st', e, oo, ho, rfl, rfl⟩ := mLc_inv (mi := mItems (mVar 7)) (t := .n 5) (me := (m2 (.e (m2 (.e (mVar 6)) (.v 12) ixF)) (.v 5) ixF)) (own := [5]) (st := sG R r F n x4 x5 o g (some (bagD b)) other one x13 x14 x15 x16 x17 x18) (s := sG R r F n x4 x5 o g (some (bagD b)) other one x13 x14 x15 x16 x17 x18) (l := b) D.int
    (fun i out st => ∃ oo, (0 < i → oo = false) ∧ out = (b.take i).map (fun x => D.int ((g one x : Nat) : Int)) ∧ st = sG R r F n x4 none oo g (some (bagD b)) other one x13 x14 x15 x16 x17 x18)
    (by simp [mItems, sG, bag_map]) (by cases x5 <;> simp [sG]; exact h5 _ rfl) (by omega) ⟨o, fun h => by omega, by simp, by simp [sG]⟩ fun i hi out st ⟨oo, ho, hout, hst⟩ => by
    subst hout hst
    have hr := H.rng b hb _ (List.getElem_mem hi)
    have htk : b.take (i + 1) = b.take i ++ [b[i]] := List.take_succ_eq_append_getElem hi
    rw [htk, List.map_append]
    generalize b[i] = x at *
    have u2 := ix_tabN (n := n) (g := g) o0 o1
    have u3 := ix_fl (o := false) (g := g one) hr.1 hr.2
    refine ⟨_, .int ((g one x : Nat) : Int), sG R r F n x4 (some (.int x)) false g (some (bagD b)) other one x13 x14 x15 x16 x17 x18, rfl, ?_, false, fun _ => rfl, rfl, by simp [sG]⟩
    cases oo
    · simp [sG, u2, u3]
    · simp [sG, hf, u2, u3]
  have := ho (by omega)
  subst this
  rw [List.take_length] at e
  rw [e]
  simp [sG]
theorem pair_lc (H : Fam n F) {b : Bag} (hb : b ∈ F) {e : Int} (o0 : 0 ≤ e) (o1 : e < n) {R r x4 x5 x13 x14 x15 x16 x18 : Option D} (h5 : ∀ d, x5 = some d → Va.imm d = true) :
    mLc (mItems (mVar 7)) (.n 5) mYes (mTup (mCons (m2 (.e (m2 (.e (mVar 6)) (.v 17) ixF)) (.v 5) ixF) (mCons (mVar 5) mNil))) [5] (sG R r F n x4 x5 false g (some (bagD b)) other one x13 x14 x15 x16 (some (.int e)) x18) = some (.lst true (b.map fun x => D.tup [.int ((g e x : Nat) : Int), .int x]), sG R r F n x4 x5 false g (some (bagD b)) other one x13 x14 x15 x16 (some (.int e)) x18) := by
  have h60 := H.n60
  have hbl := H.bag_le b hb
  rw [mLc_a (l := b) D.int (fun x => D.tup [.int ((g e x : Nat) : Int), .int x]) (s := sG R r F n x4 x5 false g (some (bagD b)) other one x13 x14 x15 x16 (some (.int e)) x18) (st0 := sG R r F n x4 none false g (some (bagD b)) other one x13 x14 x15 x16 (some (.int e)) x18) (by simp [mItems, sG, bag_map]) (by cases x5 <;> simp [sG]; exact h5 _ rfl) (by omega) (by simp [sG]) fun x hx => by
    have hr := H.rng b hb x hx
    have u2 := ix_tabN (n := n) (g := g) o0 o1
    have u3 := ix_fl (o := false) (g := g e) hr.1 hr.2
    refine ⟨_, sG R r F n x4 (some (.int x)) false g (some (bagD b)) other one x13 x14 x15 x16 (some (.int e)) x18, rfl, ?_, by simp [sG]⟩
    simp [sG, u2, u3]]
  simp [sG]
theorem gates_lc (H : Fam n F) (T : Tr n F g) {k : Int} (k0 : 0 ≤ k) (k1 : k < F.length) (o0 : 0 ≤ one) (o1 : one < n) (p0 : 0 ≤ other) (p1 : other < n) {R r x4 x5 x13 x14 x15 x16 x17 x18 : Option D} (h5 : ∀ d, x5 = some d → Va.imm d = true) (h17 : ∀ d, x17 = some d → Va.imm d = true) :
    mLc (mItems (mTup (mCons (mVar 12) (mCons (mVar 10) mNil)))) (.n 17) mYes (m2 (.e (m2 (.e (m1 (.e (mLc (mItems (mVar 7)) (.n 5) mYes (mTup (mCons (m2 (.e (m2 (.e (mVar 6)) (.v 17) ixF)) (.v 5) ixF) (mCons (mVar 5) mNil))) [5])) sortLF)) (.e (mC (.int 0))) ixF)) (.e (mC (.int 1))) ixF) [17] (sG R r F n x4 x5 false g (some (bagD (bagAt F k))) other one x13 x14 x15 x16 x17 x18) = some (.lst true [.int (gt F (g one) k), .int (gt F (g other) k)], sG R r F n x4 x5 false g (some (bagD (bagAt F k))) other one x13 x14 x15 x16 x17 x18) := by
  have hb := bagAt_mem k0 k1
  rw [mLc_a (l := [one, other]) D.int (fun e => D.int (gt F (g e) k)) (s := sG R r F n x4 x5 false g (some (bagD (bagAt F k))) other one x13 x14 x15 x16 x17 x18) (st0 := sG R r F n x4 x5 false g (some (bagD (bagAt F k))) other one x13 x14 x15 x16 none x18) (by simp [mItems, sG]) (by cases x17 <;> simp [sG]; exact h17 _ rfl) (by simp) (by simp [sG]) fun e he => by
    have er : 0 ≤ e ∧ e < n := by
      simp at he
      rcases he with rfl | rfl
      · exact ⟨o0, o1⟩
      · exact ⟨p0, p1⟩
    obtain ⟨z1, z2⟩ := T.gt er.1 er.2 k0 k1
    have u1 := pair_lc (g := g) (other := other) (one := one) H hb er.1 er.2 (R := R) (r := r) (x4 := x4) (x5 := x5) (x13 := x13) (x14 := x14) (x15 := x15) (x16 := x16) (x18 := x18) h5
    obtain ⟨L, u2, u3⟩ := sort_first true (d := g e) z1 fun x hx hne => by rw [z2 x hx hne]; omega
    have u4 : ixF (.tup [.int ((g e (gt F (g e) k) : Nat) : Int), .int (gt F (g e) k)]) (.int 1) = some (.int (gt F (g e) k)) := rfl
    refine ⟨sG R r F n x4 x5 false g (some (bagD (bagAt F k))) other one x13 x14 x15 x16 (some (.int e)) x18, sG R r F n x4 x5 false g (some (bagD (bagAt F k))) other one x13 x14 x15 x16 (some (.int e)) x18, rfl, ?_, by simp [sG]⟩
    generalize gt F (g e) k = z at *
    simp [u1, u2, u3, u4]]
  simp [sG]
theorem gate_step (hl : SpLow cl) (hp : SpPlus cp) (H : Fam n F) (T : Tr n F g) {k : Int} (k0 : 0 ≤ k) (k1 : k < F.length) (o0 : 0 ≤ one) (o1 : one < n) (p0 : 0 ≤ other) (p1 : other < n) (o : Bool) {s : Nat} (hs : Lg s 3900) {R r x4 x5 x14 x15 x16 x17 x18 : Option D} (h5 : ∀ d, x5 = some d → Va.imm d = true) (h17 : ∀ d, x17 = some d → Va.imm d = true) :
    ∃ x14', gateB cl cp (sG R r F n x4 x5 o g (some (bagD (bagAt F k))) other one (some (pD (low s (mulSz F)))) x14 x15 x16 x17 x18) = some (.nx, sG R r F n x4 x5 false g (some (bagD (bagAt F k))) other one (some (pD (low (s + if gt F (g one) k = gt F (g other) k then 0 else wN F k) (mulSz F)))) x14' x15 x16 x17 x18) := by
  have hb := bagAt_mem k0 k1
  have W := ww H
  have hM := Lg_M H
  have u1 := fun o => dist_lc (g := g) (other := other) (one := one) H hb o0 o1 o (R := R) (r := r) (x4 := x4) (x5 := x5) (x13 := some (pD (low s (mulSz F)))) (x14 := x14) (x15 := x15) (x16 := x16) (x17 := x17) (x18 := x18) h5
  have u2 := gates_lc (other := other) (one := one) H T k0 k1 o0 o1 p0 p1 (R := R) (r := r) (x4 := x4) (x5 := x5) (x13 := some (pD (low s (mulSz F)))) (x14 := x14) (x15 := x15) (x16 := x16) (x17 := x17) (x18 := x18) h5 h17
  have hb2 := H.len _ hb
  have hb60 := H.bag_le _ hb
  have hne : bagAt F k ≠ [] := fun q => by rw [q] at hb2; simp at hb2
  obtain ⟨z1, z2⟩ := T.gt o0 o1 k0 k1
  obtain ⟨mn, v1, ⟨y1, hy1, v2⟩, v3⟩ := min_ints true (fun x => ((g one x : Nat) : Int)) hne
  obtain ⟨mx, v4, ⟨y2, hy2, v5⟩, v6⟩ := max_ints true (fun x => ((g one x : Nat) : Int)) hne
  have bnd : ∀ y ∈ bagAt F k, g one (gt F (g one) k) ≤ g one y ∧ g one y ≤ g one (gt F (g one) k) + 1 := fun y hy => by
    by_cases q : y = gt F (g one) k
    · rw [q]; omega
    · have := z2 y hy q; omega
  have b1 := bnd y1 hy1
  have b2 := bnd y2 hy2
  have v7 : ∃ t : Int, absF (.int (mn - mx)) = some (.int t) ∧ t ≤ 1 := by
    refine ⟨_, rfl, ?_⟩
    split <;> omega
  obtain ⟨t, v7, v8⟩ := v7
  have v9 : (cmpF .Gt) (.int t) (.int 1) = some (.bl false) := by
    have : ¬ (1 < t) := by omega
    rw [ev_gt, decide_eq_false this]
  have i2 := hl (a := 2) (b := (bagAt F k).length) 2 6 (by omega) (by unfold Lg; omega) (by unfold Lg; have := H.n60; omega) (by omega) (by omega)
  rw [ratD_low, low_eq (x' := wN F k) (y' := mulSz F) (by omega) W.pos (by rw [W.eq k k0 k1])] at i2
  have i2' : cl [.int 2, .int ((bagAt F k).length : Int)] = some (pD (low (wN F k) (mulSz F)), [some (.int 2), some (.int ((bagAt F k).length : Int))]) := i2
  have i3 := hp (Sm.low (hs.mono (by omega)) (hM.mono (by omega)) W.pos) (Sm.low ((Lg_w H k).mono (by omega)) (hM.mono (by omega)) W.pos)
  rw [plus_same _ _ _ W.pos] at i3
  have q0 : ∀ a b : Int, ixF (.lst true [.int a, .int b]) (.int 0) = some (.int a) := fun _ _ => rfl
  have q1 : ∀ a b : Int, ixF (.lst true [.int a, .int b]) (.int 1) = some (.int b) := fun _ _ => rfl
  refine ⟨some (.lst true [.int (gt F (g one) k), .int (gt F (g other) k)]), ?_⟩
  unfold gateB
  generalize (mLc (mItems (mTup (mCons (mVar 12) (mCons (mVar 10) mNil)))) (.n 17) mYes (m2 (.e (m2 (.e (m1 (.e (mLc (mItems (mVar 7)) (.n 5) mYes (mTup (mCons (m2 (.e (m2 (.e (mVar 6)) (.v 17) ixF)) (.v 5) ixF) (mCons (mVar 5) mNil))) [5])) sortLF)) (.e (mC (.int 0))) ixF)) (.e (mC (.int 1))) ixF) [17]) = GL at *
  generalize (mLc (mItems (mVar 7)) (.n 5) mYes (m2 (.e (m2 (.e (mVar 6)) (.v 12) ixF)) (.v 5) ixF) [5]) = DL at *
  unfold sG at *
  by_cases hg : gt F (g one) k = gt F (g other) k
  · rw [if_pos hg, Nat.add_zero]
    rw [hg] at u2 ⊢
    generalize low s (mulSz F) = p1 at *
    generalize gt F (g other) k = z at *
    simp [u1, v1, v4, v7, v9, u2, q0, q1, neI]
  · rw [if_neg hg]
    have hq : necF (.int (gt F (g one) k)) (.int (gt F (g other) k)) = some (.bl true) := by simp [hg]
    generalize low s (mulSz F) = p1 at *
    generalize low (wN F k) (mulSz F) = p2 at *
    generalize low (s + wN F k) (mulSz F) = p3 at *
    generalize gt F (g one) k = z at *
    generalize gt F (g other) k = z' at *
    simp [u1, v1, v4, v7, v9, u2, q0, q1, hq, i2', i3]
theorem gate_loop (hl : SpLow cl) (hp : SpPlus cp) (H : Fam n F) (T : Tr n F g) (o0 : 0 ≤ one) (o1 : one < n) (p0 : 0 ≤ other) (p1 : other < n) {R r x4 x5 x7 x15 x16 x18 : Option D} (h5 : ∀ d, x5 = some d → Va.imm d = true) :
    ∃ o' x7' x14', forL (.n 7) (gateB cl cp) (F.map bagD) (sG R r F n x4 x5 true g x7 other one (some (pD (low 0 (mulSz F)))) none x15 x16 none x18) = some (.nx, sG R r F n x4 x5 o' g x7' other one (some (pD (low (Rw F g (wN F) one other) (mulSz F)))) x14' x15 x16 none x18) := by
  have hall : ∀ i, Lg (nsum (fun k => if gt F (g one) k = gt F (g other) k then 0 else wN F k) (iot (i : Nat))) 3900 ∨ F.length < i := fun i => by
    by_cases h : i ≤ F.length
    · refine .inl ((Lg_nsum (k := 6) (j := 363) (by rw [iot_len]; have := H.len_le; have := H.n60; omega) fun k _ => ?_).mono (by omega))
      split
      · exact Nat.two_pow_pos _
      · exact Lg_w H k
    · exact .inr (by omega)
  obtain ⟨st', e, o', x7', x14', rfl⟩ := forL_idx (t := .n 7) (b := gateB cl cp) bagD (fun i st => ∃ o' x7' x14', st = sG R r F n x4 x5 o' g x7' other one (some (pD (low (nsum (fun k => if gt F (g one) k = gt F (g other) k then 0 else wN F k) (iot (i : Nat))) (mulSz F)))) x14' x15 x16 none x18) (l := F) (st := sG R r F n x4 x5 true g x7 other one (some (pD (low 0 (mulSz F)))) none x15 x16 none x18) ⟨true, x7, none, rfl⟩ fun i hi st ⟨oo, y7, y14, hst⟩ => by
    subst hst
    have hbA : bagAt F (i : Int) = F[i] := bagAt_nat (List.getElem?_eq_getElem hi)
    rw [iot_succ, nsum_app]
    have hs := (hall i).resolve_right (by omega)
    obtain ⟨z14, e1⟩ := gate_step (other := other) (one := one) hl hp H T (k := (i : Int)) (by omega) (by omega) o0 o1 p0 p1 oo hs (R := R) (r := r) (x4 := x4) (x5 := x5) (x14 := y14) (x15 := x15) (x16 := x16) (x17 := none) (x18 := x18) h5 (fun d h => by cases h)
    rw [hbA] at e1
    exact ⟨_, _, rfl, e1, false, some (bagD F[i]), z14, by simp [nsum]⟩
  exact ⟨o', x7', x14', e⟩
end
end K49
namespace K49
open PySem PySem.Spec PyProof.Rows L2 Va Pl Nm
def L1 : M Fl := (mSet 1 (mLst (mCons (mVar 0) (mCons (mC (.int 0)) (mCons (mC (.int 5249)) (mCons (mC (.int 0)) mNil))))))
def L2 (c__law_pick c__law_family : Fn) : M Fl := (mSet 2 (mCall c__law_family (mLate 1 (mCons (mCall c__law_pick (mCons (mTake 1) (mCons (mLst (mCons (mC (.int 5)) (mCons (mC (.int 14)) mNil))) mNil)) [some 1, none]) mNil)) [some 1, none]))
def L3 (c__law_size : Fn) : M Fl := (mSet 3 (mCall c__law_size (mCons (mTake 2) mNil) [some 2]))
def L4 (c_neighbors c__law_taken : Fn) : M Fl := (mSetP [10, 11] (mCons (mCall c__law_taken (mCons (mTake 1) (mCons (mTake 3) mNil)) [some 1, some 3]) (mCons (mCall c_neighbors (mCons (mTake 2) mNil) [some 2]) mNil)))
def L5 (c_mean_steps : Fn) : M Fl := (mSet 4 (mLc (mRg1 (mVar 3)) (.n 5) mYes (mCall c_mean_steps (mCons (mTake 2) (mCons (mTake 5) (mCons (mTake 10) mNil))) [some 2, some 5, some 10]) [5]))
def L6 (c__law_alike : Fn) : M Fl := (mIf (mNot (mTru (mCall c__law_alike (mCons (m2 (.v 4) (.v 10) ixF) (mCons (mTup (mCons (mC (.int 0)) (mCons (mC (.int 1)) mNil))) mNil)) [none, none]))) (mRet (mC (.bl false))) mNx)
def L7 (c__law_alike c__law_lowered c__law_plus : Fn) : M Fl := (mFor (mRg1 (mVar 3)) (.n 5) (mIf (mB (m2 (.v 5) (.v 10) (cmpF .NotEq))) (mSeq (mSetP [15, 16] (mCons (mTup (mCons (mC (.int 1)) (mCons (mC (.int 1)) mNil))) (mCons (mC (.int 0)) mNil))) (mSeq (mFor (mItems (mVar 2)) (.n 7) (mIf (mB (m2 (.v 5) (.v 7) (cmpF .In))) (mFor (mItems (mVar 7)) (.n 18) (mIf (mB (m2 (.v 18) (.v 5) (cmpF .NotEq))) (mSet2 15 16 (mCons (mCall c__law_plus (mCons (mTake 15) (mCons (mCall c__law_lowered (mCons (m2 (.e (m2 (.e (mVar 4)) (.v 18) ixF)) (.e (mC (.int 0))) ixF) (mCons (m2 (.e (m2 (.e (m2 (.e (mVar 4)) (.v 18) ixF)) (.e (mC (.int 1))) ixF)) (.e (m2 (.v 11) (.v 5) ixF)) mulF) mNil)) [none, none]) mNil)) [some 15, none]) (mCons (m2 (.v 16) (.e (mC (.int 1))) addF) mNil))) mNx)) mNx)) (mIf (mOr (mB (m2 (.v 16) (.e (m2 (.v 11) (.v 5) ixF)) (cmpF .NotEq))) (mNot (mTru (mCall c__law_alike (mCons (m2 (.v 4) (.v 5) ixF) (mCons (mTake 15) mNil)) [none, some 15])))) (mRet (mC (.bl false))) mNx))) mNx))
def L8 (c__law_taken : Fn) : M Fl := (mSetP [12, 13] (mCons (mCall c__law_taken (mCons (mTake 1) (mCons (mTake 3) mNil)) [some 1, some 3]) (mCons (mTup (mCons (mC (.int 0)) (mCons (mC (.int 1)) mNil))) mNil)))
def L9 (c__law_tree_far : Fn) : M Fl := (mSet 6 (mCall c__law_tree_far (mCons (mTake 2) mNil) [some 2]))
def L10 (c__law_lowered c__law_plus : Fn) : M Fl := (mFor (mItems (mVar 2)) (.n 7) (mSeq (mIf (mB (m2 (.e (m1 (.e (m2 (.e (m1 (.e (mLc (mItems (mVar 7)) (.n 5) mYes (m2 (.e (m2 (.e (mVar 6)) (.v 12) ixF)) (.v 5) ixF) [5])) minF)) (.e (m1 (.e (mLc (mItems (mVar 7)) (.n 5) mYes (m2 (.e (m2 (.e (mVar 6)) (.v 12) ixF)) (.v 5) ixF) [5])) maxF)) subF)) absF)) (.e (mC (.int 1))) (cmpF .Gt))) (mRet (mC (.bl false))) mNx) (mSeq (mSet 14 (mLc (mItems (mTup (mCons (mVar 12) (mCons (mVar 10) mNil)))) (.n 17) mYes (m2 (.e (m2 (.e (m1 (.e (mLc (mItems (mVar 7)) (.n 5) mYes (mTup (mCons (m2 (.e (m2 (.e (mVar 6)) (.v 17) ixF)) (.v 5) ixF) (mCons (mVar 5) mNil))) [5])) sortLF)) (.e (mC (.int 0))) ixF)) (.e (mC (.int 1))) ixF) [17])) (mIf (mB (m2 (.e (m2 (.v 14) (.e (mC (.int 0))) ixF)) (.e (m2 (.v 14) (.e (mC (.int 1))) ixF)) (cmpF .NotEq))) (mSet 13 (mCall c__law_plus (mCons (mTake 13) (mCons (mCall c__law_lowered (mCons (mC (.int 2)) (mCons (m1 (.v 7) lenF) mNil)) [none, none]) mNil)) [some 13, none])) mNx))))
def L11 (c__law_alike c_resistance : Fn) : M Fl := (mIf (mNot (mTru (mCall c__law_alike (mCons (mCall c_resistance (mCons (mTake 2) (mCons (mTake 12) (mCons (mTake 10) mNil))) [some 2, some 12, some 10]) (mCons (mTake 13) mNil)) [none, some 13]))) (mRet (mC (.bl false))) mNx)
def L12 (c_mean_steps c__law_plus : Fn) : M Fl := (mSet 8 (mCall c__law_plus (mCons (mCall c_mean_steps (mCons (mTake 2) (mCons (mTake 12) (mCons (mTake 10) mNil))) [some 2, some 12, some 10]) (mCons (mCall c_mean_steps (mCons (mTake 2) (mCons (mTake 10) (mCons (mTake 12) mNil))) [some 2, some 10, some 12]) mNil)) [none, none]))
def L13 (c_stay_share : Fn) : M Fl := (mSet 9 (mCall c_stay_share (mCons (mTake 2) (mCons (mTake 12) mNil)) [some 2, some 12]))
def L14 (c__law_lowered : Fn) : M Fl := (mRet (mD (mAnd (mB (m2 (.v 8) (.e (mCall c__law_lowered (mCons (m2 (.e (m2 (.v 13) (.e (mC (.int 0))) ixF)) (.e (m1 (.v 11) sumTF)) mulF) (mCons (m2 (.v 13) (.e (mC (.int 1))) ixF) mNil)) [none, none])) (cmpF .Eq))) (mB (m2 (.v 9) (.e (mCall c__law_lowered (mCons (m2 (.v 11) (.v 12) ixF) (mCons (m1 (.v 11) sumTF) mNil)) [none, none])) (cmpF .Eq))))))
theorem L_split (c__law_pick c__law_family c__law_size c_neighbors c__law_taken c_mean_steps c__law_alike c__law_lowered c__law_plus c__law_tree_far c_resistance c_stay_share : Fn) : m_law c__law_pick c__law_family c__law_size c_neighbors c__law_taken c_mean_steps c__law_alike c__law_lowered c__law_plus c__law_tree_far c_resistance c_stay_share = (mSeq L1 (mSeq (L2 c__law_pick c__law_family) (mSeq (L3 c__law_size) (mSeq (L4 c_neighbors c__law_taken) (mSeq (L5 c_mean_steps) (mSeq (L6 c__law_alike) (mSeq (L7 c__law_alike c__law_lowered c__law_plus) (mSeq (L8 c__law_taken) (mSeq (L9 c__law_tree_far) (mSeq (L10 c__law_lowered c__law_plus) (mSeq (L11 c__law_alike c_resistance) (mSeq (L12 c_mean_steps c__law_plus) (mSeq (L13 c_stay_share) (L14 c__law_lowered)))))))))))))) := rfl
theorem mFor_run {mi : M (List D)} {t : Tgt} {b : M Fl} {st s : Va.S} {ds : List D} (h : mi st = some (ds, s)) : mFor mi t b st = forL t b ds s := by
  rw [ev_mFor, h]
theorem low_mulr (k D m : Nat) (hD : 0 < D) : low ((low k D).1 * m) (low k D).2 = low (k * m) D := by
  have h := low_cross k D
  have hp := low_pos (k := k) hD
  refine low_eq hp hD ?_
  generalize (low k D).1 = a at *
  generalize (low k D).2 = b at *
  grind
theorem sum_ft (n : Int) (g : Int → Nat) : sumTF (ft n g) = some (.int ((nsum g (iot n) : Nat) : Int)) := by
  have h := sum_fl true n g
  have e : ft n g = .tup (intsD ((iot n).map fun x => ((g x : Nat) : Int))) := by unfold ft intsD; rw [List.map_map]; rfl
  rw [e]
  show (match toInts (intsD ((iot n).map fun x => ((g x : Nat) : Int))) with | some ns => some (D.int (isum ns)) | none => none) = _
  rw [toInts_ints]
  dsimp only
  rw [isum_nsum]
theorem alike_pD (c : Fn) (p : Nat × Nat) : SpAl (f__law_alike (f__law_alike c)) (pD p) := alike_ints _ (b := [((p.1 : Nat) : Int), ((p.2 : Nat) : Int)]) (by simp)
theorem L7_eq (a b c : Fn) : L7 a b c = mFor (mRg1 (mVar 3)) (.n 5) (beadB a b c) := rfl
theorem L10_eq (b c : Fn) : L10 b c = mFor (mItems (mVar 2)) (.n 7) (gateB b c) := rfl
theorem pure_law (ns : List Int) (hns : ns.length ≤ 63) : ∃ outs, rho T 60 35 [.rol (ns.map .int)] = some (.bl true, outs) := by
  obtain ⟨R, hR⟩ : ∃ R, D.rol (ns.map .int) = R := ⟨_, rfl⟩
  have hRi : Va.imm R = true := by rw [← hR]; rfl
  have hrow : D.lst true [R, .int 0, .int 5249, .int 0] = row ns 0 5249 0 := by rw [← hR]; rfl
  have hr0 : RowOk ns (row ns 0 5249 0) := ⟨0, 5249, 0, rfl, by omega, by omega, by omega⟩
  obtain ⟨r0, hr0e⟩ : ∃ r0, row ns 0 5249 0 = r0 := ⟨_, rfl⟩
  rw [hr0e] at hrow hr0
  obtain ⟨y, hy, r1, o1, e1, hr1⟩ := q__law_pick ns 57 r0 true [.int 5, .int 14] hr0 (by simp) (by simp) (by simp)
  obtain ⟨m, rfl, mm2, m60⟩ : ∃ m : Int, y = .int m ∧ 2 ≤ m ∧ m ≤ 60 := by
    simp at hy
    rcases hy with rfl | rfl
    all_goals exact ⟨_, rfl, by omega, by omega⟩
  obtain ⟨F, n, r2, H, hn, e2, hr2⟩ := q__law_family ns 56 r1 m hr1 mm2 m60
  have h60 := H.n60
  have h2 := H.n2
  have e3 := q__law_size 58 H
  obtain ⟨other, r3, t1, p0, p1, hr3⟩ := q__law_taken ns 58 r2 n hr2 (by omega) (by omega)
  have e4 := q_neighbors 53 H
  obtain ⟨g, hg, e5⟩ := q__law_tree_far 57 H
  have T0 : Tr n F g := Tr.of H (q_back_from 50) hg
  have W := ww H
  have hM := Lg_M H
  obtain ⟨one, r4, t2, o0, o1', hr4⟩ := q__law_taken ns 58 r3 n hr3 (by omega) (by omega)
  have hsn := small_of (i := n) (by omega) (by omega)
  have hMp : 0 < 2 * mulSz F := by have := W.pos; omega
  have hM2 : Lg (2 * mulSz F) 363 := (show Lg 2 2 by unfold Lg; omega).mul hM
  have hca : ∀ p, SpAl (rho T 59 26) (pD p) := fun p => alike_pD _ _
  obtain ⟨o', x5', x7', x15', x16', x18', h5, E7⟩ := bead_loop (other := other) (hv := fun x => Hn n F g (wN F) x other) (D2 := 2 * mulSz F) hca (q__law_lowered 57) (q__law_plus 56) H hMp hM2 (fun x => Lg_Hn H x other) (fun a a0 a1 ha => harm T0 H W a0 a1 p0 p1 ha) (o := true) (R := some R) (r := some r3) (x6 := none) (x7 := none) (x12 := none) (x13 := none) (x14 := none) (x15 := none) (x16 := none) (x17 := none) (x18 := none)
  obtain ⟨o2, x7'', x14', E10⟩ := gate_loop (other := other) (one := one) (q__law_lowered 57) (q__law_plus 56) H T0 o0 o1' p0 p1 (R := some R) (r := some r4) (x4 := some (pl o' n (fun x => low (Hn n F g (wN F) x other) (2 * mulSz F)))) (x5 := x5') (x7 := x7') (x15 := x15') (x16 := x16') (x18 := x18') h5
  have h1 : L1 [some R, none, none, none, none, none, none, none, none, none, none, none, none, none, none, none, none, none, none] = some (.nx, [some R, some r0, none, none, none, none, none, none, none, none, none, none, none, none, none, none, none, none, none]) := by
    unfold L1; simp [hrow, hRi]
  have j0 := hr0.imm
  have j1 := hr1.imm
  have j2 := hr2.imm
  have j3 := hr3.imm
  have j4 := hr4.imm
  have h2' : L2 (rho T 59 25) (rho T 59 29) [some R, some r0, none, none, none, none, none, none, none, none, none, none, none, none, none, none, none, none, none] = some (.nx, [some R, some r2, some (famD F), none, none, none, none, none, none, none, none, none, none, none, none, none, none, none, none]) := by
    unfold L2; simp [e1, e2, j0, j1, j2]
  have h3 : L3 (rho T 59 30) [some R, some r2, some (famD F), none, none, none, none, none, none, none, none, none, none, none, none, none, none, none, none] = some (.nx, [some R, some r2, some (famD F), some (.int n), none, none, none, none, none, none, none, none, none, none, none, none, none, none, none]) := by
    unfold L3; simp [e3]
  have i3 : ∀ n g, Va.imm (ft n g) = true := fun _ _ => rfl
  have h4 : L4 (rho T 59 19) (rho T 59 24) [some R, some r2, some (famD F), some (.int n), none, none, none, none, none, none, none, none, none, none, none, none, none, none, none] = some (.nx, [some R, some r3, some (famD F), some (.int n), none, none, none, none, none, none, some (.int other), some (ft n (degN F)), none, none, none, none, none, none, none]) := by
    unfold L4; simp [mSetP, t1, e4, j2, j3, i3]
  have h5' : L5 (rho T 59 22) [some R, some r3, some (famD F), some (.int n), none, none, none, none, none, none, some (.int other), some (ft n (degN F)), none, none, none, none, none, none, none] = some (.nx, [some R, some r3, some (famD F), some (.int n), some (pl true n (fun x => low (Hn n F g (wN F) x other) (2 * mulSz F))), none, none, none, none, none, some (.int other), some (ft n (degN F)), none, none, none, none, none, none, none]) := by
    unfold L5
    have eLc : mLc (mRg1 (mVar 3)) (.n 5) mYes (mCall (rho T 59 22) (mCons (mTake 2) (mCons (mTake 5) (mCons (mTake 10) mNil))) [some 2, some 5, some 10]) [5] [some R, some r3, some (famD F), some (.int n), none, none, none, none, none, none, some (.int other), some (ft n (degN F)), none, none, none, none, none, none, none] = some (pl true n (fun x => low (Hn n F g (wN F) x other) (2 * mulSz F)), [some R, some r3, some (famD F), some (.int n), none, none, none, none, none, none, some (.int other), some (ft n (degN F)), none, none, none, none, none, none, none]) := by
      rw [mLc_a (l := iot n) D.int (fun x => pD (low (Hn n F g (wN F) x other) (2 * mulSz F))) (s := [some R, some r3, some (famD F), some (.int n), none, none, none, none, none, none, some (.int other), some (ft n (degN F)), none, none, none, none, none, none, none]) (st0 := [some R, some r3, some (famD F), some (.int n), none, none, none, none, none, none, some (.int other), some (ft n (degN F)), none, none, none, none, none, none, none]) (by simp [hsn, rgD0]) (by simp) (by rw [iot_len]; omega) (by simp) fun x hx => by
        have hr := iot_mem.mp hx
        have u1 := q_mean_steps 53 H T0 hr.1 hr.2 p0 p1
        refine ⟨_, ([some R, some r3, some (famD F), some (.int n), none, none, none, none, none, none, some (.int other), some (ft n (degN F)), none, none, none, none, none, none, none]).set 5 (some (.int x)), rfl, ?_, by simp⟩
        simp [u1]]
      simp [pl]
    simp only [ev_mSet, eLc]
    simp
  have z0 : low (Hn n F g (wN F) other other) (2 * mulSz F) = (0, 1) := by rw [Hn_self, low_zero hMp]
  have hp0 : pD (0, 1) = .tup [.int 0, .int 1] := rfl
  have h6 : L6 (rho T 59 26) [some R, some r3, some (famD F), some (.int n), some (pl true n (fun x => low (Hn n F g (wN F) x other) (2 * mulSz F))), none, none, none, none, none, some (.int other), some (ft n (degN F)), none, none, none, none, none, none, none] = some (.nx, [some R, some r3, some (famD F), some (.int n), some (pl true n (fun x => low (Hn n F g (wN F) x other) (2 * mulSz F))), none, none, none, none, none, some (.int other), some (ft n (degN F)), none, none, none, none, none, none, none]) := by
    have u1 := ix_pl (o := true) (n := n) (g := (fun x => low (Hn n F g (wN F) x other) (2 * mulSz F))) p0 p1
    have u1' : ixF (pl true n (fun x => low (Hn n F g (wN F) x other) (2 * mulSz F))) (.int other) = some (.tup [.int 0, .int 1]) := by rw [u1, z0]; rfl
    obtain ⟨_, c1, c2, u2⟩ := hca (0, 1)
    rw [hp0] at u2
    unfold L6
    generalize (fun x => low (Hn n F g (wN F) x other) (2 * mulSz F)) = f at *
    simp [u1', u2]
  have h7 : L7 (rho T 59 26) (rho T 59 33) (rho T 59 34) [some R, some r3, some (famD F), some (.int n), some (pl true n (fun x => low (Hn n F g (wN F) x other) (2 * mulSz F))), none, none, none, none, none, some (.int other), some (ft n (degN F)), none, none, none, none, none, none, none] = some (.nx, [some R, some r3, some (famD F), some (.int n), some (pl o' n (fun x => low (Hn n F g (wN F) x other) (2 * mulSz F))), x5', none, x7', none, none, some (.int other), some (ft n (degN F)), none, none, none, x15', x16', none, x18']) := by
    rw [L7_eq]
    refine (mFor_run (ds := intsD (iot n)) (s := [some R, some r3, some (famD F), some (.int n), some (pl true n (fun x => low (Hn n F g (wN F) x other) (2 * mulSz F))), none, none, none, none, none, some (.int other), some (ft n (degN F)), none, none, none, none, none, none, none]) ?_).trans E7
    simp [hsn, rgD0]
  have hz : low 0 (mulSz F) = (0, 1) := low_zero W.pos
  have h8 : L8 (rho T 59 24) [some R, some r3, some (famD F), some (.int n), some (pl o' n (fun x => low (Hn n F g (wN F) x other) (2 * mulSz F))), x5', none, x7', none, none, some (.int other), some (ft n (degN F)), none, none, none, x15', x16', none, x18'] = some (.nx, [some R, some r4, some (famD F), some (.int n), some (pl o' n (fun x => low (Hn n F g (wN F) x other) (2 * mulSz F))), x5', none, x7', none, none, some (.int other), some (ft n (degN F)), some (.int one), some (pD (low 0 (mulSz F))), none, x15', x16', none, x18']) := by
    rw [hz, hp0]
    unfold L8
    generalize (fun x => low (Hn n F g (wN F) x other) (2 * mulSz F)) = f at *
    simp [mSetP, t2, j3, j4]
  have ti : Va.imm (tabN true n g) = false := rfl
  have h9 : L9 (rho T 59 31) [some R, some r4, some (famD F), some (.int n), some (pl o' n (fun x => low (Hn n F g (wN F) x other) (2 * mulSz F))), x5', none, x7', none, none, some (.int other), some (ft n (degN F)), some (.int one), some (pD (low 0 (mulSz F))), none, x15', x16', none, x18'] = some (.nx, [some R, some r4, some (famD F), some (.int n), some (pl o' n (fun x => low (Hn n F g (wN F) x other) (2 * mulSz F))), x5', some (tabN true n g), x7', none, none, some (.int other), some (ft n (degN F)), some (.int one), some (pD (low 0 (mulSz F))), none, x15', x16', none, x18']) := by
    unfold L9
    generalize (fun x => low (Hn n F g (wN F) x other) (2 * mulSz F)) = f at *
    generalize pD (low 0 (mulSz F)) = z at *
    simp [e5, ti]
  have h10 : L10 (rho T 59 33) (rho T 59 34) [some R, some r4, some (famD F), some (.int n), some (pl o' n (fun x => low (Hn n F g (wN F) x other) (2 * mulSz F))), x5', some (tabN true n g), x7', none, none, some (.int other), some (ft n (degN F)), some (.int one), some (pD (low 0 (mulSz F))), none, x15', x16', none, x18'] = some (.nx, [some R, some r4, some (famD F), some (.int n), some (pl o' n (fun x => low (Hn n F g (wN F) x other) (2 * mulSz F))), x5', some (tabN o2 n g), x7'', none, none, some (.int other), some (ft n (degN F)), some (.int one), some (pD (low (Rw F g (wN F) one other) (mulSz F))), x14', x15', x16', none, x18']) := by
    rw [L10_eq]
    refine (mFor_run (ds := F.map bagD) (s := [some R, some r4, some (famD F), some (.int n), some (pl o' n (fun x => low (Hn n F g (wN F) x other) (2 * mulSz F))), x5', some (tabN true n g), x7', none, none, some (.int other), some (ft n (degN F)), some (.int one), some (pD (low 0 (mulSz F))), none, x15', x16', none, x18']) ?_).trans E10
    generalize (fun x => low (Hn n F g (wN F) x other) (2 * mulSz F)) = f at *
    generalize pD (low 0 (mulSz F)) = z at *
    simp [mItems, famD]
  have h11 : L11 (rho T 59 26) (rho T 59 21) [some R, some r4, some (famD F), some (.int n), some (pl o' n (fun x => low (Hn n F g (wN F) x other) (2 * mulSz F))), x5', some (tabN o2 n g), x7'', none, none, some (.int other), some (ft n (degN F)), some (.int one), some (pD (low (Rw F g (wN F) one other) (mulSz F))), x14', x15', x16', none, x18'] = some (.nx, [some R, some r4, some (famD F), some (.int n), some (pl o' n (fun x => low (Hn n F g (wN F) x other) (2 * mulSz F))), x5', some (tabN o2 n g), x7'', none, none, some (.int other), some (ft n (degN F)), some (.int one), some (pD (low (Rw F g (wN F) one other) (mulSz F))), x14', x15', x16', none, x18']) := by
    have u1 := q_resistance 53 H T0 o0 o1' p0 p1
    rw [Rw_symm] at u1
    obtain ⟨_, c1, c2, u2⟩ := hca (low (Rw F g (wN F) one other) (mulSz F))
    unfold L11
    generalize (fun x => low (Hn n F g (wN F) x other) (2 * mulSz F)) = f at *
    generalize low (Rw F g (wN F) one other) (mulSz F) = z at *
    simp [u1, u2]
  have hD := nsum_pos H
  have hDl := Lg_degs H
  have hRl := Lg_R (g := g) H one other
  have h12 : L12 (rho T 59 22) (rho T 59 34) [some R, some r4, some (famD F), some (.int n), some (pl o' n (fun x => low (Hn n F g (wN F) x other) (2 * mulSz F))), x5', some (tabN o2 n g), x7'', none, none, some (.int other), some (ft n (degN F)), some (.int one), some (pD (low (Rw F g (wN F) one other) (mulSz F))), x14', x15', x16', none, x18'] = some (.nx, [some R, some r4, some (famD F), some (.int n), some (pl o' n (fun x => low (Hn n F g (wN F) x other) (2 * mulSz F))), x5', some (tabN o2 n g), x7'', some (pD (low (nsum (degN F) (iot n) * Rw F g (wN F) one other) (mulSz F))), none, some (.int other), some (ft n (degN F)), some (.int one), some (pD (low (Rw F g (wN F) one other) (mulSz F))), x14', x15', x16', none, x18']) := by
    have u1 := q_mean_steps 53 H T0 o0 o1' p0 p1
    have u2 := q_mean_steps 53 H T0 p0 p1 o0 o1'
    have u3 := q__law_plus 56 (p := low (Hn n F g (wN F) one other) (2 * mulSz F)) (q := low (Hn n F g (wN F) other one) (2 * mulSz F)) (Sm.low ((Lg_Hn H one other).mono (by omega)) (hM2.mono (by omega)) hMp) (Sm.low ((Lg_Hn H other one).mono (by omega)) (hM2.mono (by omega)) hMp)
    rw [plus_same _ _ _ hMp, Hn_both, Nat.mul_comm 2 (mulSz F), Nat.mul_comm 2, low_mul _ _ _ (by omega) W.pos, Rw_symm other one] at u3
    unfold L12
    generalize (fun x => low (Hn n F g (wN F) x other) (2 * mulSz F)) = f at *
    rw [Nat.mul_comm (mulSz F) 2] at u3
    generalize low (Hn n F g (wN F) one other) (2 * mulSz F) = z1 at *
    generalize low (Hn n F g (wN F) other one) (2 * mulSz F) = z2 at *
    generalize low (nsum (degN F) (iot n) * Rw F g (wN F) one other) (mulSz F) = z3 at *
    generalize low (Rw F g (wN F) one other) (mulSz F) = z4 at *
    simp [u1, u2, u3]
  have h13 : L13 (rho T 59 23) [some R, some r4, some (famD F), some (.int n), some (pl o' n (fun x => low (Hn n F g (wN F) x other) (2 * mulSz F))), x5', some (tabN o2 n g), x7'', some (pD (low (nsum (degN F) (iot n) * Rw F g (wN F) one other) (mulSz F))), none, some (.int other), some (ft n (degN F)), some (.int one), some (pD (low (Rw F g (wN F) one other) (mulSz F))), x14', x15', x16', none, x18'] = some (.nx, [some R, some r4, some (famD F), some (.int n), some (pl o' n (fun x => low (Hn n F g (wN F) x other) (2 * mulSz F))), x5', some (tabN o2 n g), x7'', some (pD (low (nsum (degN F) (iot n) * Rw F g (wN F) one other) (mulSz F))), some (pD (low (degN F one) (nsum (degN F) (iot n)))), some (.int other), some (ft n (degN F)), some (.int one), some (pD (low (Rw F g (wN F) one other) (mulSz F))), x14', x15', x16', none, x18']) := by
    have u1 := q_stay_share 53 H o0 o1'
    unfold L13
    generalize (fun x => low (Hn n F g (wN F) x other) (2 * mulSz F)) = f at *
    generalize low (nsum (degN F) (iot n) * Rw F g (wN F) one other) (mulSz F) = z3 at *
    generalize low (Rw F g (wN F) one other) (mulSz F) = z4 at *
    generalize low (degN F one) (nsum (degN F) (iot n)) = z5 at *
    simp [u1]
  have h14 : L14 (rho T 59 33) [some R, some r4, some (famD F), some (.int n), some (pl o' n (fun x => low (Hn n F g (wN F) x other) (2 * mulSz F))), x5', some (tabN o2 n g), x7'', some (pD (low (nsum (degN F) (iot n) * Rw F g (wN F) one other) (mulSz F))), some (pD (low (degN F one) (nsum (degN F) (iot n)))), some (.int other), some (ft n (degN F)), some (.int one), some (pD (low (Rw F g (wN F) one other) (mulSz F))), x14', x15', x16', none, x18'] = some (.ret (.bl true), [some R, some r4, some (famD F), some (.int n), some (pl o' n (fun x => low (Hn n F g (wN F) x other) (2 * mulSz F))), x5', some (tabN o2 n g), x7'', some (pD (low (nsum (degN F) (iot n) * Rw F g (wN F) one other) (mulSz F))), some (pD (low (degN F one) (nsum (degN F) (iot n)))), some (.int other), some (ft n (degN F)), some (.int one), some (pD (low (Rw F g (wN F) one other) (mulSz F))), x14', x15', x16', none, x18']) := by
    have u1 := sum_ft n (degN F)
    have u2 := ix_ft (g := degN F) o0 o1'
    have u3 := ix_pD0 (low (Rw F g (wN F) one other) (mulSz F))
    have u4 := ix_pD1 (low (Rw F g (wN F) one other) (mulSz F))
    have l1 : Lg (low (Rw F g (wN F) one other) (mulSz F)).1 369 := hRl.le (low_le1 _ _)
    have l2 : Lg (low (Rw F g (wN F) one other) (mulSz F)).2 361 := hM.le (low_le2 _ _)
    have u5 : mulF (.int (((low (Rw F g (wN F) one other) (mulSz F)).1 : Nat) : Int)) (.int ((nsum (degN F) (iot n) : Nat) : Int)) = some (.int (((low (Rw F g (wN F) one other) (mulSz F)).1 * nsum (degN F) (iot n) : Nat) : Int)) := mulN 369 18 l1 hDl rfl rfl (by omega)
    have u6 := q__law_lowered 57 (a := (low (Rw F g (wN F) one other) (mulSz F)).1 * nsum (degN F) (iot n)) (b := (low (Rw F g (wN F) one other) (mulSz F)).2) 387 361 (low_pos W.pos) (l1.mul hDl) l2 (by omega) (by omega)
    rw [ratD_low, low_mulr _ _ _ W.pos, Nat.mul_comm (Rw F g (wN F) one other)] at u6
    have u7 := q__law_lowered 57 (a := degN F one) (b := nsum (degN F) (iot n)) 12 18 hD (Lg_deg H one) hDl (by omega) (by omega)
    rw [ratD_low] at u7
    have u8 : ∀ p, eqcF (pD p) (pD p) = some (.bl true) := fun p => (eqD_self60 (d := pD p) rfl).1
    unfold L14
    generalize (fun x => low (Hn n F g (wN F) x other) (2 * mulSz F)) = f at *
    generalize (((low (Rw F g (wN F) one other) (mulSz F)).1 * nsum (degN F) (iot n) : Nat) : Int) = q1 at *
    generalize low (nsum (degN F) (iot n) * Rw F g (wN F) one other) (mulSz F) = z3 at *
    generalize low (Rw F g (wN F) one other) (mulSz F) = z4 at *
    generalize low (degN F one) (nsum (degN F) (iot n)) = z5 at *
    generalize ((nsum (degN F) (iot n) : Nat) : Int) = q2 at *
    simp [-ev_mul, u1, u2, u3, u4, u5, u6, u7, u8]
  refine ⟨[some (.rol (ns.map .int))], ?_⟩
  rw [r_law 59, hR]
  unfold f_law
  rw [L_split]
  have hm := (mSeq_run h1).trans ((mSeq_run h2').trans ((mSeq_run h3).trans ((mSeq_run h4).trans ((mSeq_run h5').trans ((mSeq_run h6).trans ((mSeq_run h7).trans ((mSeq_run h8).trans ((mSeq_run h9).trans ((mSeq_run h10).trans ((mSeq_run h11).trans ((mSeq_run h12).trans ((mSeq_run h13).trans h14))))))))))))
  exact runD_ret (nN := 19) (n := 1) (RO := fun i => ([true] : List Bool).getD i false) (ds := [R]) rfl hm rfl
end K49
namespace K49
open PySem PySem.Spec PyProof.Rows L2 Va
/-! ### the head -/
abbrev R : PySem.W.OpenRow := PySem.W.OpenLaw.row PySem.Challenge.rw_sharebags_k49_whole_mean_steps
def fal : List He.Fa := faOf bs gis T
def fnl : List He.DefD := T.map (·.d)
abbrev hk : PySem.W.Hook := He.hookD 4 fal fnl
def ob (s : PySem.W.SharedT) : He.AlD := He.obsDG 4 fal fnl (HandSHeadRun.getT s)
theorem ob_eq (s : PySem.W.SharedT) : ob s = hk.obs s.abs := He.obsDG_eq (HandSHeadRun.getT_eq s)
def loose : List Str := (["BagError", "BadBags", "BadFamily", "BadBead", "MOST_BEADS", "is_int", "is_in", "is_rising", "is_bag", "need_bags", "size_of", "shared_by", "homes_of", "reached_from", "bar_of", "ring_of", "need_family", "need_bead", "common", "lowered", "plus", "back_from", "way_of", "near_numbers", "neighbors", "hard_of", "resistance", "mean_steps", "stay_share", "_law_taken"] : List Str) ++ (["_law_pick", "_law_alike", "_law_mixed", "_law_named", "_law_family", "_law_size", "_law_tree_far", "_law_common", "_law_lowered", "_law_plus"] : List Str)
set_option maxHeartbeats 0 in
theorem run (w : World) : HandSHeadRun.RunEq R (PySem.W.view R.prog [47]) hk ob 4000 loose w := by
  intro os
  kernel_rfl
end K49
open PySem PySem.W PySem.Calls PyProof.Rows
set_option maxHeartbeats 0 in
theorem PySem.Challenge.cw_sharebags_k49_whole_mean_steps_holds : PySem.Challenge.rw_sharebags_k49_whole_mean_steps.Holds := by
  w_on; o_law
  refine HandSHeadRun.head_any (r := OpenLaw.row PySem.Challenge.rw_sharebags_k49_whole_mean_steps) (q := view (OpenLaw.row PySem.Challenge.rw_sharebags_k49_whole_mean_steps).prog [47]) (H := K49.hk) (ob := K49.ob) (M := 4000) (loose := K49.loose) (d := HandSHeadRun.topDef (OpenLaw.row PySem.Challenge.rw_sharebags_k49_whole_mean_steps).prog 47) (kwd := []) K49.ob_eq
    (by kernel_rfl) (fun s => by kernel_rfl) K49.run (by kernel_rfl) (by kernel_rfl) (by kernel_rfl) (by rfl) (by first | assumption | decide +kernel) (by decide +kernel) ⟨rfl, rfl, rfl, rfl, rfl, by decide +kernel⟩ ?hw ?hc
  case hw => w_witness2
  case hc =>
    refine L2.walk_ofE (l := PySem.Challenge.rw_sharebags_k49_whole_mean_steps) (n := 63) (k := 60 + 1) (x := "_law_script") (CX := L2.CX0) rfl (by decide) (by kernel_rfl) ⟨rfl, by decide, by decide⟩ ?F (fun _ _ _ _ z => z)
    intro w mg fa h Y G hmg0
    obtain ⟨K, KX, c⟩ := Y
    have hmg : mg ("law" : PySem.Str) = some (.ref fa) := by
      have e : (HandSHeadRun.topDef (OpenLaw.row PySem.Challenge.rw_sharebags_k49_whole_mean_steps).prog 47).name = ("law" : PySem.Str) := by kernel_rfl
      rw [← e]
      exact hmg0
    obtain ⟨fd, hb, hF⟩ := Va.law_facts (P := (PySem.Challenge.rw_sharebags_k49_whole_mean_steps).prog) (w := w) K49.oks K49.hsig KX G c 60 35 (e := K49.e_law) rfl (x := "_law_script") rfl hmg
    refine ⟨K, fd, Va.spF K 1 (Va.rho K49.T 60 35), KX, hb, fun H a ns hl _ hS => ?_, fun base _ _ => hF base⟩
    obtain ⟨outs, hp⟩ := K49.pure_law ns hl
    exact Va.law_sp hS hp (Va.rho_len K49.T 60 35 (e := K49.e_law) rfl _ _ _ hp)
#print axioms PySem.Challenge.cw_sharebags_k49_whole_mean_steps_holds
