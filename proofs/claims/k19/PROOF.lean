import PyProof.Rows.All
import HandS.ForMost
import HandS.Walk
import HandS.TupAny
import HandS.TupLe
import KE.DataCmp
import KE.DataMinMax
import HandS.Wide
import HandS.RaiseMore
import HandS.Style
import HandS.DictComp
import HandS.Conv
import HandS.Zip
import HandS.SortRule
import KE.KDictKeyed
import KE.KDictCopyH
import KE.DataEq
import KE.SortData
import PyProof.ReprReads
import HandS.TupMul
import PyProof.StrBlock2
import HandS.HeadHook2
import HandS.HeadEnd
import HandS.Codes
import HandS.Defaults
import PyProof.ReprRoads
import KE.KTupSum
import HandS.NoneIn
import KE.GoesMore
import PyProof.Rows.FactsN_abs
import HandS.IsInst
import HandS.Strs
import PyProof.FactsAll.list_0
import PyProof.FactsAll.list_3
import HandS.Ends
import PySem.Challenge.RW_fillerfed_k19_states_and_what_is_behind
import HandS.Head0
import HandS.Head1
import HandS.Head2
import HandS.HeadHook1
import KE.KStateDown
section
set_option Elab.async false
set_option linter.all false
set_option maxRecDepth 100000
/-! PL1: data over the abstract heap: frozen views (Fz), owned trees (Ow), what a list of slots and temporaries holds (Fits). -/
namespace PL
open L2 PyProof.Rows PySem.Spec PySem
abbrev Fg := PySem.W.Frag
def hide (S : List Addr) (H : Hp) : Hp := fun a => if a ∈ S then none else H a
theorem hide_some {S : List Addr} {H : Hp} {a : Addr} {o : HO} : hide S H a = some o ↔ a ∉ S ∧ H a = some o := by
  unfold hide
  by_cases h : a ∈ S <;> simp [h]
def Sub (F F' : Hp) : Prop := ∀ a o, F a = some o → F' a = some o
theorem Sub.refl {F : Hp} : Sub F F := fun _ _ h => h
theorem Sub.trans {F G H : Hp} (a : Sub F G) (b : Sub G H) : Sub F H := fun x o h => b x o (a x o h)
theorem sub_hide {S : List Addr} {H : Hp} : Sub (hide S H) H := fun _ _ h => (hide_some.mp h).2
theorem hide_sub {S T : List Addr} {H H' : Hp} (h : Sub H H') (hs : ∀ a ∈ T, a ∉ S → H a = none) : Sub (hide S H) (hide T H') := fun a o q => by
  obtain ⟨q1, q2⟩ := hide_some.mp q
  refine hide_some.mpr ⟨fun z => ?_, h a o q2⟩
  rw [hs a z q1] at q2; cases q2
theorem sub_upd {H : Hp} {p : Addr} {o : HO} (h : H p = none) : Sub H (upd H p o) := fun a u q => by
  rw [upd_ne (ne_of_none q h)]; exact q
/-! ### keys of dicts: ints and texts, or tuples of these -/
def kD : Key → PyData
  | .inl i => .int i
  | .inr x => .str x
def tD (k : List Key) : PyData := .tuple (k.map kD)
def kOf : PyData → Option Key
  | .int i => some (.inl i)
  | .str x => some (.inr x)
  | _ => none
def kOfs : List PyData → Option (List Key)
  | [] => some []
  | d :: ds => match kOf d, kOfs ds with
    | some k, some ks => some (k :: ks)
    | _, _ => none
def tOf : PyData → Option (List Key)
  | .tuple ds => kOfs ds
  | _ => none
def hashT (w : World) (k : List Key) : Int := reduceHash (Builtin.Tuple.tupleHashOf (k.map (keyH w)))
/-- the keys of a dict: all of them plain, or all of them tuples; told apart -/
def DKeys (w : World) (hs : List Int) (dk : List PyData) : Prop :=
  (∃ kk : List Key, dk = kk.map kD ∧ kk.Nodup ∧ hs = kk.map (keyH w)) ∨ ∃ tt : List (List Key), dk = tt.map tD ∧ tt.Nodup ∧ hs = tt.map (hashT w)
/-- a dict's own object -/
def dHO (o : Obj) (a : Addr) : HO := .ext fun h => h.get? a = some o
structure DRaw (w : World) (o : Obj) (ks vs : List V) (dk : List PyData) : Prop where
  ex : ∃ (es : Array DictEntry) (ep : Nat), o = { cls := .type "dict", data := .dict es ep } ∧ Vals ks (es.toList.map (·.key)) ∧ Vals vs (es.toList.map (·.val)) ∧ DKeys w (es.toList.map (·.hash)) dk
  size : dk.length ≤ sizeLine
section
variable (w : World) (F H : Hp)
mutual
/-- v is the datum d, all of it within F -/
def Fz : V → PyData → Prop
  | v, .none => v = .non
  | v, .bool b => v = .bl b
  | v, .int i => v = .int i
  | v, .str x => v = .str x
  | v, .tuple ds => ∃ a xs, v = .ref a ∧ F a = some (.tup xs) ∧ FzAll xs ds
  | v, .list ds => ∃ a xs, v = .ref a ∧ F a = some (.lst xs) ∧ FzAll xs ds
  | v, .dict kvs => ∃ a o ks vs, v = .ref a ∧ F a = some (dHO o a) ∧ (a == sysModules) = false ∧ DRaw w o ks vs (kvs.map (·.1)) ∧ FzKv ks vs kvs
def FzAll : List V → List PyData → Prop
  | [], [] => True
  | x :: xs, d :: ds => Fz x d ∧ FzAll xs ds
  | [], _ :: _ => False
  | _ :: _, [] => False
def FzKv : List V → List V → List (PyData × PyData) → Prop
  | ks, vs, [] => ks = [] ∧ vs = []
  | ks, vs, (a, b) :: r => ∃ k ks' v vs', ks = k :: ks' ∧ vs = v :: vs' ∧ Fz k a ∧ Fz v b ∧ FzKv ks' vs' r
end
def OwAll {α β : Type} (R : α → β → List Addr → Prop) : List α → List β → List Addr → Prop
  | [], [], fp => fp = []
  | x :: xs, d :: ds, fp => ∃ f g, R x d f ∧ OwAll R xs ds g ∧ fp = f ++ g
  | [], _ :: _, _ => False
  | _ :: _, [], _ => False
/-- v is the datum d; the lists and dicts of its n upper levels stand at fp, nobody else has them -/
def Ow : Nat → V → PyData → List Addr → Prop
  | 0, v, d, fp => Fz w F v d ∧ fp = []
  | n + 1, v, d, fp => match d with
    | .list ds => ∃ a xs g, v = .ref a ∧ H a = some (.lst xs) ∧ OwAll (Ow n) xs ds g ∧ fp = a :: g
    | .dict kvs => ∃ a o ks vs g, v = .ref a ∧ H a = some (dHO o a) ∧ (a == sysModules) = false ∧ DRaw w o ks vs (kvs.map (·.1)) ∧ FzAll w F ks (kvs.map (·.1)) ∧ OwAll (Ow n) vs (kvs.map (·.2)) g ∧ fp = a :: g
    | d => Fz w F v d ∧ fp = []
end
section
variable {w : World} {F F' H H' : Hp}
mutual
theorem Fz.mono (s : Sub F F') : ∀ (d : PyData) (v : V), Fz w F v d → Fz w F' v d
  | .none, _, h => h
  | .bool _, _, h => h
  | .int _, _, h => h
  | .str _, _, h => h
  | .tuple ds, _, ⟨a, xs, e, q, r⟩ => ⟨a, xs, e, s _ _ q, FzAll.mono s ds xs r⟩
  | .list ds, _, ⟨a, xs, e, q, r⟩ => ⟨a, xs, e, s _ _ q, FzAll.mono s ds xs r⟩
  | .dict kvs, _, ⟨a, es, ks, vs, e, q, y, r, t⟩ => ⟨a, es, ks, vs, e, s _ _ q, y, r, FzKv.mono s kvs ks vs t⟩
theorem FzAll.mono (s : Sub F F') : ∀ (ds : List PyData) (xs : List V), FzAll w F xs ds → FzAll w F' xs ds
  | [], [], _ => trivial
  | d :: ds, x :: xs, h => ⟨Fz.mono s d x h.1, FzAll.mono s ds xs h.2⟩
  | [], _ :: _, h => h.elim
  | _ :: _, [], h => h.elim
theorem FzKv.mono (s : Sub F F') : ∀ (kvs : List (PyData × PyData)) (ks vs : List V), FzKv w F ks vs kvs → FzKv w F' ks vs kvs
  | [], _, _, h => h
  | (a, b) :: r, _, _, ⟨k, ks, v, vs, e1, e2, h1, h2, h3⟩ => ⟨k, ks, v, vs, e1, e2, Fz.mono s a k h1, Fz.mono s b v h2, FzKv.mono s r ks vs h3⟩
end
theorem FzKv.split : ∀ {kvs : List (PyData × PyData)} {ks vs : List V}, FzKv w F ks vs kvs → FzAll w F ks (kvs.map (·.1)) ∧ FzAll w F vs (kvs.map (·.2))
  | [], _, _, ⟨e1, e2⟩ => by subst e1 e2; exact ⟨trivial, trivial⟩
  | (a, b) :: r, _, _, ⟨k, ks, v, vs, e1, e2, h1, h2, h3⟩ => by
    subst e1 e2
    obtain ⟨p, q⟩ := FzKv.split h3
    exact ⟨⟨h1, p⟩, h2, q⟩
theorem FzKv.join : ∀ {kvs : List (PyData × PyData)} {ks vs : List V}, FzAll w F ks (kvs.map (·.1)) → FzAll w F vs (kvs.map (·.2)) → FzKv w F ks vs kvs
  | [], [], [], _, _ => ⟨rfl, rfl⟩
  | (a, b) :: r, k :: ks, v :: vs, h, g => ⟨k, ks, v, vs, rfl, rfl, h.1, g.1, FzKv.join h.2 g.2⟩
  | [], _ :: _, _, h, _ => h.elim
  | [], [], _ :: _, _, h => h.elim
  | _ :: _, [], _, h, _ => h.elim
  | _ :: _, _ :: _, [], _, h => h.elim
theorem FzAll.length : ∀ {ds : List PyData} {xs : List V}, FzAll w F xs ds → xs.length = ds.length
  | [], [], _ => rfl
  | d :: ds, x :: xs, h => by rw [List.length_cons, List.length_cons, FzAll.length h.2]
  | [], _ :: _, h => h.elim
  | _ :: _, [], h => h.elim
theorem FzAll.append : ∀ {ds es : List PyData} {xs ys : List V}, FzAll w F xs ds → FzAll w F ys es → FzAll w F (xs ++ ys) (ds ++ es)
  | [], _, [], _, _, h => h
  | d :: ds, _, x :: xs, _, h, g => ⟨h.1, FzAll.append h.2 g⟩
  | [], _, _ :: _, _, h, _ => h.elim
  | _ :: _, _, [], _, h, _ => h.elim
theorem FzAll.get : ∀ {ds : List PyData} {xs : List V} {i : Nat} {d : PyData}, FzAll w F xs ds → ds[i]? = some d → ∃ x, xs[i]? = some x ∧ Fz w F x d
  | [], _, _, _, _, e => by simp at e
  | d :: ds, x :: xs, 0, _, h, e => by simp at e; subst e; exact ⟨x, rfl, h.1⟩
  | d :: ds, x :: xs, i + 1, _, h, e => by
    obtain ⟨y, h1, h2⟩ := FzAll.get (i := i) h.2 (by simpa using e)
    exact ⟨y, by simpa using h1, h2⟩
  | _ :: _, [], _, _, h, _ => h.elim
theorem FzAll.get' : ∀ {ds : List PyData} {xs : List V} {i : Nat} {x : V}, FzAll w F xs ds → xs[i]? = some x → ∃ d, ds[i]? = some d ∧ Fz w F x d
  | _, [], _, _, _, e => by simp at e
  | d :: ds, x :: xs, 0, _, h, e => by simp at e; subst e; exact ⟨d, rfl, h.1⟩
  | d :: ds, x :: xs, i + 1, _, h, e => by
    obtain ⟨y, h1, h2⟩ := FzAll.get' (i := i) h.2 (by simpa using e)
    exact ⟨y, by simpa using h1, h2⟩
  | [], _ :: _, _, _, h, _ => h.elim
theorem FzAll.take : ∀ {ds : List PyData} {xs : List V} (n : Nat), FzAll w F xs ds → FzAll w F (xs.take n) (ds.take n)
  | [], [], n, _ => by simp [FzAll]
  | d :: ds, x :: xs, 0, h => by simp [FzAll]
  | d :: ds, x :: xs, n + 1, h => ⟨h.1, FzAll.take n h.2⟩
  | [], _ :: _, _, h => h.elim
  | _ :: _, [], _, h => h.elim
theorem FzAll.drop : ∀ {ds : List PyData} {xs : List V} (n : Nat), FzAll w F xs ds → FzAll w F (xs.drop n) (ds.drop n)
  | [], [], n, _ => by simp [FzAll]
  | d :: ds, x :: xs, 0, h => h
  | d :: ds, x :: xs, n + 1, h => FzAll.drop n h.2
  | [], _ :: _, _, h => h.elim
  | _ :: _, [], _, h => h.elim
theorem FzAll.reverse : ∀ {ds : List PyData} {xs : List V}, FzAll w F xs ds → FzAll w F xs.reverse ds.reverse
  | [], [], _ => trivial
  | d :: ds, x :: xs, h => by
    rw [List.reverse_cons, List.reverse_cons]
    exact FzAll.append (FzAll.reverse h.2) ⟨h.1, trivial⟩
  | [], _ :: _, h => h.elim
  | _ :: _, [], h => h.elim
theorem FzAll.of_get : ∀ {ds : List PyData} {xs : List V}, xs.length = ds.length → (∀ (i : Nat) (d : PyData), ds[i]? = some d → ∃ x, xs[i]? = some x ∧ Fz w F x d) → FzAll w F xs ds
  | [], [], _, _ => trivial
  | d :: ds, x :: xs, hl, h => by
    refine ⟨?_, FzAll.of_get (by simpa using hl) fun i e he => ?_⟩
    · obtain ⟨y, h1, h2⟩ := h 0 d rfl
      simp at h1; subst h1; exact h2
    · obtain ⟨y, h1, h2⟩ := h (i + 1) e (by simpa using he)
      exact ⟨y, by simpa using h1, h2⟩
  | [], _ :: _, hl, _ => by simp at hl
  | _ :: _, [], hl, _ => by simp at hl
theorem OwAll.imp {α β : Type} {R R' : α → β → List Addr → Prop} : ∀ {xs : List α} {ds : List β} {fp : List Addr}, OwAll R xs ds fp → (∀ x d f, (∀ a ∈ f, a ∈ fp) → R x d f → R' x d f) → OwAll R' xs ds fp
  | [], [], _, h, _ => h
  | x :: xs, d :: ds, _, ⟨f, g, h1, h2, e⟩, k => by
    subst e
    exact ⟨f, g, k x d f (fun a ha => List.mem_append_left _ ha) h1, OwAll.imp h2 (fun y e f' hf r => k y e f' (fun a ha => List.mem_append_right _ (hf a ha)) r), rfl⟩
  | [], _ :: _, _, h, _ => h.elim
  | _ :: _, [], _, h, _ => h.elim
theorem OwAll.toFz {R : V → PyData → List Addr → Prop} : ∀ {xs : List V} {ds : List PyData} {fp : List Addr}, OwAll R xs ds fp → (∀ x d f, (∀ a ∈ f, a ∈ fp) → R x d f → Fz w F x d) → FzAll w F xs ds
  | [], [], _, _, _ => trivial
  | x :: xs, d :: ds, _, ⟨f, g, h1, h2, e⟩, k => by
    subst e
    exact ⟨k x d f (fun a ha => List.mem_append_left _ ha) h1, OwAll.toFz h2 (fun y e f' hf r => k y e f' (fun a ha => List.mem_append_right _ (hf a ha)) r)⟩
  | [], _ :: _, _, h, _ => h.elim
  | _ :: _, [], _, h, _ => h.elim
theorem OwAll.ofFz : ∀ {xs : List V} {ds : List PyData}, FzAll w F xs ds → OwAll (Ow w F H 0) xs ds []
  | [], [], _ => rfl
  | x :: xs, d :: ds, h => ⟨[], [], ⟨h.1, rfl⟩, OwAll.ofFz h.2, rfl⟩
  | [], _ :: _, h => h.elim
  | _ :: _, [], h => h.elim
theorem OwAll.fz : ∀ {xs : List V} {ds : List PyData} {fp : List Addr}, OwAll (Ow w F H 0) xs ds fp → FzAll w F xs ds ∧ fp = []
  | [], [], _, h => ⟨trivial, h⟩
  | x :: xs, d :: ds, _, ⟨f, g, h1, h2, e⟩ => by
    obtain ⟨r, e2⟩ := OwAll.fz h2
    exact ⟨⟨h1.1, r⟩, by rw [e, h1.2, e2]; rfl⟩
  | [], _ :: _, _, h => h.elim
  | _ :: _, [], _, h => h.elim
theorem OwAll.append {α β : Type} {R : α → β → List Addr → Prop} : ∀ {xs ys : List α} {ds es : List β} {f g : List Addr}, OwAll R xs ds f → OwAll R ys es g → OwAll R (xs ++ ys) (ds ++ es) (f ++ g)
  | [], _, [], _, _, _, h, k => by rw [show _ = [] from h]; exact k
  | x :: xs, _, d :: ds, _, _, _, ⟨f, g, h1, h2, e⟩, k => by
    subst e
    exact ⟨f, _, h1, OwAll.append h2 k, by rw [List.append_assoc]⟩
  | [], _, _ :: _, _, _, _, h, _ => h.elim
  | _ :: _, _, [], _, _, _, h, _ => h.elim
theorem OwAll.unappend {α β : Type} {R : α → β → List Addr → Prop} : ∀ {xs ys : List α} {ds es : List β} {fp : List Addr}, xs.length = ds.length → OwAll R (xs ++ ys) (ds ++ es) fp → ∃ f g, OwAll R xs ds f ∧ OwAll R ys es g ∧ fp = f ++ g
  | [], _, [], _, fp, _, h => ⟨[], fp, rfl, h, rfl⟩
  | x :: xs, _, d :: ds, _, _, hl, ⟨f, g, h1, h2, e⟩ => by
    obtain ⟨f', g', a, b, e'⟩ := OwAll.unappend (by simpa using hl) h2
    exact ⟨f ++ f', g', ⟨f, f', h1, a, rfl⟩, b, by rw [e, e', List.append_assoc]⟩
  | [], _, _ :: _, _, _, hl, _ => by simp at hl
  | _ :: _, _, [], _, _, hl, _ => by simp at hl
theorem OwAll.length {α β : Type} {R : α → β → List Addr → Prop} : ∀ {xs : List α} {ds : List β} {fp : List Addr}, OwAll R xs ds fp → xs.length = ds.length
  | [], [], _, _ => rfl
  | x :: xs, d :: ds, _, ⟨_, _, _, h, _⟩ => by rw [List.length_cons, List.length_cons, OwAll.length h]
  | [], _ :: _, _, h => h.elim
  | _ :: _, [], _, h => h.elim
theorem Ow.mono (s : Sub F F') : ∀ (n : Nat) (v : V) (d : PyData) (fp : List Addr), Ow w F H n v d fp → (∀ a ∈ fp, ∀ o, H a = some o → H' a = some o) → Ow w F' H' n v d fp
  | 0, v, d, fp, h, _ => ⟨Fz.mono s d v h.1, h.2⟩
  | n + 1, v, d, fp, h, k => by
    cases d with
    | list ds =>
      obtain ⟨a, xs, g, e, q, r, rfl⟩ := h
      exact ⟨a, xs, g, e, k a List.mem_cons_self _ q, r.imp fun x d f hf r => Ow.mono s n x d f r fun b hb => k b (List.mem_cons_of_mem _ (hf b hb)), rfl⟩
    | dict kvs =>
      obtain ⟨a, es, ks, vs, g, e, q, y, dr, fk, r, rfl⟩ := h
      exact ⟨a, es, ks, vs, g, e, k a List.mem_cons_self _ q, y, dr, FzAll.mono s _ _ fk, r.imp fun x d f hf r => Ow.mono s n x d f r fun b hb => k b (List.mem_cons_of_mem _ (hf b hb)), rfl⟩
    | none => exact ⟨Fz.mono s _ v h.1, h.2⟩
    | bool b => exact ⟨Fz.mono s _ v h.1, h.2⟩
    | int b => exact ⟨Fz.mono s _ v h.1, h.2⟩
    | str b => exact ⟨Fz.mono s _ v h.1, h.2⟩
    | tuple b => exact ⟨Fz.mono s _ v h.1, h.2⟩
/-- what is owned, frozen: within any view that has it -/
theorem Ow.fz (s : Sub F F') : ∀ (n : Nat) (v : V) (d : PyData) (fp : List Addr), Ow w F H n v d fp → (∀ a ∈ fp, ∀ o, H a = some o → F' a = some o) → Fz w F' v d
  | 0, v, d, fp, h, _ => Fz.mono s d v h.1
  | n + 1, v, d, fp, h, k => by
    cases d with
    | list ds =>
      obtain ⟨a, xs, g, e, q, r, rfl⟩ := h
      exact ⟨a, xs, e, k a List.mem_cons_self _ q, r.toFz fun x d f hf r => Ow.fz s n x d f r fun b hb => k b (List.mem_cons_of_mem _ (hf b hb))⟩
    | dict kvs =>
      obtain ⟨a, es, ks, vs, g, e, q, y, dr, fk, r, rfl⟩ := h
      exact ⟨a, es, ks, vs, e, k a List.mem_cons_self _ q, y, dr, FzKv.join (FzAll.mono s _ _ fk) (r.toFz fun x d f hf r => Ow.fz s n x d f r fun b hb => k b (List.mem_cons_of_mem _ (hf b hb)))⟩
    | none => exact Fz.mono s _ v h.1
    | bool b => exact Fz.mono s _ v h.1
    | int b => exact Fz.mono s _ v h.1
    | str b => exact Fz.mono s _ v h.1
    | tuple b => exact Fz.mono s _ v h.1
/-- what is owned is a list or a dict that is tracked -/
def Cont : Option HO → Prop
  | some (.lst _) => True
  | some (.ext _) => True
  | _ => False
theorem OwAll.mem {α β : Type} {R : α → β → List Addr → Prop} : ∀ {xs : List α} {ds : List β} {fp : List Addr}, OwAll R xs ds fp → ∀ a ∈ fp, ∃ x d f, R x d f ∧ a ∈ f
  | [], [], _, h, a, ha => by rw [show _ = [] from h] at ha; cases ha
  | x :: xs, d :: ds, _, ⟨f, g, h1, h2, e⟩, a, ha => by
    subst e
    rcases List.mem_append.mp ha with ha | ha
    · exact ⟨x, d, f, h1, ha⟩
    · exact OwAll.mem h2 a ha
  | [], _ :: _, _, h, _, _ => h.elim
  | _ :: _, [], _, h, _, _ => h.elim
theorem Ow.cont : ∀ (n : Nat) (v : V) (d : PyData) (fp : List Addr), Ow w F H n v d fp → ∀ a ∈ fp, Cont (H a)
  | 0, v, d, fp, h, a, ha => by rw [h.2] at ha; cases ha
  | n + 1, v, d, fp, h, a, ha => by
    cases d with
    | list ds =>
      obtain ⟨b, xs, g, e, q, r, rfl⟩ := h
      rcases List.mem_cons.mp ha with rfl | ha
      · rw [q]; trivial
      · obtain ⟨x, d, f, r', h'⟩ := r.mem a ha
        exact Ow.cont n x d f r' a h'
    | dict kvs =>
      obtain ⟨b, es, ks, vs, g, e, q, y, dr, fk, r, rfl⟩ := h
      rcases List.mem_cons.mp ha with rfl | ha
      · rw [q]; trivial
      · obtain ⟨x, d, f, r', h'⟩ := r.mem a ha
        exact Ow.cont n x d f r' a h'
    | none => rw [h.2] at ha; cases ha
    | bool b => rw [h.2] at ha; cases ha
    | int b => rw [h.2] at ha; cases ha
    | str b => rw [h.2] at ha; cases ha
    | tuple b => rw [h.2] at ha; cases ha
end
/-- what a slot holds: the datum, how deep it is owned, whether the slot is bound to its object (lent by the caller, or walked by a loop), whether the object must stay as it is -/
structure Slot where
  d : PyData
  n : Nat
  prot : Bool := false
  lk : Bool := false
abbrev Env := List (Option Slot)
abbrev Item := Option V × Option Slot
/-- where a body stands: what it must not refer to, the heap at its entry, what it was lent, the slots bound to their values -/
structure Fr where
  B : List Addr
  H0 : Hp
  L : List Addr
  pins : List (Nat × V)
section
variable (w : World) (F H : Hp)
def ItR : Item → List Addr → Prop
  | (_, none), fp => fp = []
  | (some v, some s), fp => Ow w F H s.n v s.d fp
  | (none, some _), _ => False
def ItsR : List Item → List Addr → Prop
  | [], O => O = []
  | it :: r, O => ∃ f g, ItR w F H it f ∧ ItsR r g ∧ O = f ++ g
end
structure FitsO (w : World) (c : Fr) (L : List Item) (H : Hp) (O : List Addr) : Prop where
  its : ItsR w (hide (c.B ++ O) H) H L O
  nd : O.Nodup
  dis : ∀ a ∈ O, a ∉ c.B
  bar : ∀ a ∈ c.B, H a ≠ none
  keep : ∀ a o, c.H0 a = some o → a ∉ c.L → H a = some o
  new : ∀ a ∈ O, a ∈ c.L ∨ c.H0 a = none
def Fits (w : World) (c : Fr) (L : List Item) (H : Hp) : Prop := ∃ O, FitsO w c L H O
section
variable {w : World} {F F' H H' : Hp} {c : Fr}
theorem ItR.mono (s : Sub F F') {it : Item} {fp : List Addr} (h : ItR w F H it fp) (k : ∀ a ∈ fp, ∀ o, H a = some o → H' a = some o) : ItR w F' H' it fp := by
  obtain ⟨v, s0⟩ := it
  cases s0 with
  | none => cases v <;> exact h
  | some s0 => cases v with
    | none => exact h.elim
    | some v => exact Ow.mono s _ _ _ _ h k
theorem ItR.cont {it : Item} {fp : List Addr} (h : ItR w F H it fp) : ∀ a ∈ fp, Cont (H a) := fun a ha => by
  obtain ⟨v, s0⟩ := it
  cases s0 with
  | none => cases v <;> (rw [show fp = [] from h] at ha; cases ha)
  | some s0 => cases v with
    | none => exact h.elim
    | some v => exact Ow.cont _ _ _ _ h a ha
theorem ItsR.mono (s : Sub F F') : ∀ {L : List Item} {O : List Addr}, ItsR w F H L O → (∀ a ∈ O, ∀ o, H a = some o → H' a = some o) → ItsR w F' H' L O
  | [], _, h, _ => h
  | it :: r, _, ⟨f, g, h1, h2, e⟩, k => by
    subst e
    exact ⟨f, g, h1.mono s fun a ha => k a (List.mem_append_left _ ha), ItsR.mono s h2 fun a ha => k a (List.mem_append_right _ ha), rfl⟩
theorem ItsR.cont : ∀ {L : List Item} {O : List Addr}, ItsR w F H L O → ∀ a ∈ O, Cont (H a)
  | [], _, h, a, ha => by rw [show _ = [] from h] at ha; cases ha
  | it :: r, _, ⟨f, g, h1, h2, e⟩, a, ha => by
    subst e
    rcases List.mem_append.mp ha with ha | ha
    · exact h1.cont a ha
    · exact ItsR.cont h2 a ha
theorem ItsR.append : ∀ {L M : List Item} {O P : List Addr}, ItsR w F H L O → ItsR w F H M P → ItsR w F H (L ++ M) (O ++ P)
  | [], _, _, _, h, k => by rw [show _ = [] from h]; exact k
  | it :: r, _, _, _, ⟨f, g, h1, h2, e⟩, k => by
    subst e
    exact ⟨f, _, h1, ItsR.append h2 k, by rw [List.append_assoc]⟩
theorem ItsR.unappend : ∀ {L M : List Item} {O : List Addr}, ItsR w F H (L ++ M) O → ∃ f g, ItsR w F H L f ∧ ItsR w F H M g ∧ O = f ++ g
  | [], _, O, h => ⟨[], O, rfl, h, rfl⟩
  | it :: r, M, O, ⟨f, g, h1, h2, e⟩ => by
    obtain ⟨f', g', a, b, e'⟩ := ItsR.unappend (L := r) h2
    exact ⟨f ++ f', g', ⟨f, f', h1, a, rfl⟩, b, by rw [e, e', List.append_assoc]⟩
theorem Cont.ne {o : Option HO} (h : Cont o) : o ≠ none := fun e => by rw [e] at h; exact h
theorem Cont.tup {xs : List V} {o : Option HO} (h : Cont o) : o ≠ some (.tup xs) := fun e => by rw [e] at h; exact h
theorem Cont.frz {ob : Obj} {u : HO} {o : Option HO} (h : Cont o) : o ≠ some (.frz ob u) := fun e => by rw [e] at h; exact h
theorem FitsO.here {L : List Item} {O : List Addr} (h : FitsO w c L H O) : ∀ a ∈ O, H a ≠ none := fun a ha => (h.its.cont a ha).ne
/-- the heap grows -/
theorem FitsO.grow {L : List Item} {O : List Addr} (h : FitsO w c L H O) (s : Sub H H') : FitsO w c L H' O := by
  refine ⟨h.its.mono (hide_sub s fun a ha hn => absurd ha hn) fun a _ o q => s a o q, h.nd, h.dis, fun a ha => ?_, fun a o q n => s _ _ (h.keep a o q n), h.new⟩
  cases q : H a with
  | none => exact absurd q (h.bar a ha)
  | some o => rw [s _ _ q]; simp
theorem Fits.grow {L : List Item} (h : Fits w c L H) (s : Sub H H') : Fits w c L H' := let ⟨O, q⟩ := h; ⟨O, q.grow s⟩
theorem nodup_left {α : Type} {a b : List α} (h : (a ++ b).Nodup) : a.Nodup := (List.nodup_append.mp h).1
theorem nodup_right {α : Type} {a b : List α} (h : (a ++ b).Nodup) : b.Nodup := (List.nodup_append.mp h).2.1
theorem nodup_dis {α : Type} {a b : List α} (h : (a ++ b).Nodup) {x : α} (ha : x ∈ a) : x ∉ b := fun hb => (List.nodup_append.mp h).2.2 x ha x hb rfl
/-- the last ones let go: what is left, and their footprint is free -/
theorem FitsO.left {L M : List Item} {f g : List Addr} (h : FitsO w c (L ++ M) H (f ++ g)) (hl : ItsR w (hide (c.B ++ (f ++ g)) H) H L f) : FitsO w c L H f := by
  refine ⟨hl.mono (hide_sub Sub.refl fun a ha hn => absurd ?_ hn) fun _ _ _ q => q, nodup_left h.nd, fun a ha => h.dis a (List.mem_append_left _ ha), h.bar, h.keep, fun a ha => h.new a (List.mem_append_left _ ha)⟩
  rw [List.mem_append, List.mem_append]
  rcases List.mem_append.mp ha with z | z
  · exact .inl z
  · exact .inr (.inl z)
theorem Fits.drop {L M : List Item} (h : Fits w c (L ++ M) H) : Fits w c L H := by
  obtain ⟨O, q⟩ := h
  obtain ⟨f, g, h1, h2, e⟩ := q.its.unappend
  subst e
  exact ⟨f, q.left h1⟩
/-- values with their data, as temporaries -/
def tmps : List V → List PyData → List Item
  | v :: vs, d :: ds => (some v, some ⟨d, 0, false, false⟩) :: tmps vs ds
  | _, _ => []
/-- the last item let go, its datum frozen within what is left -/
theorem FitsO.take1 {L : List Item} {v : V} {s : Slot} {f g : List Addr} (h : FitsO w c (L ++ [(some v, some s)]) H (f ++ g)) (hl : ItsR w (hide (c.B ++ (f ++ g)) H) H L f) (hg : ItsR w (hide (c.B ++ (f ++ g)) H) H [(some v, some s)] g) :
    FitsO w c L H f ∧ Fz w (hide (c.B ++ f) H) v s.d := by
  refine ⟨h.left hl, ?_⟩
  obtain ⟨f1, g1, h1, h2, e⟩ := hg
  have e2 : g1 = [] := h2
  rw [e2, List.append_nil] at e
  subst e
  refine Ow.fz (hide_sub Sub.refl fun a ha hn => absurd ?_ hn) _ _ _ _ h1 fun a ha o q => hide_some.mpr ⟨fun z => ?_, q⟩
  · rw [List.mem_append, List.mem_append]
    rcases List.mem_append.mp ha with z | z
    · exact .inl z
    · exact .inr (.inl z)
  · rcases List.mem_append.mp z with z | z
    · exact h.dis a (List.mem_append_right _ ha) z
    · exact nodup_dis h.nd z ha
theorem Fits.take1 {L : List Item} {v : V} {s : Slot} (h : Fits w c (L ++ [(some v, some s)]) H) : ∃ O, FitsO w c L H O ∧ Fz w (hide (c.B ++ O) H) v s.d := by
  obtain ⟨O, q⟩ := h
  obtain ⟨f, g, h1, h2, e⟩ := q.its.unappend
  subst e
  exact ⟨f, q.take1 h1 h2⟩
/-- what an operation makes: of values within F, the heap H grown to H' -/
structure Out (w : World) (F H : Hp) (v : V) (d : PyData) (n : Nat) (H' : Hp) : Prop where
  sub : Sub H H'
  own : ∃ (F' : Hp) (fp : List Addr), Sub F F' ∧ Sub F' H' ∧ (∀ a o, F' a = some o → F a = some o ∨ H a = none) ∧ fp.Nodup ∧ (∀ a ∈ fp, H a = none ∧ F' a = none) ∧ Ow w F' H' n v d fp
theorem Out.fz {v : V} {d : PyData} (h : Fz w F v d) (s : Sub F H) : Out w F H v d 0 H := ⟨.refl, F, [], .refl, s, fun _ _ q => .inl q, .nil, by simp, h, rfl⟩
theorem FitsO.push {L : List Item} {O : List Addr} {v : V} {d : PyData} {n : Nat} (h : FitsO w c L H O) (o : Out w (hide (c.B ++ O) H) H v d n H') :
    Fits w c (L ++ [(some v, some ⟨d, n, false, false⟩)]) H' := by
  obtain ⟨s, F', fp, s1, s2, s3, nd, fr, ow⟩ := o
  have h' := h.grow s
  have hO : ∀ a ∈ fp, a ∉ O := fun a ha z => h.here a z (fr a ha).1
  have hB : ∀ a ∈ fp, a ∉ c.B := fun a ha z => h.bar a z (fr a ha).1
  have sF : Sub F' (hide (c.B ++ (O ++ fp)) H') := fun a ob q => by
    refine hide_some.mpr ⟨fun z => ?_, s2 _ _ q⟩
    rcases List.mem_append.mp z with z | z
    · rcases s3 a ob q with q' | q'
      · exact (hide_some.mp q').1 (List.mem_append_left _ z)
      · exact h.bar a z q'
    · rcases List.mem_append.mp z with z | z
      · rcases s3 a ob q with q' | q'
        · exact (hide_some.mp q').1 (List.mem_append_right _ z)
        · exact h.here a z q'
      · rw [(fr a z).2] at q; cases q
  refine ⟨O ++ fp, ItsR.append ?_ ⟨fp, [], ?_, rfl, by simp⟩, ?_, fun a ha => ?_, h'.bar, h'.keep, fun a ha => ?_⟩
  · refine h.its.mono (fun a ob q => ?_) fun a _ ob q => s _ _ q
    obtain ⟨q1, q2⟩ := hide_some.mp q
    refine hide_some.mpr ⟨fun z => ?_, s _ _ q2⟩
    rcases List.mem_append.mp z with z | z
    · exact q1 (List.mem_append_left _ z)
    · rcases List.mem_append.mp z with z | z
      · exact q1 (List.mem_append_right _ z)
      · rw [(fr a z).1] at q2; cases q2
  · exact Ow.mono sF _ _ _ _ ow fun _ _ _ q => q
  · exact List.nodup_append.mpr ⟨h.nd, nd, fun a ha b hb e => hO b hb (e ▸ ha)⟩
  · rcases List.mem_append.mp ha with ha | ha
    · exact h.dis a ha
    · exact hB a ha
  · rcases List.mem_append.mp ha with ha | ha
    · exact h.new a ha
    · cases q : c.H0 a with
      | none => exact .inr rfl
      | some o =>
        by_cases z : a ∈ c.L
        · exact .inl z
        · have := h.keep a o q z
          rw [(fr a ha).1] at this; cases this
/-- a new tuple, a new list of frozen things -/
theorem Out.tup {p : Addr} {vs : List V} {ds : List PyData} (s : Sub F H) (hp : H p = none) (h : FzAll w F vs ds) : Out w F H (.ref p) (.tuple ds) 0 (upd H p (.tup vs)) := by
  have hF : F p = none := by
    cases q : F p with
    | none => rfl
    | some o => have := s _ _ q; rw [hp] at this; cases this
  refine ⟨sub_upd hp, upd F p (.tup vs), [], sub_upd hF, fun a o q => ?_, fun a o q => ?_, .nil, by simp, ⟨p, vs, rfl, upd_same, FzAll.mono (sub_upd hF) _ _ h⟩, rfl⟩
  · by_cases e : a = p
    · subst e; rw [upd_same] at q ⊢; exact q
    · rw [upd_ne e] at q ⊢; exact s _ _ q
  · by_cases e : a = p
    · subst e; exact .inr hp
    · rw [upd_ne e] at q; exact .inl q
theorem Out.lst {p : Addr} {vs : List V} {ds : List PyData} (s : Sub F H) (hp : H p = none) (h : FzAll w F vs ds) : Out w F H (.ref p) (.list ds) 1 (upd H p (.lst vs)) := by
  have hF : F p = none := by
    cases q : F p with
    | none => rfl
    | some o => have := s _ _ q; rw [hp] at this; cases this
  exact ⟨sub_upd hp, F, [p], .refl, s.trans (sub_upd hp), fun a o q => .inl q, by simp, fun a ha => by rw [List.mem_singleton.mp ha]; exact ⟨hp, hF⟩, p, vs, [], rfl, upd_same, OwAll.ofFz h, rfl⟩
end
end PL
end
section
set_option Elab.async false
set_option linter.all false
set_option maxRecDepth 100000
/-! PL2: the little language (E, Tg, St), what it does to data (wpE, wpS, wpF). -/
namespace PL
open L2 PyProof.Rows PySem.Spec PySem
inductive BOp | add | sub | mul | fdiv | mod | pow deriving DecidableEq
inductive COp | eq | ne | lt | le | gt | ge | is | isnot | inn | notin deriving DecidableEq
inductive BF | len | abs | int | str | repr | min | max | sum | any | all | sorted | list | tuple | dict | lenset | sortedset | bool deriving DecidableEq
inductive TyN | int | bool | str | tuple | list | dict deriving DecidableEq
def tyName : TyN → String
  | .int => "int" | .bool => "bool" | .str => "str" | .tuple => "tuple" | .list => "list" | .dict => "dict"
inductive Tg | nm (i : Nat) | nil | cons (a r : Tg) | tup (ts : Tg) deriving DecidableEq
inductive E
  | slot (i : Nat) | int (n : Int) | bool (b : Bool) | none | str (s : String) | con (j : Nat)
  | nil | cons (a r : E)
  | tup (es : E) | lst (m : Nat) (es : E)
  | bin (op : BOp) (a b : E) | neg (a : E) | not (a : E) | and (a b : E) | or (a b : E)
  | cmp (op : COp) (a b : E) | cmpS (op : COp) (a : E) (i : Nat) | cmpSl (op : COp) (i : Nat) (b : E) | chain (o1 o2 : COp) (a b c : E) | ite (c a b : E)
  | idx (a b : E) | idxS (i : Nat) (b : E) | idx2S (i : Nat) (b c : E)
  | slc (a lo hi : E) | slcS (i : Nat) (lo hi : E) | slc2S (i : Nat) (b lo hi : E) | rev (a : E) | revS (i : Nat)
  | fn (f : BF) (es : E) | fnS (f : BF) (i : Nat) | lset (a : E) | isT (ts : List TyN) (a : E)
  | get (d k x : E) | getS (i : Nat) (k x : E) | popS (i : Nat) (b : E)
  | call (f : Nat) (es : E) | bor (i : Nat) | lend (i : Nat)
  | lc (m : Nat) (elt : E) (tg : Tg) (it ifs : E) (vs : List Nat)
  | lc2 (m : Nat) (elt : E) (tg : Tg) (it ifs : E) (tg1 : Tg) (it1 ifs1 : E) (vs : List Nat)
  | dead | dsp (a b : E) | dnil | dc (m : Nat) (k v : E) (tg : Tg) (it ifs : E) (vs : List Nat)
  | itv (a : E) | its (i : Nat) | rng (a : E) | rng2 (a b : E) | enm (a : E) | enmS (i : Nat) | zp (a b : E) | items (a : E) | itemsS (i : Nat) | vals (a : E) | valsS (i : Nat)
  deriving DecidableEq
inductive Sm
  | nil | seq (a r : Sm)
  | pass | expr (e : E) | asg (i : Nat) (e : E) | unp (tg : Tg) (e : E) | par (is : List Nat) (es : E)
  | setIx (i : Nat) (b e : E) | setIx2 (i : Nat) (b c e : E) | aug (i : Nat) (op : BOp) (e : E) | augIx (i : Nat) (b : E) (op : BOp) (e : E)
  | append (i : Nat) (e : E) | append2 (i : Nat) (b e : E) | extend (i : Nat) (e : E) | insert (i : Nat) (a e : E) | clear (i : Nat)
  | ret (e : E) | retS (i : Nat) | retN | ite (c : E) (a b : Sm) | for_ (tg : Tg) (it : E) (body : Sm) | while_ (c : E) (body : Sm)
  | brk | cont | frz (i : Nat) | raise_ (c : String) (e : E) | dead
  deriving DecidableEq
/-! ### data -/
def isCont : PyData → Bool | .list _ => true | .dict _ => true | _ => false
def okOwn (m n : Nat) (d : PyData) : Prop := n = m ∨ m = 0 ∨ isCont d = false
mutual
def noCont : PyData → Bool
  | .list _ => false
  | .dict _ => false
  | .tuple ds => noConts ds
  | .none => true
  | .bool _ => true
  | .int _ => true
  | .str _ => true
def noConts : List PyData → Bool
  | [] => true
  | d :: ds => noCont d && noConts ds
end
/-- no list, no dict below the n upper levels -/
def flatN : Nat → PyData → Bool
  | 0, d => noCont d
  | n + 1, .list ds => ds.all (flatN n)
  | n + 1, .dict kvs => kvs.all fun p => noCont p.1 && flatN n p.2
  | _ + 1, d => noCont d
abbrev KD := PyData → Nat → Prop
def binP : BOp → PyData → PyData → KD → Prop
  | .add, .int i, .int j, k => k (.int (i + j)) 0
  | .add, .str a, .str b, k => a.length + b.length ≤ sizeLine ∧ k (.str (a ++ b)) 0
  | .add, .list a, .list b, k => a.length + b.length ≤ sizeLine ∧ k (.list (a ++ b)) 1
  | .add, .tuple a, .tuple b, k => a.length + b.length ≤ sizeLine ∧ k (.tuple (a ++ b)) 0
  | .sub, .int i, .int j, k => k (.int (i - j)) 0
  | .mul, .int i, .int j, k => CMulW i j ∧ k (.int (i * j)) 0
  | .mul, .list a, .int j, k => (-(2 ^ 63) ≤ j ∧ j < 2 ^ 63 ∧ a.length * j.toNat ≤ sizeLine) ∧ k (.list (List.replicate j.toNat a).flatten) 1
  | .mul, .tuple a, .int j, k => (-(2 ^ 63) ≤ j ∧ j ≤ 1000 ∧ a.length ≤ 1000) ∧ k (.tuple (List.replicate j.toNat a).flatten) 0
  | .mul, .str z, .int j, k => (-(2 ^ 63) ≤ j ∧ j ≤ 1000 ∧ z.length ≤ 1000) ∧ k (.str (Txt.mul z j)) 0
  | .fdiv, .int i, .int j, k => CDivW i j ∧ k (.int (i / j)) 0
  | .mod, .int i, .int j, k => 0 < j ∧ k (.int (i % j)) 0
  | .pow, .int i, .int j, k => CPow i j ∧ k (.int (i ^ j.toNat)) 0
  | _, _, _, _ => False
def dget (kvs : List (PyData × PyData)) (k : PyData) : Option PyData := (kvs.find? fun p => PyData.eqv p.1 k).map (·.2)
def dput (kvs : List (PyData × PyData)) (k v : PyData) : List (PyData × PyData) :=
  if (dget kvs k).isSome then kvs.map fun p => if PyData.eqv p.1 k then (p.1, v) else p else kvs ++ [(k, v)]
/-- the key may stand in this dict -/
def keyFits (kvs : List (PyData × PyData)) (k : PyData) : Prop := ((kOf k).isSome = true ∧ ∀ p ∈ kvs, (kOf p.1).isSome = true) ∨ ((tOf k).isSome = true ∧ ∀ p ∈ kvs, (tOf p.1).isSome = true)
def dLow : Nat := 60
def ltOk (x y : PyData) : Prop := PySem.W.alike x y = true ∧ x ≠ .none ∧ min x.depth y.depth ≤ dLow
def eqOk (x y : PyData) : Prop := x.plain = true ∧ y.plain = true ∧ min x.depth y.depth ≤ dLow
def cmpP : COp → PyData → PyData → (Bool → Prop) → Prop
  | .eq, x, y, k => eqOk x y ∧ k (PyData.eqv x y)
  | .ne, x, y, k => eqOk x y ∧ k (!PyData.eqv x y)
  | .lt, x, y, k => match x, y with
    | .int i, .int j => k (decide (i < j))
    | x, y => ltOk x y ∧ k (PySem.W.dataLt x y)
  | .le, x, y, k => match x, y with
    | .int i, .int j => k (decide (i ≤ j))
    | _, _ => False
  | .gt, x, y, k => match x, y with
    | .int i, .int j => k (decide (j < i))
    | _, _ => False
  | .ge, x, y, k => match x, y with
    | .int i, .int j => k (decide (j ≤ i))
    | _, _ => False
  | .is, x, .none, k => k (match x with | .none => true | _ => false)
  | .is, .bool a, .bool b, k => k (decide (a = b))
  | .isnot, x, .none, k => k (match x with | .none => false | _ => true)
  | .isnot, .bool a, .bool b, k => k (!decide (a = b))
  | .inn, x, .list ds, k => (PyData.plainAll ds = true ∧ x.plain = true ∧ min x.depth (PyData.depthAll ds) ≤ dLow) ∧ k (ds.any fun d => PyData.eqv d x)
  | .inn, x, .tuple ds, k => (PyData.plainAll ds = true ∧ x.plain = true ∧ min x.depth (PyData.depthAll ds) ≤ dLow) ∧ k (ds.any fun d => PyData.eqv d x)
  | .notin, x, .list ds, k => (PyData.plainAll ds = true ∧ x.plain = true ∧ min x.depth (PyData.depthAll ds) ≤ dLow) ∧ k (!ds.any fun d => PyData.eqv d x)
  | .notin, x, .tuple ds, k => (PyData.plainAll ds = true ∧ x.plain = true ∧ min x.depth (PyData.depthAll ds) ≤ dLow) ∧ k (!ds.any fun d => PyData.eqv d x)
  | _, _, _, _ => False
def idxP : PyData → PyData → (PyData → Prop) → Prop
  | .list ds, .int i, k => ∃ d, atI ds i = some d ∧ k d
  | .tuple ds, .int i, k => ∃ d, atI ds i = some d ∧ k d
  | _, _, _ => False
def cutD (xs : List PyData) (lo hi : Option Int) : List PyData := (xs.drop (HT.sIx xs.length 0 lo)).take (HT.sIx xs.length xs.length hi - HT.sIx xs.length 0 lo)
def slcP : PyData → Option Int → Option Int → KD → Prop
  | .list ds, lo, hi, k => k (.list (cutD ds lo hi)) 1
  | .tuple ds, lo, hi, k => k (.tuple (cutD ds lo hi)) 0
  | _, _, _, _ => False
def revP : PyData → KD → Prop
  | .list ds, k => k (.list ds.reverse) 1
  | .tuple ds, k => k (.tuple ds.reverse) 0
  | _, _ => False
def intsOf : List PyData → Option (List Int)
  | [] => some []
  | .int i :: r => (intsOf r).map (i :: ·)
  | _ => none
def boolsOf : List PyData → Option (List Bool)
  | [] => some []
  | .bool i :: r => (boolsOf r).map (i :: ·)
  | _ => none
/-- the first of the least, of the greatest -/
def minD : List PyData → Option PyData
  | [] => none
  | d :: ds => some (ds.foldl (fun m x => if PySem.W.dataLt x m then x else m) d)
def maxD : List PyData → Option PyData
  | [] => none
  | d :: ds => some (ds.foldl (fun m x => if PySem.W.dataLt m x then x else m) d)
def allLike (ds : List PyData) : Prop := (∀ x ∈ ds, ∀ y ∈ ds, PySem.W.alike x y = true) ∧ ((∀ x ∈ ds, ∃ y r, x = .tuple (y :: r)) ∨ ∀ x ∈ ds, x ≠ .none ∧ ∀ r, x ≠ .tuple r) ∧ ∀ x ∈ ds, x.depth ≤ dLow
def sortD (ds : List PyData) : List PyData := ds.mergeSort (PySem.W.dataLe false id)
def seqOf : PyData → Option (List PyData)
  | .list ds => some ds
  | .tuple ds => some ds
  | _ => none
def strsOf : List PyData → Option (List Str)
  | [] => some []
  | .str i :: r => (strsOf r).map (i :: ·)
  | _ => none
def nubS (l : List Str) : List Str := l.foldl (fun acc x => if x ∈ acc then acc else acc ++ [x]) []
def nubD : List PyData → List PyData
  | [] => []
  | d :: ds => d :: (nubD ds).filter fun x => !PyData.eqv d x
def fnP : BF → List PyData → KD → Prop
  | .len, [.list ds], k => k (.int ds.length) 0
  | .len, [.tuple ds], k => k (.int ds.length) 0
  | .len, [.str s], k => s.length ≤ sizeLine ∧ k (.int s.length) 0
  | .abs, [.int i], k => k (.int (if i < 0 then -i else i)) 0
  | .int, [.int i], k => k (.int i) 0
  | .int, [.bool b], k => k (.int (if b = true then 1 else 0)) 0
  | .str, [.int i], k => i.natAbs.log2 < 1920 ∧ k (.str (toString i)) 0
  | .str, [.str s], k => k (.str s) 0
  | .repr, [d], k => (d.showable = true ∧ d.shown.length ≤ sizeLine ∧ d.depth ≤ dLow) ∧ k (.str d.shown) 0
  | .min, [.int i, .int j], k => k (.int (if j < i then j else i)) 0
  | .max, [.int i, .int j], k => k (.int (if j > i then j else i)) 0
  | .min, [.list ds], k => allLike ds ∧ ∃ m, minD ds = some m ∧ k m 0
  | .min, [.tuple ds], k => allLike ds ∧ ∃ m, minD ds = some m ∧ k m 0
  | .max, [.list ds], k => allLike ds ∧ ∃ m, maxD ds = some m ∧ k m 0
  | .max, [.tuple ds], k => allLike ds ∧ ∃ m, maxD ds = some m ∧ k m 0
  | .sum, [.list ds], k => ∃ ns, intsOf ds = some ns ∧ k (.int ns.sum) 0
  | .sum, [.tuple ds], k => ∃ ns, intsOf ds = some ns ∧ k (.int ns.sum) 0
  | .any, [.list ds], k => ∃ bs, boolsOf ds = some bs ∧ k (.bool (bs.any id)) 0
  | .all, [.list ds], k => ∃ bs, boolsOf ds = some bs ∧ k (.bool (bs.all id)) 0
  | .sorted, [.list ds], k => allLike ds ∧ k (.list (sortD ds)) 1
  | .list, [.list ds], k => k (.list ds) 1
  | .list, [.tuple ds], k => k (.list ds) 1
  | .tuple, [.list ds], k => k (.tuple ds) 0
  | .tuple, [.tuple ds], k => k (.tuple ds) 0
  | _, _, _ => False
def isTy : TyN → PyData → Bool
  | .int, .int _ => true
  | .int, .bool _ => true
  | .bool, .bool _ => true
  | .str, .str _ => true
  | .tuple, .tuple _ => true
  | .list, .list _ => true
  | .dict, .dict _ => true
  | _, _ => false
/-! ### slots -/
/-- slot i may be stored anew -/
def free (i : Nat) (ρ : Env) : Prop := match ρ[i]? with | some none => True | some (some s) => s.prot = false | none => False
def val (d : PyData) (n : Nat) : Option Slot := some ⟨d, n, false, false⟩
def bindT : Tg → PyData → Env → (Env → Prop) → Prop
  | .nm i, d, ρ, k => free i ρ ∧ k (ρ.set i (val d 0))
  | .nil, .list [], ρ, k => k ρ
  | .cons a r, .list (d :: ds), ρ, k => bindT a d ρ fun ρ1 => bindT r (.list ds) ρ1 k
  | .tup ts, .tuple ds, ρ, k => bindT ts (.list ds) ρ k
  | .tup ts, .list ds, ρ, k => bindT ts (.list ds) ρ k
  | _, _, _, _ => False
/-- slot i read as a value -/
def rdV (i : Nat) (ρ : Env) (k : PyData → Prop) : Prop := ∃ s, ρ[i]? = some (some s) ∧ (s.n = 0 ∨ isCont s.d = false) ∧ k s.d
/-- slot i looked at -/
def rdS (i : Nat) (ρ : Env) (k : Slot → Prop) : Prop := ∃ s, ρ[i]? = some (some s) ∧ k s
/-- slot i's object to be changed -/
def rdM (i : Nat) (ρ : Env) (k : Slot → Prop) : Prop := ∃ s, ρ[i]? = some (some s) ∧ s.lk = false ∧ k s
def forgetS (vs : List Nat) (ρ : Env) : Env := vs.foldl (fun r i => r.set i none) ρ
def okForget (vs : List Nat) (ρ : Env) : Prop := ∀ i ∈ vs, free i ρ
def lockOf : E → Option Nat
  | .its i => some i
  | .enmS i => some i
  | .itemsS i => some i
  | .valsS i => some i
  | _ => none
def lkIn (it : E) (ρ : Env) : Env := match lockOf it with
  | none => ρ
  | some i => match ρ[i]? with
    | some (some s) => ρ.set i (some { s with prot := true, lk := true })
    | _ => ρ
def lkOut (it : E) (ρ0 ρ2 : Env) (k : Env → Prop) : Prop := match lockOf it with
  | none => k ρ2
  | some i => ∃ s, ρ0[i]? = some (some s) ∧ ρ2[i]? = some (some { s with prot := true, lk := true }) ∧ k (ρ2.set i (some s))
/-- the walked slot is as it was at the loop's begin -/
def lkIs (it : E) (ρ0 ρ2 : Env) : Prop := match lockOf it with
  | none => True
  | some i => ∃ s, ρ0[i]? = some (some s) ∧ ρ2[i]? = some (some { s with prot := true, lk := true })
def rangeD (lo hi : Int) : List PyData := (List.range (hi - lo).toNat).map fun (i : Nat) => .int (lo + i)
def enumD : Int → List PyData → List PyData
  | _, [] => []
  | i, d :: ds => .tuple [.int i, d] :: enumD (i + 1) ds
def zipD : List PyData → List PyData → List PyData
  | a :: as, b :: bs => .tuple [a, b] :: zipD as bs
  | _, _ => []
def itemsD (kvs : List (PyData × PyData)) : List PyData := kvs.map fun p => .tuple [p.1, p.2]
def lcFold {α : Type} (step : PyData → α → Env → (α → Env → Prop) → Prop) : List PyData → α → Env → (α → Env → Prop) → Prop
  | [], acc, ρ, k => k acc ρ
  | x :: xs, acc, ρ, k => step x acc ρ fun acc' ρ' => lcFold step xs acc' ρ' k
inductive Arg | val (d : PyData) (n : Nat) | bor (i : Nat) | lend (i : Nat)
def argsD (ρ : Env) : List Arg → Option (List PyData)
  | [] => some []
  | .val d _ :: r => (argsD ρ r).map (d :: ·)
  | .bor i :: r => match ρ[i]? with | some (some s) => (argsD ρ r).map (s.d :: ·) | _ => none
  | .lend i :: r => match ρ[i]? with | some (some s) => (argsD ρ r).map (s.d :: ·) | _ => none
def lendOk (ρ : Env) : List Arg → List Nat → Bool
  | [], [] => true
  | .val _ _ :: r, l :: ls => l == 0 && lendOk ρ r ls
  | .bor i :: r, l :: ls => l == 0 && lendOk ρ r ls
  | .lend i :: r, l :: ls => l != 0 && (match ρ[i]? with | some (some s) => s.n == l && !s.lk | _ => false) && lendOk ρ r ls
  | _, _ => false
def lents : List Arg → List Nat
  | [] => []
  | .lend i :: r => i :: lents r
  | _ :: r => lents r
def bors : List Arg → List Nat
  | [] => []
  | .bor i :: r => i :: bors r
  | _ :: r => bors r
def putD (ρ : Env) (i : Nat) (d : PyData) : Env := match ρ[i]? with | some (some s) => ρ.set i (some { s with d := d }) | _ => ρ
def putOuts : List Arg → List PyData → Env → Env
  | .lend i :: r, d :: ds, ρ => putOuts r ds (putD ρ i d)
  | .lend _ :: _, [], ρ => ρ
  | _ :: r, ds, ρ => putOuts r ds ρ
  | [], _, ρ => ρ
def outsFlat : List Nat → List PyData → Bool
  | 0 :: ls, ds => outsFlat ls ds
  | l :: ls, d :: ds => flatN l d && outsFlat ls ds
  | _, _ => true
structure FnI where
  name : String
  np : Nat
  ns : Nat
  lend : List Nat
  body : Sm
structure Ctx where
  cons : List Int
  sig : Nat → List Nat
  call : Nat → List PyData → (PyData → Nat → List PyData → Prop) → (String → PyData → Prop) → Prop
  ex : String → PyData → Prop
abbrev KE := PyData → Nat → Env → Prop
/-- x[j][z[m]:] of slots' lists, j and m written out -/
def cutP (i : Nat) (b lo hi : E) (ρ : Env) (k : KE) : Prop := match b, lo, hi with
  | .int j, .cons (.idxS i2 (.int m)) .nil, .nil => ∃ (s s2 : Slot) (ds es ds2 : List PyData) (q : Int), ρ[i]? = some (some s) ∧ ρ[i2]? = some (some s2) ∧ s.d = .list ds ∧ atI ds j = some (.list es) ∧ s2.d = .list ds2 ∧ atI ds2 m = some (.int q) ∧ (s.n ≤ 2 ∨ flatN 1 (.list es) = true) ∧ k (.list (cutD es (some q) none)) 1 ρ
  | _, _, _ => False
section
variable (G : Ctx)
mutual
def wpE : E → Env → KE → Prop
  | .slot i, ρ, k => rdV i ρ fun d => k d 0 ρ
  | .int n, ρ, k => k (.int n) 0 ρ
  | .bool b, ρ, k => k (.bool b) 0 ρ
  | .none, ρ, k => k .none 0 ρ
  | .str s, ρ, k => k (.str s) 0 ρ
  | .con j, ρ, k => ∃ n, G.cons[j]? = some n ∧ k (.int n) 0 ρ
  | .tup es, ρ, k => wpL es ρ fun ds ρ' => ds.length ≤ sizeLine ∧ k (.tuple (ds.map (·.1))) 0 ρ'
  | .lst m es, ρ, k => wpL es ρ fun ds ρ' => (ds.length ≤ sizeLine ∧ ∀ p ∈ ds, okOwn m p.2 p.1) ∧ k (.list (ds.map (·.1))) (m + 1) ρ'
  | .bin op a b, ρ, k => wpE a ρ fun x _ ρ1 => wpE b ρ1 fun y _ ρ2 => binP op x y fun d n => k d n ρ2
  | .neg a, ρ, k => wpE a ρ fun x _ ρ1 => match x with | .int i => k (.int (-i)) 0 ρ1 | _ => False
  | .not a, ρ, k => wpE a ρ fun x _ ρ1 => match x with | .bool b => k (.bool (!b)) 0 ρ1 | _ => False
  | .and a b, ρ, k => wpE a ρ fun x _ ρ1 => match x with | .bool true => wpE b ρ1 k | .bool false => k (.bool false) 0 ρ1 | _ => False
  | .or a b, ρ, k => wpE a ρ fun x _ ρ1 => match x with | .bool true => k (.bool true) 0 ρ1 | .bool false => wpE b ρ1 k | _ => False
  | .cmp op a b, ρ, k => wpE a ρ fun x _ ρ1 => wpE b ρ1 fun y _ ρ2 => cmpP op x y fun b => k (.bool b) 0 ρ2
  | .cmpS op a i, ρ, k => wpE a ρ fun x _ ρ1 => rdS i ρ1 fun s => cmpP op x s.d fun b => k (.bool b) 0 ρ1
  | .cmpSl op i b, ρ, k => rdS i ρ fun _ => wpE b ρ fun y _ ρ1 => rdS i ρ1 fun s => cmpP op s.d y fun b => k (.bool b) 0 ρ1
  | .chain o1 o2 a b c, ρ, k => wpE a ρ fun x _ ρ1 => wpE b ρ1 fun y _ ρ2 => cmpP o1 x y fun r => if r = true then wpE c ρ2 fun z _ ρ3 => cmpP o2 y z fun r2 => k (.bool r2) 0 ρ3 else k (.bool false) 0 ρ2
  | .ite c a b, ρ, k => wpE c ρ fun x _ ρ1 => match x with | .bool true => wpE a ρ1 k | .bool false => wpE b ρ1 k | _ => False
  | .idx a b, ρ, k => wpE a ρ fun x _ ρ1 => wpE b ρ1 fun y _ ρ2 => idxP x y fun d => k d 0 ρ2
  | .idxS i b, ρ, k => rdS i ρ fun _ => wpE b ρ fun y _ ρ1 => rdS i ρ1 fun s => idxP s.d y fun d => (s.n ≤ 1 ∨ isCont d = false) ∧ k d 0 ρ1
  | .idx2S i b c, ρ, k => wpE b ρ fun y _ ρ1 => rdS i ρ1 fun s => idxP s.d y fun d => wpE c ρ1 fun z _ ρ2 => ρ2[i]? = some (some s) ∧ idxP d z fun d2 => (s.n ≤ 2 ∨ isCont d2 = false) ∧ k d2 0 ρ2
  | .slc a lo hi, ρ, k => wpE a ρ fun x _ ρ1 => wpO lo ρ1 fun l ρ2 => wpO hi ρ2 fun h ρ3 => slcP x l h fun d n => k d n ρ3
  | .slcS i lo hi, ρ, k => rdS i ρ fun _ => wpO lo ρ fun l ρ2 => wpO hi ρ2 fun h ρ3 => rdS i ρ3 fun s => slcP s.d l h fun d n => (s.n ≤ 1 ∨ flatN 1 d = true) ∧ k d n ρ3
  | .slc2S i b lo hi, ρ, k => cutP i b lo hi ρ k
  | .rev a, ρ, k => wpE a ρ fun x _ ρ1 => revP x fun d n => k d n ρ1
  | .revS i, ρ, k => rdS i ρ fun s => revP s.d fun d n => (s.n ≤ 1 ∨ flatN 1 d = true) ∧ k d n ρ
  | .fn f es, ρ, k => wpL es ρ fun ds ρ1 => fnP f (ds.map (·.1)) fun d n => k d n ρ1
  | .fnS f i, ρ, k => rdS i ρ fun s => fnP f [s.d] fun d n => flatN n d = true ∧ k d n ρ
  | .lset a, ρ, k => wpE a ρ fun x _ ρ1 => match x with | .list ds => ∃ ss, strsOf ds = some ss ∧ ss.length ≤ 4000 ∧ k (.int (nubS ss).length) 0 ρ1 | _ => False
  | .isT ts a, ρ, k => wpE a ρ fun x _ ρ1 => k (.bool (ts.any fun t => isTy t x)) 0 ρ1
  | .get a b c, ρ, k => wpE a ρ fun x _ ρ1 => wpE b ρ1 fun y _ ρ2 => wpE c ρ2 fun z _ ρ3 => match x with | .dict kvs => keyFits kvs y ∧ k ((dget kvs y).getD z) 0 ρ3 | _ => False
  | .getS i b c, ρ, k => wpE b ρ fun y _ ρ2 => wpE c ρ2 fun z _ ρ3 => rdS i ρ3 fun s => match s.d with | .dict kvs => keyFits kvs y ∧ (s.n ≤ 1 ∨ isCont ((dget kvs y).getD z) = false) ∧ k ((dget kvs y).getD z) 0 ρ3 | _ => False
  | .popS i b, ρ, k => wpE b ρ fun y _ ρ1 => rdM i ρ1 fun s => match s.d, y with | .list ds, .int j => 0 < s.n ∧ ∃ m d, ixN ds.length j = some m ∧ ds[m]? = some d ∧ k d (s.n - 1) (ρ1.set i (some { s with d := .list (ds.eraseIdx m) })) | _, _ => False
  | .call f es, ρ, k => wpA es ρ fun as ρ' => ∃ ds, argsD ρ' as = some ds ∧ lendOk ρ' as (G.sig f) = true ∧ ((lents as).length ≤ 1 ∧ ∀ i ∈ lents as, i ∉ bors as) ∧
      G.call f ds (fun d n outs => (bors as = [] ∨ (flatN n d = true ∧ outsFlat (G.sig f) outs = true)) ∧ k d n (putOuts as outs ρ')) G.ex
  | .lc m elt tg it ifs vs, ρ, k => wpI it ρ fun items ρ1 => okForget vs (lkIn it ρ1) ∧ lcFold (fun x (acc : List PyData) ρ2 k2 => lkIs it ρ1 ρ2 ∧ bindT tg x ρ2 fun ρ3 => wpC ifs ρ3 fun b ρ4 => if b = true
        then wpE elt ρ4 fun d n ρ5 => (okOwn m n d ∧ acc.length < sizeLine ∧ okForget vs ρ5) ∧ k2 (acc ++ [d]) (forgetS vs ρ5)
        else okForget vs ρ4 ∧ k2 acc (forgetS vs ρ4)) items [] (forgetS vs (lkIn it ρ1)) fun acc ρ6 => lkOut it ρ1 ρ6 fun ρ7 => k (.list acc) (m + 1) ρ7
  | .lc2 m elt tg it ifs tg1 it1 ifs1 vs, ρ, k => False
  | .dead, _, _ => False
  | .dsp a b, ρ, k => wpE a ρ fun x _ ρ1 => wpE b ρ1 fun y _ ρ2 => (kOf x).isSome = true ∧ k (.dict [(x, y)]) 1 ρ2
  | .dnil, ρ, k => k (.dict []) 1 ρ
  | .dc m kx vx tg it ifs vs, ρ, k => False
  | .cons _ _, _, _ => False
  | .nil, _, _ => False
  | .bor _, _, _ => False
  | .lend _, _, _ => False
  | .itv _, _, _ => False
  | .its _, _, _ => False
  | .rng _, _, _ => False
  | .rng2 _ _, _, _ => False
  | .enm _, _, _ => False
  | .enmS _, _, _ => False
  | .zp _ _, _, _ => False
  | .items _, _, _ => False
  | .itemsS _, _, _ => False
  | .vals _, _, _ => False
  | .valsS _, _, _ => False
def wpL : E → Env → (List (PyData × Nat) → Env → Prop) → Prop
  | .nil, ρ, k => k [] ρ
  | .cons a r, ρ, k => wpE a ρ fun d n ρ1 => wpL r ρ1 fun ds ρ2 => k ((d, n) :: ds) ρ2
  | _, _, _ => False
def wpC : E → Env → (Bool → Env → Prop) → Prop
  | .nil, ρ, k => k true ρ
  | .cons a .nil, ρ, k => wpE a ρ fun d _ ρ1 => match d with | .bool b => k b ρ1 | _ => False
  | _, _, _ => False
def wpO : E → Env → (Option Int → Env → Prop) → Prop
  | .nil, ρ, k => k none ρ
  | .cons a .nil, ρ, k => wpE a ρ fun d _ ρ1 => match d with | .int i => k (some i) ρ1 | _ => False
  | _, _, _ => False
def wpA : E → Env → (List Arg → Env → Prop) → Prop
  | .nil, ρ, k => k [] ρ
  | .cons (.bor i) r, ρ, k => rdS i ρ fun _ => wpA r ρ fun as ρ2 => k (.bor i :: as) ρ2
  | .cons (.lend i) r, ρ, k => rdS i ρ fun _ => wpA r ρ fun as ρ2 => k (.lend i :: as) ρ2
  | .cons a r, ρ, k => wpE a ρ fun d n ρ1 => wpA r ρ1 fun as ρ2 => k (.val d n :: as) ρ2
  | _, _, _ => False
def wpI : E → Env → (List PyData → Env → Prop) → Prop
  | .itv a, ρ, k => wpE a ρ fun d _ ρ1 => match d with | .list ds => k ds ρ1 | .tuple ds => k ds ρ1 | _ => False
  | .its i, ρ, k => rdS i ρ fun s => match s.d with | .list ds => (s.n = 1 ∨ (0 < s.n ∧ ds.all (fun d => !isCont d) = true)) ∧ k ds ρ | _ => False
  | .rng a, ρ, k => wpE a ρ fun d _ ρ1 => match d with | .int j => (-(2 ^ 62) ≤ j ∧ j < 2 ^ 62) ∧ k (rangeD 0 j) ρ1 | _ => False
  | .rng2 a b, ρ, k => wpE a ρ fun d _ ρ1 => wpE b ρ1 fun e _ ρ2 => match d, e with | .int i, .int j => (-(2 ^ 62) ≤ i ∧ i < 2 ^ 62 ∧ -(2 ^ 62) ≤ j ∧ j < 2 ^ 62) ∧ k (rangeD i j) ρ2 | _, _ => False
  | .enm a, ρ, k => wpE a ρ fun d _ ρ1 => match d with | .list ds => k (enumD 0 ds) ρ1 | .tuple ds => k (enumD 0 ds) ρ1 | _ => False
  | .enmS i, ρ, k => rdS i ρ fun s => match s.d with | .list ds => s.n = 1 ∧ k (enumD 0 ds) ρ | _ => False
  | .zp a b, ρ, k => wpE a ρ fun d _ ρ1 => wpE b ρ1 fun e _ ρ2 => match d, e with | .list ds, .list es => k (zipD ds es) ρ2 | .tuple ds, .tuple es => k (zipD ds es) ρ2 | _, _ => False
  | .items a, ρ, k => wpE a ρ fun d _ ρ1 => match d with | .dict kvs => k (itemsD kvs) ρ1 | _ => False
  | .itemsS i, ρ, k => rdS i ρ fun s => match s.d with | .dict kvs => s.n = 1 ∧ k (itemsD kvs) ρ | _ => False
  | .vals a, ρ, k => wpE a ρ fun d _ ρ1 => match d with | .dict kvs => k (kvs.map (·.2)) ρ1 | _ => False
  | .valsS i, ρ, k => rdS i ρ fun s => match s.d with | .dict kvs => s.n = 1 ∧ k (kvs.map (·.2)) ρ | _ => False
  | _, _, _ => False
end
end
end PL
end
section
set_option Elab.async false
set_option linter.all false
set_option maxRecDepth 100000
/-! PL3: statements, defs (wpS, wpF). -/
namespace PL
open L2 PyProof.Rows PySem.Spec PySem
structure KS where
  nx : Env → Prop
  rt : PyData → Nat → Env → Prop
  bk : Env → Prop
  ct : Env → Prop
def setAll : List Nat → List (PyData × Nat) → Env → Env
  | i :: is, p :: ds, ρ => setAll is ds (ρ.set i (val p.1 p.2))
  | _, _, ρ => ρ
/-- s[y] = d, of a list or a dict -/
def putP : PyData → PyData → PyData → (PyData → Prop) → Prop
  | .list ds, .int j, d, k => ∃ m, ixN ds.length j = some m ∧ k (.list (ds.set m d))
  | _, _, _, _ => False
/-- slot i holds a list -/
def isLst (i : Nat) (ρ : Env) : Prop := ∃ s, ρ[i]? = some (some s) ∧ ∃ ds, s.d = .list ds
def forFold (step : PyData → Env → (Env → Prop) → Prop) : List PyData → Env → (Env → Prop) → Prop
  | [], ρ, k => k ρ
  | x :: xs, ρ, k => step x ρ fun ρ' => forFold step xs ρ' k
section
variable (G : Ctx)
def wpT (c : E) (ρ : Env) (k : Bool → Env → Prop) : Prop := wpE G c ρ fun d _ ρ1 => match d with | .bool b => k b ρ1 | _ => False
def wpS : Sm → Env → KS → Prop
  | .nil, ρ, D => D.nx ρ
  | .seq a r, ρ, D => wpS a ρ { D with nx := fun ρ1 => wpS r ρ1 D }
  | .pass, ρ, D => D.nx ρ
  | .expr e, ρ, D => wpE G e ρ fun _ _ ρ1 => D.nx ρ1
  | .asg i e, ρ, D => wpE G e ρ fun d n ρ1 => free i ρ1 ∧ D.nx (ρ1.set i (val d n))
  | .unp tg e, ρ, D => wpE G e ρ fun d _ ρ1 => bindT tg d ρ1 D.nx
  | .par is es, ρ, D => wpL G es ρ fun ds ρ1 => (ds.length = is.length ∧ is.Nodup ∧ okForget is ρ1) ∧ D.nx (setAll is ds ρ1)
  | .setIx i b e, ρ, D => wpE G e ρ fun d n ρ1 => isLst i ρ1 ∧ wpE G b ρ1 fun y _ ρ2 => rdM i ρ2 fun s => (0 < s.n ∧ okOwn (s.n - 1) n d) ∧ putP s.d y d fun d' => D.nx (ρ2.set i (some { s with d := d' }))
  | .setIx2 i b c e, ρ, D => wpE G e ρ fun d n ρ1 => wpE G b ρ1 fun y _ ρ2 => rdM i ρ2 fun s => idxP s.d y fun d0 => wpE G c ρ2 fun z _ ρ3 => (ρ3[i]? = some (some s) ∧ 1 < s.n ∧ okOwn (s.n - 2) n d) ∧ putP d0 z d fun d1 => putP s.d y d1 fun d' => D.nx (ρ3.set i (some { s with d := d' }))
  | .aug i op e, ρ, D => rdV i ρ fun d0 => wpE G e ρ fun d _ ρ1 => match d0, d with | .int x, .int y => binP op (.int x) (.int y) fun z n => free i ρ1 ∧ D.nx (ρ1.set i (val z n)) | _, _ => False
  | .augIx i b op e, ρ, D => isLst i ρ ∧ wpE G b ρ fun y _ ρ1 => rdM i ρ1 fun s => match s.d with | .list ds => idxP (.list ds) y fun d0 => (match d0 with | .int x => wpE G e ρ1 fun d _ ρ2 => (ρ2[i]? = some (some s) ∧ 0 < s.n) ∧ (match d with | .int z => binP op (.int x) (.int z) fun d1 _ => putP (.list ds) y d1 fun d' => D.nx (ρ2.set i (some { s with d := d' })) | _ => False) | _ => False) | _ => False
  | .append i e, ρ, D => isLst i ρ ∧ wpE G e ρ fun d n ρ1 => rdM i ρ1 fun s => match s.d with | .list ds => (0 < s.n ∧ okOwn (s.n - 1) n d ∧ ds.length < sizeLine) ∧ D.nx (ρ1.set i (some { s with d := .list (ds ++ [d]) })) | _ => False
  | .append2 i b e, ρ, D => wpE G b ρ fun y _ ρ1 => rdM i ρ1 fun s => idxP s.d y fun d0 => wpE G e ρ1 fun d n ρ2 => (ρ2[i]? = some (some s) ∧ 1 < s.n ∧ okOwn (s.n - 2) n d) ∧ match d0 with | .list ds => ds.length < sizeLine ∧ putP s.d y (.list (ds ++ [d])) fun d' => D.nx (ρ2.set i (some { s with d := d' })) | _ => False
  | .extend i e, ρ, D => isLst i ρ ∧ wpE G e ρ fun d _ ρ1 => rdM i ρ1 fun s => match s.d, d with | .list ds, .list es => (s.n = 1 ∧ ds.length + es.length ≤ sizeLine) ∧ D.nx (ρ1.set i (some { s with d := .list (ds ++ es) })) | _, _ => False
  | .insert i a e, ρ, D => isLst i ρ ∧ wpE G a ρ fun y _ ρ1 => wpE G e ρ1 fun d n ρ2 => rdM i ρ2 fun s => match s.d, y with | .list ds, .int j => (0 < s.n ∧ okOwn (s.n - 1) n d ∧ 0 ≤ j ∧ j ≤ ds.length ∧ ds.length < sizeLine) ∧ D.nx (ρ2.set i (some { s with d := .list (ds.take j.toNat ++ d :: ds.drop j.toNat) })) | _, _ => False
  | .clear i, ρ, D => rdM i ρ fun s => match s.d with | .list ds => 0 < s.n ∧ D.nx (ρ.set i (some { s with d := .list [] })) | _ => False
  | .ret e, ρ, D => wpE G e ρ D.rt
  | .retS i, ρ, D => rdS i ρ fun s => s.prot = false ∧ D.rt s.d s.n (ρ.set i none)
  | .retN, ρ, D => D.rt .none 0 ρ
  | .ite c a b, ρ, D => wpT G c ρ fun t ρ1 => if t = true then wpS a ρ1 D else wpS b ρ1 D
  | .for_ tg it body, ρ, D => wpI G it ρ fun items ρ1 => forFold (fun x ρ2 k2 => lkIs it ρ1 ρ2 ∧ bindT tg x ρ2 fun ρ3 => wpS body ρ3 { nx := k2, rt := D.rt, bk := fun ρ4 => lkOut it ρ1 ρ4 D.nx, ct := k2 }) items (lkIn it ρ1) fun ρ5 => lkOut it ρ1 ρ5 D.nx
  | .while_ c body, ρ, D => ∃ I : Nat → Env → Prop, (∃ m, I m ρ) ∧ ∀ m ρ, I m ρ → wpT G c ρ fun t ρ1 => if t = true then wpS body ρ1 { nx := fun ρ2 => ∃ m', m' < m ∧ I m' ρ2, rt := D.rt, bk := D.nx, ct := fun ρ2 => ∃ m', m' < m ∧ I m' ρ2 } else D.nx ρ1
  | .brk, ρ, D => D.bk ρ
  | .cont, ρ, D => D.ct ρ
  | .dead, _, _ => False
  | .raise_ c e, ρ, D => wpE G e ρ fun d _ _ => G.ex c d
  | .frz i, ρ, D => rdS i ρ fun s => s.prot = false ∧ D.nx (ρ.set i (val s.d 0))
end
/-! ### defs -/
def outsOf : List Nat → Nat → Env → Option (List PyData)
  | [], _, _ => some []
  | 0 :: ls, i, ρ => outsOf ls (i + 1) ρ
  | (l + 1) :: ls, i, ρ => match ρ[i]? with
    | some (some s) => if s.n = l + 1 ∧ s.prot = true then (outsOf ls (i + 1) ρ).map (s.d :: ·) else none
    | _ => none
def argSlots : List Nat → List PyData → Env
  | l :: ls, d :: ds => some ⟨d, l, l != 0, false⟩ :: argSlots ls ds
  | _, _ => []
def envOf (f : FnI) (ds : List PyData) : Env := argSlots f.lend ds ++ List.replicate (f.ns - f.np) none
abbrev KF := PyData → Nat → List PyData → Prop
def endsOf (f : FnI) (k : KF) : KS where
  nx := fun ρ => ∃ os, outsOf f.lend 0 ρ = some os ∧ k .none 0 os
  rt := fun d n ρ => ∃ os, outsOf f.lend 0 ρ = some os ∧ k d n os
  bk := fun _ => False
  ct := fun _ => False
structure Tab where
  cons : List Int
  fns : List FnI
def sigOf (T : Tab) (f : Nat) : List Nat := match T.fns[f]? with | some x => x.lend | none => []
def wpF (T : Tab) : Nat → Nat → List PyData → KF → (String → PyData → Prop) → Prop
  | 0, _, _, _, _ => False
  | k + 1, f, ds, Q, ex => match T.fns[f]? with
    | some x => ds.length = x.np ∧ wpS ⟨T.cons, sigOf T, wpF T k, ex⟩ x.body (envOf x ds) (endsOf x Q)
    | none => False
abbrev ctx (T : Tab) (k : Nat) (ex : String → PyData → Prop) : Ctx := ⟨T.cons, sigOf T, wpF T k, ex⟩
abbrev noX : String → PyData → Prop := fun _ _ => False
end PL
end
section
set_option Elab.async false
set_option linter.all false
set_option maxRecDepth 100000
set_option maxHeartbeats 2000000
/-! PLX4: a tuple, a text times any number. -/
namespace PL
open L2 PyProof.Rows PySem.Spec PySem
open PySem.AutoSeq1 (wpAny_loadPart')
open PySem.MeetsSeq PySem.MeetsSeq2 PySem.MeetsSeq3
theorem tmul_same (l : Addr) (items : Array Value) (n : Nat) (dd : Option Addr) (sl : Array (Option Value)) (x : Int) (u : Tok) (z0 : (decide (x < -(2 ^ 63)) || decide (x ≥ 2 ^ 63)) = false) (z1 : (items.isEmpty || x == 1) = true) :
    Meets (Builtin.«tuple.__mul__» ⟨[.ref l, .int x u], []⟩) (fun _ R s => s.heap.get? l = some { cls := .type "tuple", dict := dd, data := .seq items n, slots := sl } ∧ R (.ok (.ret (Value.ref l))) s) :=
  .of_wp fun prog w A R s h => by
    obtain ⟨hq, gs, dr, t0, os⟩ := s
    obtain ⟨hL, h⟩ := h
    have ix1 := AutoSeq1.idx_int
    wp_walk using wpAny_loadPart' hL
    repeat (first
      | (refine wpAny_ite_false (decide_eq_false (by rw [z0]; exact Bool.false_ne_true)) ?_; wp_walk using wpAny_loadPart' hL)
      | (refine wpAny_ite_true (decide_eq_true z1) ?_; wp_walk using wpAny_loadPart' hL))
    exact ⟨_, rfl, h⟩
theorem tmul_none (l : Addr) (items : Array Value) (n : Nat) (dd : Option Addr) (sl : Array (Option Value)) (x : Int) (u : Tok) (z0 : (decide (x < -(2 ^ 63)) || decide (x ≥ 2 ^ 63)) = false) (z1 : (items.isEmpty || x == 1) = false) (z2 : (decide (x ≤ 0) || items.isEmpty) = true) :
    Meets (Builtin.«tuple.__mul__» ⟨[.ref l, .int x u], []⟩) (fun _ R s => s.heap.get? l = some { cls := .type "tuple", dict := dd, data := .seq items n, slots := sl } ∧
      R (.ok (.ret (Value.ref s.heap.objs.size))) { s with heap := s.heap.push { cls := Value.type "tuple", data := Data.seq #[] }, toks := s.toks }) :=
  .of_wp fun prog w A R s h => by
    obtain ⟨hq, gs, dr, t0, os⟩ := s
    obtain ⟨hL, h⟩ := h
    have ix1 := AutoSeq1.idx_int
    wp_walk using wpAny_loadPart' hL
    repeat (first
      | (refine wpAny_ite_false (decide_eq_false (by rw [z0]; exact Bool.false_ne_true)) ?_; wp_walk using wpAny_loadPart' hL)
      | (refine wpAny_ite_false (decide_eq_false (by rw [z1]; exact Bool.false_ne_true)) ?_; wp_walk using wpAny_loadPart' hL)
      | (refine wpAny_ite_true (decide_eq_true z2) ?_; wp_walk using wpAny_loadPart' hL))
    exact ⟨_, rfl, h⟩
section
variable {X : Cx}
def rMulT (K : PySem.W.Frag) : R2 := fun x y H Q => ∃ l k xs, x = .ref l ∧ y = .int k ∧ SqT K H l xs ∧ -(2 ^ 63) ≤ k ∧ k ≤ 1000 ∧ xs.length ≤ 1000 ∧ (xs = [] ∨ k = 1 → Q (.ref l) H) ∧ (xs ≠ [] → k ≤ 0 → ∀ p, H p = none → Q (.ref p) (upd H p (.tup []))) ∧
  (xs ≠ [] → 2 ≤ k → ∀ p, H p = none → Q (.ref p) (upd H p (.tup (List.replicate k.toNat xs).flatten)))
theorem op_mulT : OpR X (binaryOp .Mult) (rMulT X.K) := by
  intro pins s σ H x y v u Q I rx ry h
  obtain ⟨l, k, xs, rfl, rfl, hT, lo, hi, hz, q1, q2, q3⟩ := h
  by_cases big : xs ≠ [] ∧ 2 ≤ k
  · exact op_repT pins s σ H _ _ v u Q I rx ry ⟨l, k, xs, rfl, rfl, hT, big.1, big.2, hi, hz, q3 big.1 big.2⟩
  · cases rx
    obtain ⟨t, rfl⟩ := ry
    obtain ⟨its, r, ⟨⟨cls, dd, data, sl⟩, ho, hc, n, hd⟩, hs⟩ := I.tuple hT
    simp only at hc hd
    subst hc hd
    have emp : its.toArray.isEmpty = decide (xs = []) := by
      have := r.nil_iff
      cases its with
      | nil => rw [this.mp rfl]; rfl
      | cons a b =>
        have ne : xs ≠ [] := fun z => by have := this.mpr z; cases this
        rw [decide_eq_false ne]; rfl
    have z0 : (decide (k < -(2 ^ 63)) || decide (k ≥ 2 ^ 63)) = false := by
      rw [decide_eq_false (by omega), decide_eq_false (by omega)]; rfl
    have hty : s.TypeIs (.ref l) "tuple" := ⟨_, ho, rfl⟩
    have road := fun (B : wpAny (model X.prog X.w) X.A (call (.builtin "tuple.__mul__") [.ref l, .int k t]) (EP X pins σ Q) X.xe s) =>
      wpAny_binaryOp_repeat_ref (T := "tuple") (U := "int") (by decide) hty (fun s' => typeIs_int s' k t) noFill_tuple_mul F.fills_int_mul F.slot_int_rmul repeat_tuple F.slot_int_index.lookup
        (call_meets F.slot_int_rmul (typeIs_int s k t) F.entry_int_rmul (F.args_int_rmul_2 _ _) (int_rmul_tuple k t l its.toArray n dd sl) ⟨ho, rfl, hty, B⟩)
    by_cases one : xs = [] ∨ k = 1
    · refine road (call_meets F.slot_tuple_mul hty F.entry_tuple_mul (F.args_tuple_mul_2 _ _) (tmul_same l its.toArray n dd sl k t z0 ?_) ⟨ho, .ref l, H, I, rfl, q1 one⟩)
      rw [emp]
      rcases one with z | z
      · rw [decide_eq_true z]; rfl
      · rw [z, Bool.or_eq_true]; exact .inr rfl
    · have ne : xs ≠ [] := fun z => one (.inl z)
      have k1 : k ≠ 1 := fun z => one (.inr z)
      have k0 : k ≤ 0 := by
        have : ¬ 2 ≤ k := fun z => big ⟨ne, z⟩
        omega
      refine road (call_meets F.slot_tuple_mul hty F.entry_tuple_mul (F.args_tuple_mul_2 _ _) (tmul_none l its.toArray n dd sl k t z0 ?_ ?_) ⟨ho, ?_⟩)
      · rw [emp, decide_eq_false ne, Bool.false_or]; exact beq_eq_false_iff_ne.mpr k1
      · rw [decide_eq_true k0]; rfl
      · exact ⟨.ref s.heap.objs.size, _, I.laid (t' := s.toks) (o := .tup []) (fun b ob z => Heap.get?_push_of_some _ z) (Nat.le_refl _) ⟨Nat.zero_le _, [], .nil, IsTup.new _ _⟩, rfl, q2 ne k0 _ (I.hok.fresh (Nat.le_refl _))⟩
def rMulS : R2 := fun x y H Q => ∃ z k, x = .str z ∧ y = .int k ∧ -(2 ^ 63) ≤ k ∧ k ≤ 1000 ∧ z.length ≤ 1000 ∧ Q (.str (Txt.mul z k)) H
theorem op_mulS : OpR X (binaryOp .Mult) rMulS := by
  intro pins s σ H x y v u Q I rx ry h
  obtain ⟨z, k, rfl, rfl, lo, hi, hz, q⟩ := h
  obtain ⟨t, rfl⟩ := rx
  obtain ⟨t', rfl⟩ := ry
  refine SB.mul ⟨by rw [decide_eq_false (by omega), decide_eq_false (by omega)]; rfl, fun h1 _ => ?_, fun h1 _ => ?_⟩ fun t2 k2 => ⟨.str _, H, I.tok _, ⟨_, rfl⟩, q⟩
  · have h2 : 1 ≤ k := by omega
    have h3 : (z.length : Int) ≤ (2 ^ 63 - 1) / k := by
      refine Int.le_ediv_of_mul_le (by omega) ?_
      have h4 : (z.length : Int) * k ≤ 1000 * 1000 := Int.mul_le_mul (by omega) hi (by omega) (by decide)
      omega
    omega
  · have h5 : z.length * k.toNat ≤ 1000 * 1000 := Nat.mul_le_mul hz (by omega)
    unfold Builtin.Str.tooLong
    rw [sizeLine_eq]
    exact decide_eq_false (by omega)
end
end PL
end
section
set_option Elab.async false
set_option linter.all false
set_option maxRecDepth 100000
set_option maxHeartbeats 1000000
/-! PL4: operations on data over the heap. -/
namespace PL
open L2 PyProof.Rows PySem.Spec PySem
section
variable {X : Cx} {pins : List (Addr × Obj)} {σ : List (Option V)} {H F : Hp} {s : Shared}
theorem rd_list (I : Inv X pins σ H s) (sb : Sub F H) {a : Addr} {xs : List V} (h : F a = some (.lst xs)) :
    ∃ (its : List Value) (n : Nat), Vals xs its ∧ s.heap.get? a = some { cls := .type "list", data := .seq its.toArray n } ∧ xs.length ≤ sizeLine := by
  obtain ⟨z, its, n, r, e⟩ := I.hok a _ (sb _ _ h)
  exact ⟨its, n, r, e, z⟩
theorem rd_dict (I : Inv X pins σ H s) {a : Addr} {o : Obj} (h : H a = some (dHO o a)) : s.heap.get? a = some o :=
  (I.hok a _ h).1
mutual
theorem Fz.reads (I : Inv X pins σ H s) (sb : Sub F H) : ∀ (d : PyData) (v : V) (u : Value), Fz X.w F v d → RelV v u → ∃ as, Reads s.heap u d as
  | .none, v, u, h, r => by cases (show v = _ from h); cases r; exact ⟨_, .none⟩
  | .bool b, v, u, h, r => by cases (show v = _ from h); cases r; exact ⟨_, .bool b⟩
  | .int i, v, u, h, r => by cases (show v = _ from h); obtain ⟨t, rfl⟩ := r; exact ⟨_, .int i t⟩
  | .str x, v, u, h, r => by cases (show v = _ from h); obtain ⟨t, rfl⟩ := r; exact ⟨_, .str x t⟩
  | .tuple ds, v, u, h, r => by
    obtain ⟨a, xs, rfl, q, t⟩ := h
    cases r
    obtain ⟨its, rv, ⟨o, ho, hc, n, hd⟩, _⟩ := I.tuple (SqT.of (sb _ _ q))
    obtain ⟨as, hr⟩ := FzAll.reads I sb ds xs its t rv
    exact ⟨_, .tuple ho hc hd (by simpa using hr)⟩
  | .list ds, v, u, h, r => by
    obtain ⟨a, xs, rfl, q, t⟩ := h
    cases r
    obtain ⟨its, n, rv, e, _⟩ := rd_list I sb q
    obtain ⟨as, hr⟩ := FzAll.reads I sb ds xs its t rv
    exact ⟨_, .list e rfl rfl (by simpa using hr)⟩
  | .dict kvs, v, u, h, r => by
    obtain ⟨a, es, ks, vs, rfl, q, y, dr, t⟩ := h
    cases r
    have e := rd_dict I (sb _ _ q)
    obtain ⟨es, ep, rfl, r1, r2, _⟩ := dr.ex
    obtain ⟨as, bs, h1, h2⟩ := FzKv.reads I sb kvs ks vs _ _ t r1 r2
    exact ⟨_, .dict e rfl rfl h1 h2⟩
theorem FzAll.reads (I : Inv X pins σ H s) (sb : Sub F H) : ∀ (ds : List PyData) (vs : List V) (us : List Value), FzAll X.w F vs ds → Vals vs us → ∃ as, ReadsAll s.heap us ds as
  | [], [], us, h, r => by cases r; exact ⟨_, .nil⟩
  | d :: ds, v :: vs, us, h, r => by
    cases r with
    | cons r1 r2 =>
      obtain ⟨as, q1⟩ := Fz.reads I sb d _ _ h.1 r1
      obtain ⟨bs, q2⟩ := FzAll.reads I sb ds _ _ h.2 r2
      exact ⟨_, .cons q1 q2⟩
  | [], _ :: _, _, h, _ => h.elim
  | _ :: _, [], _, h, _ => h.elim
theorem FzKv.reads (I : Inv X pins σ H s) (sb : Sub F H) : ∀ (kvs : List (PyData × PyData)) (ks vs : List V) (us ws : List Value), FzKv X.w F ks vs kvs → Vals ks us → Vals vs ws →
    ∃ as bs, ReadsAll s.heap us (kvs.map (·.1)) as ∧ ReadsAll s.heap ws (kvs.map (·.2)) bs
  | [], _, _, us, ws, ⟨e1, e2⟩, r1, r2 => by subst e1 e2; cases r1; cases r2; exact ⟨_, _, .nil, .nil⟩
  | (a, b) :: r, _, _, us, ws, ⟨k, ks, v, vs, e1, e2, h1, h2, h3⟩, r1, r2 => by
    subst e1 e2
    cases r1 with
    | cons r1 r1' =>
      cases r2 with
      | cons r2 r2' =>
        obtain ⟨as, q1⟩ := Fz.reads I sb a _ _ h1 r1
        obtain ⟨bs, q2⟩ := Fz.reads I sb b _ _ h2 r2
        obtain ⟨as', bs', q3, q4⟩ := FzKv.reads I sb r _ _ _ _ h3 r1' r2'
        exact ⟨_, _, .cons q1 q3, .cons q2 q4⟩
end
end
/-- an operation of two values, by data -/
def rD2 (w : World) (p : PyData → PyData → KD → Prop) : R2 := fun x y H Q => ∃ (F : Hp) (dx dy : PyData) (k : KD), Sub F H ∧ Fz w F x dx ∧ Fz w F y dy ∧ p dx dy k ∧ ∀ d n v H', k d n → Out w F H v d n H' → Q v H'
def rD1 (w : World) (p : List PyData → KD → Prop) : List V → Hp → VK → Prop := fun xs H Q => ∃ (F : Hp) (ds : List PyData) (k : KD), Sub F H ∧ FzAll w F xs ds ∧ p ds k ∧ ∀ d n v H', k d n → Out w F H v d n H' → Q v H'
section
variable {X : Cx} {w : World} {F H : Hp}
theorem Fz.int {v : V} {i : Int} (h : Fz w F v (.int i)) : v = .int i := h
theorem Fz.bool {v : V} {i : Bool} (h : Fz w F v (.bool i)) : v = .bl i := h
theorem Fz.str {v : V} {i : Str} (h : Fz w F v (.str i)) : v = .str i := h
theorem Fz.none {v : V} (h : Fz w F v .none) : v = .non := h
theorem FzAll.rep {ds : List PyData} {xs : List V} (h : FzAll w F xs ds) : ∀ n, FzAll w F (List.replicate n xs).flatten (List.replicate n ds).flatten
  | 0 => trivial
  | n + 1 => by rw [List.replicate_succ, List.replicate_succ, List.flatten_cons, List.flatten_cons]; exact h.append (FzAll.rep h n)
def opOf : BOp → Operator
  | .add => .Add | .sub => .Sub | .mul => .Mult | .fdiv => .FloorDiv | .mod => .Mod | .pow => .Pow
theorem flat_nil {α : Type} : ∀ n : Nat, (List.replicate n ([] : List α)).flatten = []
  | 0 => rfl
  | n + 1 => by rw [List.replicate_succ, List.flatten_cons, flat_nil n]; rfl
theorem op_bin (op : BOp) : OpR X (binaryOp (opOf op)) (rD2 X.w (binP op)) := by
  intro pins s σ H x y v u Q I rx ry h
  obtain ⟨F, dx, dy, k, sb, hx, hy, hp, hq⟩ := h
  have atom : ∀ (g : Int → Int → Int) (i j : Int), dx = .int i → dy = .int j → k (.int (g i j)) 0 → Q (.int (g i j)) H := fun g i j _ _ hk => hq _ _ _ _ hk (Out.fz (show Fz X.w F (.int (g i j)) (.int (g i j)) from rfl) sb)
  cases op with
  | sub =>
    cases dx <;> try exact hp.elim
    cases dy <;> try exact hp.elim
    exact op_sub pins s σ H x y v u Q I rx ry ⟨_, _, hx, hy, atom (· - ·) _ _ rfl rfl hp⟩
  | fdiv =>
    cases dx <;> try exact hp.elim
    cases dy <;> try exact hp.elim
    exact op_fdivW pins s σ H x y v u Q I rx ry ⟨_, _, hx, hy, hp.1, atom (· / ·) _ _ rfl rfl hp.2⟩
  | mod =>
    cases dx <;> try exact hp.elim
    cases dy <;> try exact hp.elim
    exact op_mod pins s σ H x y v u Q I rx ry ⟨_, _, hx, hy, hp.1, atom (· % ·) _ _ rfl rfl hp.2⟩
  | pow =>
    cases dx <;> try exact hp.elim
    cases dy <;> try exact hp.elim
    exact op_pow pins s σ H x y v u Q I rx ry ⟨_, _, hx, hy, hp.1, atom (fun i j => i ^ j.toNat) _ _ rfl rfl hp.2⟩
  | mul =>
    cases dx <;> try exact hp.elim
    · cases dy <;> try exact hp.elim
      exact op_mulW pins s σ H x y v u Q I rx ry ⟨_, _, hx, hy, hp.1, atom (· * ·) _ _ rfl rfl hp.2⟩
    · cases dy <;> try exact hp.elim
      exact op_mulS pins s σ H x y v u Q I rx ry ⟨_, _, hx, hy, hp.1.1, hp.1.2.1, hp.1.2.2, hq _ _ _ _ hp.2 (Out.fz (show Fz X.w F (.str _) (.str _) from rfl) sb)⟩
    · rename_i ds
      cases dy <;> try exact hp.elim
      rename_i j
      obtain ⟨a, xs, rfl, q, t⟩ := hx
      obtain ⟨⟨h1, h2, h3⟩, hk⟩ := hp
      exact op_rep pins s σ H _ _ v u Q I rx ry ⟨a, j, xs, rfl, hy, sb _ _ q, h1, h2, by rw [t.length]; exact h3, fun p hp' => hq _ _ _ _ hk (Out.lst sb hp' (t.rep _))⟩
    · rename_i ds
      cases dy <;> try exact hp.elim
      rename_i j
      obtain ⟨a, xs, rfl, q, t⟩ := hx
      obtain ⟨⟨h1, h2, h3⟩, hk⟩ := hp
      have hlen := t.length
      refine op_mulT pins s σ H _ _ v u Q I rx ry ⟨a, j, xs, rfl, hy, SqT.of (sb _ _ q), h1, h2, by rw [hlen]; exact h3, fun z => hq _ _ _ _ hk (Out.fz ⟨a, xs, rfl, q, ?_⟩ sb), fun z0 z p hp' => hq _ _ _ _ hk ?_, fun z0 z p hp' => hq _ _ _ _ hk (Out.tup sb hp' (t.rep _))⟩
      · rcases z with z | z
        · subst z
          have : ds = [] := by cases ds with | nil => rfl | cons d ds => cases hlen
          subst this
          rw [flat_nil]; exact t
        · subst z
          have : (List.replicate (1 : Int).toNat ds).flatten = ds := by show [ds].flatten = ds; simp
          rw [this]; exact t
      · have : (List.replicate j.toNat ds).flatten = [] := by rw [show j.toNat = 0 by omega]; rfl
        rw [this]; exact Out.tup sb hp' trivial
  | add =>
    cases dx <;> try exact hp.elim
    · cases dy <;> try exact hp.elim
      exact op_add pins s σ H x y v u Q I rx ry ⟨_, _, hx, hy, atom (· + ·) _ _ rfl rfl hp⟩
    · cases dy <;> try exact hp.elim
      exact op_add_str pins s σ H x y v u Q I rx ry ⟨_, _, hx, hy, hp.1, hq _ _ _ _ hp.2 (Out.fz (show Fz X.w F (.str _) (.str _) from rfl) sb)⟩
    · cases dy <;> try exact hp.elim
      obtain ⟨a, xs, rfl, q, t⟩ := hx
      obtain ⟨b, ys, rfl, q2, t2⟩ := hy
      cases rx
      cases ry
      obtain ⟨its, n, rv, e, z⟩ := rd_list I sb q
      obtain ⟨its2, n2, rv2, e2, z2⟩ := rd_list I sb q2
      have hl : xs.length + ys.length ≤ sizeLine := by rw [t.length, t2.length]; exact hp.1
      refine PySem.P.add_list e e2 ?_ (by rw [List.size_toArray, List.size_toArray, ← rv.length, ← rv2.length]; exact hl)
      have ea : its.toArray ++ its2.toArray = (its ++ its2).toArray := by simp
      rw [ea]
      have hf : H s.heap.objs.size = none := I.hok.fresh (Nat.le_refl _)
      refine ⟨.ref s.heap.objs.size, upd H s.heap.objs.size (.lst (xs ++ ys)), I.laid (t' := s.toks) (fun b u e => Heap.get?_push_of_some _ e) (Nat.le_refl _) ?_, rfl, hq _ _ _ _ hp.2 (Out.lst sb hf (t.append t2))⟩
      exact ⟨by rw [List.length_append]; exact hl, its ++ its2, 0, rv.append rv2, Heap.get?_push_size _ rfl⟩
    · cases dy <;> try exact hp.elim
      obtain ⟨a, xs, rfl, q, t⟩ := hx
      obtain ⟨b, ys, rfl, q2, t2⟩ := hy
      rename_i ds es
      have hl : xs.length + ys.length ≤ sizeLine := by rw [t.length, t2.length]; exact hp.1
      have out0 : ∀ {z : V}, Fz X.w F z (.tuple (ds ++ es)) → Q z H := fun hz => hq _ _ _ _ hp.2 (Out.fz hz sb)
      refine op_catA pins s σ H _ _ v u Q I rx ry ⟨a, b, xs, ys, rfl, rfl, SqT.of (sb _ _ q), SqT.of (sb _ _ q2), hl, fun e => ?_, fun _ e => ?_, fun _ _ p hp' => hq _ _ _ _ hp.2 (Out.tup sb hp' (t.append t2))⟩
      · subst e
        cases ds with
        | nil => exact out0 ⟨b, ys, rfl, q2, t2⟩
        | cons => exact t.elim
      · subst e
        cases es with
        | nil => rw [List.append_nil] at out0; exact out0 ⟨a, xs, rfl, q, t⟩
        | cons => exact t2.elim
end
/-- a comparison of two values, by data -/
def rDC (w : World) (p : PyData → PyData → (Bool → Prop) → Prop) : R2 := fun x y H Q => ∃ (F : Hp) (dx dy : PyData) (k : Bool → Prop), Sub F H ∧ Fz w F x dx ∧ Fz w F y dy ∧ p dx dy k ∧ ∀ b, k b → Q (.bl b) H
def copOf : COp → CmpOp
  | .eq => .Eq | .ne => .NotEq | .lt => .Lt | .le => .LtE | .gt => .Gt | .ge => .GtE | .is => .Is | .isnot => .IsNot | .inn => .In | .notin => .NotIn
/-- the comparisons that are not about dicts -/
def cmpP0 : COp → PyData → PyData → (Bool → Prop) → Prop
  | .inn, x, .dict kvs, k => False
  | .notin, x, .dict kvs, k => False
  | op, x, y, k => cmpP op x y k
section
variable {X : Cx}
theorem fz_none_iff {w : World} {F : Hp} {x : V} {d : PyData} (h : Fz w F x d) : decide (x = .non) = (match d with | .none => true | _ => false) := by
  cases d with
  | none => cases (show x = _ from h); rfl
  | bool => cases (show x = _ from h); rfl
  | int => cases (show x = _ from h); rfl
  | str => cases (show x = _ from h); rfl
  | tuple => obtain ⟨a, xs, rfl, _⟩ := h; rfl
  | list => obtain ⟨a, xs, rfl, _⟩ := h; rfl
  | dict => obtain ⟨a, _, _, _, rfl, _⟩ := h; rfl
theorem op_cmp0 (op : COp) (hu : X.A.units + 100 < cLine) : OpR X (compareOp (copOf op)) (rDC X.w (cmpP0 op)) := by
  intro pins s σ H x y v u Q I rx ry h
  obtain ⟨F, dx, dy, k, sb, hx, hy, hp, hq⟩ := h
  have rdx : ∃ as, Reads s.heap v dx as := Fz.reads I sb dx x v hx rx
  have rdy : ∃ as, Reads s.heap u dy as := Fz.reads I sb dy y u hy ry
  obtain ⟨as, rdx⟩ := rdx
  obtain ⟨bs, rdy⟩ := rdy
  have fin : ∀ {b : Bool}, k b → EP X pins σ Q (.bool b) s := fun hb => ⟨.bl _, H, I, rfl, hq _ hb⟩
  cases op with
  | eq =>
    obtain ⟨⟨h1, h2, h3⟩, hk⟩ := (show eqOk dx dy ∧ _ from hp)
    have : dLow = 60 := rfl
    exact PySem.SeqAt.eq_plain rdx rdy h1 h2 (by omega) (fin hk)
  | ne =>
    obtain ⟨⟨h1, h2, h3⟩, hk⟩ := (show eqOk dx dy ∧ _ from hp)
    have : dLow = 60 := rfl
    exact PySem.SeqAt.ne_plain rdx rdy h1 h2 (by omega) (fin hk)
  | lt =>
    have gen : ltOk dx dy ∧ k (PySem.W.dataLt dx dy) → wpAny (model X.prog X.w) X.A (compareOp .Lt v u) (EP X pins σ Q) X.xe s := fun ⟨⟨h1, h2, h3⟩, hk⟩ => by
      have : dLow = 60 := rfl
      exact PySem.W.lt_data rdx rdy h1 h2 (by omega) (fin hk)
    cases dx <;> cases dy <;> try exact gen hp
    exact op_lt pins s σ H x y v u Q I rx ry ⟨_, _, hx, hy, hq _ hp⟩
  | le =>
    cases dx <;> try exact hp.elim
    cases dy <;> try exact hp.elim
    exact op_le pins s σ H x y v u Q I rx ry ⟨_, _, hx, hy, hq _ hp⟩
  | gt =>
    cases dx <;> try exact hp.elim
    cases dy <;> try exact hp.elim
    exact op_gt pins s σ H x y v u Q I rx ry ⟨_, _, hx, hy, hq _ hp⟩
  | ge =>
    cases dx <;> try exact hp.elim
    cases dy <;> try exact hp.elim
    exact op_ge pins s σ H x y v u Q I rx ry ⟨_, _, hx, hy, hq _ hp⟩
  | is =>
    cases dy with
    | none => exact op_isN pins s σ H x y v u Q I rx ry ⟨hy, by rw [fz_none_iff hx]; exact hq _ (by cases dx <;> exact hp)⟩
    | bool c =>
      cases dx <;> try exact hp.elim
      exact op_is_bl pins s σ H x y v u Q I rx ry ⟨_, _, hx, hy, hq _ hp⟩
    | _ => cases dx <;> exact hp.elim
  | isnot =>
    cases dy with
    | none => exact op_notN pins s σ H x y v u Q I rx ry ⟨hy, by rw [fz_none_iff hx]; exact hq _ (by cases dx <;> exact hp)⟩
    | bool c =>
      cases dx <;> try exact hp.elim
      exact op_isnot_bl pins s σ H x y v u Q I rx ry ⟨_, _, hx, hy, hq _ hp⟩
    | _ => cases dx <;> exact hp.elim
  | inn =>
    have : dLow = 60 := rfl
    cases dy with
    | list ds => obtain ⟨⟨h1, h2, h3⟩, hk⟩ := hp; exact PySem.SeqAt.in_list_data rdy rdx h1 h2 (by omega) (fin hk)
    | tuple ds => obtain ⟨⟨h1, h2, h3⟩, hk⟩ := hp; exact PySem.SeqAt.in_tuple_data rdy rdx h1 h2 (by omega) (fin hk)
    | _ => exact hp.elim
  | notin =>
    have : dLow = 60 := rfl
    cases dy with
    | list ds => obtain ⟨⟨h1, h2, h3⟩, hk⟩ := hp; exact PySem.SeqAt.notIn_list_data rdy rdx h1 h2 (by omega) (fin hk)
    | tuple ds => obtain ⟨⟨h1, h2, h3⟩, hk⟩ := hp; exact PySem.SeqAt.notIn_tuple_data rdy rdx h1 h2 (by omega) (fin hk)
    | _ => exact hp.elim
end
end PL
end
section
set_option Elab.async false
set_option linter.all false
set_option maxRecDepth 100000
set_option maxHeartbeats 1000000
/-! PL5: defs called where no repr runs (FnG). -/
namespace PL
open L2 PyProof.Rows PySem.Spec PySem
/-- a def's promise, kept wherever there is room and no repr is under way -/
structure FnG (P : Program) (w : World) (K : Fg) (mg : Str → Option Value) (base : Heap) (k : Nat) (f : Addr) (sp : List V → Hp → VK → Prop) : Prop where
  run : ∀ (A : Around) (outer : List PySem.Env) (s : Shared) (H : Hp) (us : List Value) (vs : List V) (Q : VK), Room k A → A.guards = some [] →
    Env0 P w K mg base A outer s H → Vals vs us → sp vs H Q → codeAny (model P w) A (.call (.ref f) ⟨us, []⟩) (CR CX0 outer P w H s Q fun _ _ _ => False) s
theorem FnG.imp {P : Program} {w : World} {K : Fg} {mg : Str → Option Value} {base : Heap} {k : Nat} {f : Addr} {sp sp' : List V → Hp → VK → Prop}
    (F : FnG P w K mg base k f sp) (h : ∀ vs H Q, sp' vs H Q → sp vs H Q) : FnG P w K mg base k f sp' :=
  ⟨fun A o s H us vs Q hr hg e hv hs => F.run A o s H us vs Q hr hg e hv (h _ _ _ hs)⟩
/-- by its body, walked where nothing that is raised leaves it -/
theorem fnG_of {P : Program} {w : World} {K : Fg} {mg : Str → Option Value} {base : Heap} {k : Nat} {f : Addr} {x qual : Str} {params : Arguments} {body : List Stmt} {scope : Scope} {fd : FuncData} {N ps : List Str}
    {sp : List V → Hp → VK → Prop} (FD : FunD K x qual params body scope [] [] f fd) (S : FnScope N ps scope)
    (hb : ∀ (s : Shared) (us : List Value), us.length = ps.length → BindsTo s fd ⟨us, []⟩ (ps.zip us))
    (len : ∀ vs H Q, sp vs H Q → vs.length = ps.length)
    (hbody : ∀ (cdv : Value) (A : Around) (outer : List PySem.Env) (s : Shared) (H : Hp) (vs : List V) (Q : VK), Room k (A.deeper (envOfC qual scope s.heap.objs.size f cdv)) → A.guards = some [] → sp vs H Q →
      ∃ t, PSs (cxOf CX0 P w K mg base N qual scope f cdv A outer s H fun _ _ _ => False).nox body t ∧ t { nx := fun _ H' => Q .non H', rt := Q } (start N vs) H) :
    FnG P w K mg base (k + 1) f sp := by
  obtain ⟨oc, od, dV, kV, doc, pm, an, cdv, ct, osl, rfl, lk, hcd, _, _⟩ := FD.ex
  constructor
  intro A outer s H us vs Q hr hg e0 rv hsp
  have hl : vs.length = ps.length := len _ _ _ hsp
  have hlu : us.length = ps.length := rv.length.symm.trans hl
  have kIn : K.In s.heap := e0.mod.kin.keeps fun _ _ e => (e0.bs _ _ e).1
  have lim : s.heap.NoLimit := e0.mod.nolimit.keeps fun _ _ e => (e0.bs _ _ e).1
  have kinds : ∀ y ∈ ps.zip us, scope.names.lookup y.1 = some .local ∨ (scope.names.lookup y.1 = some .cell ∧ ((cellsFrom (s.heap.objs.size + 1) scope.names []).lookup y.1).isSome = true) := by
    intro y hy
    cases S.par y.1 (List.of_mem_zip (show (y.1, y.2) ∈ ps.zip us from hy)).1 with
    | inl q => exact Or.inl q
    | inr q => exact Or.inr ⟨q, PySem.W.cellsFrom_some _ _ _ (Or.inl q)⟩
  refine codeAny_call_function hr.depth (kIn _ _ lk) rfl S.co S.gen rfl
    (PySem.W.codeRec_of kIn hcd) (hb s us hlu _ _ _ _ ?_)
  refine wpAny_newFunctionEnv_cells S.kind kinds fun env hE s1 ic => ?_
  subst hE
  refine ⟨lim.keeps ic.toInCall.keep, codeAny_func ?_⟩
  obtain ⟨t, ht, hq⟩ := hbody cdv A outer s H vs Q (hr.deeper _) hg hsp
  have J := inv_start (CX := CX0) (E := fun _ _ _ => False) S hr.hd e0 hl rv ic
  refine wpAny_mono ((PSs.nox ht).run [] s1 (start N vs) H _ J hq) ?_ fun _ _ z => z
  intro fl s2 hs
  have done : ∀ {σ' : List (Option V)} {H' : Hp} {v : V} {u : Value}, L2.Inv (cxOf CX0 P w K mg base N qual scope f cdv A outer s H fun _ _ _ => False) [] σ' H' s2 → RelV v u → Q v H' →
      CE outer P w H s Q u s2 := by
    intro σ' H' v u I' r q
    exact ⟨v, H', I'.os, I'.bare, I'.base, I'.hok, r, q⟩
  cases fl with
  | next =>
    obtain ⟨_, _, I', q⟩ := hs
    exact done (v := .non) (u := Value.none) I' rfl q
  | ret u =>
    obtain ⟨_, _, _, I', r, q⟩ := hs
    exact done I' r q
  | brk => obtain ⟨_, _, _, q⟩ := hs; exact q.elim
  | cont => obtain ⟨_, _, _, q⟩ := hs; exact q.elim
section
variable {X : Cx} {k : Nat} {f : Addr} {x : Str} {p pos : Pos} {e : Expr} {es : List Expr} {t : TA} {sp : List V → Hp → VK → Prop}
theorem runG {pins : List (Addr × Obj)} {σ : List (Option V)} {H : Hp} {s : Shared} {Q : VK} {us : List Value} {vs : List V} (F : FnG X.prog X.w X.K X.mg X.base k f sp) (hr : Room k X.A) (hg : X.A.guards = some [])
    (I : L2.Inv X pins σ H s) (r : Vals vs us) (h : sp vs H Q) : wpAny (model X.prog X.w) X.A (call (.ref f) us) (EP X pins σ Q) X.xe s := by
  refine wpAny_call (codeAny_mono (F.run X.A X.stack s H us vs Q hr hg I.env0 r h) ?_)
  intro res s' hq
  cases res with
  | error e => exact (show False from hq).elim
  | ok fl =>
    cases fl with
    | ret u => exact I.after hq
    | next => exact (show False from hq).elim
    | brk => exact (show False from hq).elim
    | cont => exact (show False from hq).elim
def tCallG (sp : List V → Hp → VK → Prop) (t : TA) : TE := fun σ H Q => t σ H fun vs H1 => sp vs H1 Q
theorem pe_callG (F : FnG X.prog X.w X.K X.mg X.base k f sp) (hr : Room k X.A) (hgd : X.A.guards = some []) (hg : Gl X x) (hm : X.mg x = some (.ref f)) (hk : PySem.W.keepIn X.K (.ref f) = true) (ha : PA X (e :: es) t)
    (hdb : (x == ("__debug__" : Str)) = false) (he : starEach (e :: es) X.env = (false, eval e X.env) :: starEach es X.env) (hpl : (backTo pos (starEach es X.env)).any (·.1) = false) :
    PE X (.Call (.Name x p) (e :: es) [] pos) (tCallG sp t) := by
  refine ⟨fun pins s σ H Q I h => ?_⟩
  refine wpAny_Call_Name_kw (ld_glob I hg hm ?_ hdb)
  refine PySem.W.callWith_K (h₀ := X.base) I.ok.mod.kin hk (thn (ha.run pos pins s σ H _ I h) ?_) he hpl
  rintro us s1 ⟨vs, H1, I1, r, q⟩
  exact ⟨I1.kIn, runG F hr hgd I1 r q⟩
end
end PL
end
section
set_option Elab.async false
set_option linter.all false
set_option maxRecDepth 100000
set_option maxHeartbeats 1000000
/-! PL6: the check that a term of the little language is an expression of the text (trE); what is known where one stands (At). -/
namespace PL
open L2 PyProof.Rows PySem.Spec PySem
/-- a scope, and the block's own one within a comprehension -/
structure Sc where
  sc : Scope
  bs : Option Scope
def Sc.fn (c : Sc) (x : Str) : Bool := match c.bs with | none => true | some b => b.names.lookup x == some .cell
def isVis (c : Sc) (x : Str) : Bool := match c.sc.names.lookup x with | some .local => true | some .cell => true | some .free => true | _ => false
def isLoc (c : Sc) (x : Str) : Bool := match c.sc.names.lookup x with | some .local => true | some .cell => c.fn x | _ => false
def isGl (c : Sc) (x : Str) : Bool := match c.sc.names.lookup x with | some .globalImplicit => true | _ => false
def plainNm (x : Str) : Bool := !(x == ("__debug__" : Str)) && !(x == ("__classdict__" : Str)) && !(x == ("__name__" : Str))
def noStar : Expr → Bool | .Starred _ _ => false | _ => true
def noStars : List Expr → Bool | [] => true | e :: r => noStar e && noStars r
def notSlice : Expr → Bool | .Slice _ _ _ _ => false | _ => true
def notSet : Expr → Bool | .Set _ _ _ => false | _ => true
def bfName : BF → String
  | .len => "len" | .abs => "abs" | .int => "int" | .str => "str" | .repr => "repr" | .min => "min" | .max => "max" | .sum => "sum" | .any => "any" | .all => "all" | .sorted => "sorted" | .list => "list" | .tuple => "tuple" | .dict => "dict" | .bool => "bool" | .lenset => "" | .sortedset => ""
def okFn : BF → Bool | .dict => false | .sortedset => false | .bool => false | .lenset => false | _ => true
/-- what is known of the text: the def's names, the defs by number, the ints that stand at the top, the built-in names that nobody stores -/
structure Tx where
  T : Tab
  cons : List String
  free : List String
section
variable (Y : Tx) (N : List Str)
def nmOk (c : Sc) (i : Nat) (x : Str) : Bool := N[i]? == some x && isVis c x && plainNm x
def freeOk (c : Sc) (x : Str) (n : String) : Bool := decide (x = (n : Str)) && decide (n ∈ Y.free) && isGl c x && plainNm x
def isInt (j : Int) : Expr → Bool
  | .Constant (.int n) _ _ => decide (j = n)
  | _ => false
def trCut (c : Sc) (i : Nat) : E → E → E → Expr → Bool
  | .int j, .cons (.idxS i2 (.int m)) .nil, .nil, .Subscript (.Subscript (.Name x _) y _) (.Slice (some (.Subscript (.Name z _) u _)) none none _) _ => isInt j y && isInt m u && nmOk N c i x && nmOk N c i2 z
  | _, _, _, _ => false
mutual
def trG (c : Sc) : Tg → Expr → Bool
  | .nm i, .Name x _ => N[i]? == some x && isLoc c x
  | .tup ts, .Tuple es _ _ => trGs c ts es && noStars es
  | _, _ => false
def trGs (c : Sc) : Tg → List Expr → Bool
  | .nil, [] => true
  | .cons a r, e :: es => trG c a e && trGs c r es
  | _, _ => false
end
def tgVars : Tg → List Nat
  | .nm i => [i]
  | .nil => []
  | .cons a r => tgVars a ++ tgVars r
  | .tup ts => tgVars ts
def ownOf (vs : List Nat) : List (Str × Nat) := vs.filterMap fun i => (N[i]?).map fun x => (x, i)
/-- into the block of a comprehension -/
def Sc.blk (c : Sc) (scope : Scope) : Sc := ⟨relS scope c.sc, some scope⟩
def blkOk (c : Sc) (scope : Scope) (vs : List Nat) : Bool := blkC N c.sc scope (ownOf N vs) && decide ((ownOf N vs).map (·.2) = vs)
mutual
def trE (c : Sc) : E → Expr → Bool
  | .slot i, .Name x _ => nmOk N c i x
  | .int n, .Constant (.int m) _ _ => decide (n = m)
  | .bool b, .Constant (.bool b') _ _ => b == b'
  | .none, .Constant .none _ _ => true
  | .str s, .Constant (.str x) _ _ => decide ((s : Str) = x)
  | .con j, .Name x _ => isGl c x && plainNm x && (match Y.cons[j]? with | some n => decide ((n : Str) = x) | none => false)
  | .tup es, .Tuple l _ _ => trL c es l
  | .lst _ es, .List l _ => trL c es l
  | .bin op a b, .BinOp l o r _ => decide (opOf op = o) && trE c a l && trE c b r
  | .neg a, .UnaryOp .USub x _ => trE c a x
  | .not a, .UnaryOp .Not x _ => trE c a x
  | .and a b, .BoolOp .And (x :: y :: r) p => trE c a x && (match r with | [] => trE c b y | z :: r' => trE c b (.BoolOp .And (y :: z :: r') p))
  | .or a b, .BoolOp .Or (x :: y :: r) p => trE c a x && (match r with | [] => trE c b y | z :: r' => trE c b (.BoolOp .Or (y :: z :: r') p))
  | .cmp op a b, .Compare l [o] [r] _ => decide (copOf op = o) && notSet r && trE c a l && trE c b r
  | .cmpS op a i, .Compare l [o] [.Name x _] _ => decide (copOf op = o) && trE c a l && nmOk N c i x
  | .cmpSl op i b, .Compare (.Name x _) [o] [r] _ => decide (copOf op = o) && notSet r && nmOk N c i x && trE c b r
  | .chain o1 o2 a b d, .Compare l [p, q] [m, r] _ => decide (copOf o1 = p) && decide (copOf o2 = q) && notSet m && notSet r && trE c a l && trE c b m && trE c d r
  | .ite d a b, .IfExp t x y _ => trE c d t && trE c a x && trE c b y
  | .idx a b, .Subscript x y _ => notSlice y && trE c a x && trE c b y
  | .idxS i b, .Subscript (.Name x _) y _ => notSlice y && nmOk N c i x && trE c b y
  | .slc a lo hi, .Subscript x (.Slice l h none _) _ => trE c a x && trO c lo l && trO c hi h
  | .slcS i lo hi, .Subscript (.Name x _) (.Slice l h none _) _ => nmOk N c i x && trO c lo l && trO c hi h
  | .slc2S i b lo hi, ex => trCut N c i b lo hi ex
  | .rev a, .Subscript x (.Slice none none (some (.UnaryOp .USub (.Constant (.int 1) _ _) _)) _) _ => trE c a x
  | .revS i, .Subscript (.Name x _) (.Slice none none (some (.UnaryOp .USub (.Constant (.int 1) _ _) _)) _) _ => nmOk N c i x
  | .dead, _ => true
  | .isT [t] a, .Call (.Name x _) [e, .Name y _] [] _ => freeOk Y c x "isinstance" && freeOk Y c y (tyName t) && noStar e && trE c a e
  | .dnil, .Dict [] [] _ => true
  | .dsp a b, .Dict [some x] [y] _ => trE c a x && trE c b y
  | .lset a, .Call (.Name x _) [.Call (.Name y _) [e] [] _] [] _ => freeOk Y c x "len" && freeOk Y c y "set" && noStar e && trE c a e
  | .fn f es, .Call (.Name x _) (l :: ls) [] _ => okFn f && freeOk Y c x (bfName f) && noStars (l :: ls) && trL c es (l :: ls)
  | .fnS f i, .Call (.Name x _) [.Name y _] [] _ => okFn f && freeOk Y c x (bfName f) && nmOk N c i y
  | .call f es, .Call (.Name x _) (l :: ls) [] _ => isGl c x && plainNm x && noStars (l :: ls) && (match Y.T.fns[f]? with | some d => decide ((d.name : Str) = x) | none => false) && trA c es (l :: ls)
  | .lc _ elt tg it ifs vs, .ListComp x [⟨t, i, fs, 0⟩] scope _ => blkOk N c scope vs && (tgVars tg).all (fun v => decide (v ∈ vs)) && trI c it i t && trG N (c.blk scope) tg t && trF (c.blk scope) ifs fs && trE (c.blk scope) elt x
  | _, _ => false
def trL (c : Sc) : E → List Expr → Bool
  | .nil, [] => true
  | .cons a r, e :: es => noStar e && trE c a e && trL c r es
  | _, _ => false
def trO (c : Sc) : E → Option Expr → Bool
  | .nil, none => true
  | .cons a .nil, some e => trE c a e
  | _, _ => false
def trA (c : Sc) : E → List Expr → Bool
  | .nil, [] => true
  | .cons (.bor i) r, .Name x _ :: es => nmOk N c i x && trA c r es
  | .cons (.lend i) r, .Name x _ :: es => nmOk N c i x && trA c r es
  | .cons a r, e :: es => noStar e && trE c a e && trA c r es
  | _, _ => false
def trF (c : Sc) : E → List Expr → Bool
  | .nil, [] => true
  | .cons a .nil, [e] => trE c a e
  | _, _ => false
def trI (c : Sc) : E → Expr → Expr → Bool
  | .itv a, e, _ => notSet e && trE c a e
  | .its i, .Name x _, _ => nmOk N c i x
  | .rng a, .Call (.Name x _) [e] [] _, _ => freeOk Y c x "range" && noStar e && trE c a e
  | .rng2 a b, .Call (.Name x _) [e, e2] [] _, _ => freeOk Y c x "range" && noStar e && noStar e2 && trE c a e && trE c b e2
  | .enm a, .Call (.Name x _) [e] [] _, .Tuple _ _ _ => freeOk Y c x "enumerate" && noStar e && trE c a e
  | .enmS i, .Call (.Name x _) [.Name y _] [] _, .Tuple _ _ _ => freeOk Y c x "enumerate" && nmOk N c i y
  | .zp a b, .Call (.Name x _) [e, e2] [] _, .Tuple _ _ _ => freeOk Y c x "zip" && noStar e && noStar e2 && trE c a e && trE c b e2
  | _, _, _ => false
end
end
/-! ### where one stands -/
abbrev SpG := List V → Hp → VK → Prop
/-- values passed, with what they are: lent ones (level above 0) owned -/
def ArgsR (w : World) (F H : Hp) : List Nat → List V → List PyData → List Addr → Prop
  | [], [], [], fp => fp = []
  | l :: ls, v :: vs, d :: ds, fp => ∃ f g, Ow w F H l v d f ∧ ArgsR w F H ls vs ds g ∧ fp = f ++ g
  | _, _, _, _ => False
/-- what has become of the lent ones -/
def OutsR (w : World) (F H : Hp) : List Nat → List V → List PyData → List Addr → Prop
  | [], [], [], fp => fp = []
  | 0 :: ls, _ :: vs, ds, fp => OutsR w F H ls vs ds fp
  | (l + 1) :: ls, v :: vs, d :: ds, fp => ∃ f g, Ow w F H (l + 1) v d f ∧ OutsR w F H ls vs ds g ∧ fp = f ++ g
  | _, _, _, _ => False
/-- the promise of def f at level k -/
def spF (w : World) (T : Tab) (k f : Nat) : SpG := fun vs H Q => ∃ (B : List Addr) (ds : List PyData) (L : List Addr) (q : KF),
  (∀ b ∈ B, H b ≠ none) ∧ L.Nodup ∧ (∀ a ∈ L, a ∉ B) ∧ vs.length = (sigOf T f).length ∧ ArgsR w (hide (B ++ L) H) H (sigOf T f) vs ds L ∧ wpF T k f ds q noX ∧
  ∀ d n os v H' fp L', q d n os → (∀ a o, H a = some o → a ∉ L → H' a = some o) → (fp ++ L').Nodup → (∀ a ∈ fp ++ L', a ∉ B ∧ (a ∈ L ∨ H a = none)) →
    Ow w (hide (B ++ (fp ++ L')) H') H' n v d fp → OutsR w (hide (B ++ (fp ++ L')) H') H' (sigOf T f) vs os L' → Q v H'
structure FnHere (P : Program) (w : World) (K : Fg) (mg : Str → Option Value) (base : Heap) (T : Tab) (k : Nat) (f : Nat) (d : FnI) : Prop where
  ex : ∃ a, mg (d.name : Str) = some (.ref a) ∧ PySem.W.keepIn K (.ref a) = true ∧ FnG P w K mg base k a (spF w T k f)
/-- a def's body or a block, nothing raised leaving it, level k -/
structure At (Y : Tx) (N : List Str) (c : Sc) (k : Nat) (X : Cx) : Prop where
  names : X.N = N
  nd : N.Nodup
  scope : X.env.scope = c.sc
  fn : X.fn = c.fn
  calm : X.calm = true
  room : Room k X.A
  gd : X.A.guards = some []
  xe : X.xe = fun _ _ => False
  cons : ∀ (j : Nat) (n : String) (i : Int), Y.cons[j]? = some n → Y.T.cons[j]? = some i → ∃ t, X.mg (n : Str) = some (.int i t)
  free : ∀ n ∈ Y.free, X.mg (n : Str) = none
  fns : ∀ (f : Nat) (d : FnI), Y.T.fns[f]? = some d → FnHere X.prog X.w X.K X.mg X.base Y.T k f d
end PL
end
section
set_option Elab.async false
set_option linter.all false
set_option maxRecDepth 100000
set_option maxHeartbeats 1000000
/-! PL7: states (Sta), readings of the little language (tE ..), what temporaries give. -/
namespace PL
open L2 PyProof.Rows PySem.Spec PySem
def zs (σ : List (Option V)) (ρ : Env) : List Item := List.zip σ ρ
def Pins (c : Fr) (σ : List (Option V)) (ρ : Env) : Prop := ∀ p ∈ c.pins, σ[p.1]? = some (some p.2) ∧ ∃ s, ρ[p.1]? = some (some s) ∧ s.prot = true
structure Sta (w : World) (c : Fr) (σ : List (Option V)) (ρ : Env) (τ : List Item) (H : Hp) : Prop where
  fits : Fits w c (zs σ ρ ++ τ) H
  len : ρ.length = σ.length
  pins : Pins c σ ρ
/-- .. with its footprint -/
structure StaO (w : World) (c : Fr) (σ : List (Option V)) (ρ : Env) (τ : List Item) (H : Hp) (O : List Addr) : Prop where
  fits : FitsO w c (zs σ ρ ++ τ) H O
  len : ρ.length = σ.length
  pins : Pins c σ ρ
def tm : List V → List (PyData × Nat) → List Item
  | v :: vs, p :: ps => (some v, val p.1 p.2) :: tm vs ps
  | _, _ => []
abbrev t1 (v : V) (d : PyData) (n : Nat) : List Item := [(some v, val d n)]
section
variable {w : World} {c : Fr} {σ : List (Option V)} {ρ ρ' : Env} {τ : List Item} {H H' F F' : Hp} {O : List Addr}
theorem Sta.grow (h : Sta w c σ ρ τ H) (s : Sub H H') : Sta w c σ ρ τ H' := ⟨h.fits.grow s, h.len, h.pins⟩
theorem StaO.grow (h : StaO w c σ ρ τ H O) (s : Sub H H') : StaO w c σ ρ τ H' O := ⟨h.fits.grow s, h.len, h.pins⟩
theorem StaO.sta (h : StaO w c σ ρ τ H O) : Sta w c σ ρ τ H := ⟨⟨O, h.fits⟩, h.len, h.pins⟩
theorem Sta.drop {υ : List Item} (h : Sta w c σ ρ (τ ++ υ) H) : Sta w c σ ρ τ H :=
  ⟨Fits.drop (M := υ) (by rw [List.append_assoc]; exact h.fits), h.len, h.pins⟩
theorem StaO.push {v : V} {d : PyData} {n : Nat} (h : StaO w c σ ρ τ H O) (o : Out w (hide (c.B ++ O) H) H v d n H') : Sta w c σ ρ (τ ++ t1 v d n) H' := by
  have := h.fits.push o
  rw [List.append_assoc] at this
  exact ⟨this, h.len, h.pins⟩
theorem ItsR.fzs (s : Sub F F') : ∀ {vs : List V} {ps : List (PyData × Nat)} {g : List Addr}, ItsR w F H (tm vs ps) g → vs.length = ps.length → (∀ a ∈ g, ∀ o, H a = some o → F' a = some o) → FzAll w F' vs (ps.map (·.1))
  | [], [], _, _, _, _ => trivial
  | v :: vs, p :: ps, _, ⟨f, g, h1, h2, e⟩, hl, k => by
    subst e
    exact ⟨Ow.fz s _ _ _ _ h1 fun a ha => k a (List.mem_append_left _ ha), ItsR.fzs s h2 (by simpa using hl) fun a ha => k a (List.mem_append_right _ ha)⟩
  | [], _ :: _, _, _, hl, _ => by simp at hl
  | _ :: _, [], _, _, hl, _ => by simp at hl
/-- the temporaries let go, their data frozen within what is left -/
theorem Sta.take {vs : List V} {ps : List (PyData × Nat)} (h : Sta w c σ ρ (τ ++ tm vs ps) H) (hl : vs.length = ps.length) :
    ∃ O, StaO w c σ ρ τ H O ∧ FzAll w (hide (c.B ++ O) H) vs (ps.map (·.1)) := by
  obtain ⟨⟨O, q⟩, h2, h3⟩ := h
  rw [← List.append_assoc] at q
  obtain ⟨f, g, i1, i2, e⟩ := q.its.unappend
  subst e
  refine ⟨f, ⟨q.left i1, h2, h3⟩, i2.fzs (hide_sub Sub.refl fun a ha hn => absurd ?_ hn) hl fun a ha o e => hide_some.mpr ⟨fun z => ?_, e⟩⟩
  · rw [List.mem_append, List.mem_append]
    rcases List.mem_append.mp ha with z | z
    · exact .inl z
    · exact .inr (.inl z)
  · rcases List.mem_append.mp z with z | z
    · exact q.dis a (List.mem_append_right _ ha) z
    · exact nodup_dis q.nd z ha
theorem Sta.take1 {v : V} {d : PyData} {n : Nat} (h : Sta w c σ ρ (τ ++ t1 v d n) H) : ∃ O, StaO w c σ ρ τ H O ∧ Fz w (hide (c.B ++ O) H) v d := by
  obtain ⟨O, q, r⟩ := Sta.take (vs := [v]) (ps := [(d, n)]) h rfl
  exact ⟨O, q, r.1⟩
theorem Sta.take2 {v u : V} {d e : PyData} {n m : Nat} (h : Sta w c σ ρ (τ ++ t1 v d n ++ t1 u e m) H) : ∃ O, StaO w c σ ρ τ H O ∧ Fz w (hide (c.B ++ O) H) v d ∧ Fz w (hide (c.B ++ O) H) u e := by
  rw [List.append_assoc] at h
  obtain ⟨O, q, r⟩ := Sta.take (vs := [v, u]) (ps := [(d, n), (e, m)]) h rfl
  exact ⟨O, q, r.1, r.2.1⟩
theorem Sta.take3 {v u x : V} {d e f : PyData} {n m l : Nat} (h : Sta w c σ ρ (τ ++ t1 v d n ++ t1 u e m ++ t1 x f l) H) :
    ∃ O, StaO w c σ ρ τ H O ∧ Fz w (hide (c.B ++ O) H) v d ∧ Fz w (hide (c.B ++ O) H) u e ∧ Fz w (hide (c.B ++ O) H) x f := by
  rw [List.append_assoc, List.append_assoc] at h
  obtain ⟨O, q, r⟩ := Sta.take (vs := [v, u, x]) (ps := [(d, n), (e, m), (f, l)]) h rfl
  exact ⟨O, q, r.1, r.2.1, r.2.2.1⟩
theorem StaO.sub (h : StaO w c σ ρ τ H O) : Sub (hide (c.B ++ O) H) H := sub_hide
/-- an atom put behind -/
theorem Sta.atom {v : V} {d : PyData} (h : Sta w c σ ρ τ H) (hd : ∀ F, Fz w F v d) : Sta w c σ ρ (τ ++ t1 v d 0) H := by
  obtain ⟨⟨O, q⟩, h2, h3⟩ := h
  exact StaO.push ⟨q, h2, h3⟩ (Out.fz (hd _) sub_hide)
theorem zs_get {i : Nat} {v : Option V} {s : Option Slot} (h1 : σ[i]? = some v) (h2 : ρ[i]? = some s) : (zs σ ρ)[i]? = some (v, s) := by
  unfold zs
  rw [List.getElem?_zip_eq_some]
  exact ⟨h1, h2⟩
theorem zs_len (hl : ρ.length = σ.length) : (zs σ ρ).length = σ.length := by unfold zs; rw [List.length_zip, hl]; simp
theorem ItsR.get : ∀ {L : List Item} {O : List Addr} {i : Nat} {it : Item}, ItsR w F H L O → L[i]? = some it → ∃ f, ItR w F H it f ∧ ∀ a ∈ f, a ∈ O
  | [], _, _, _, _, e => by simp at e
  | it :: r, _, 0, _, ⟨f, g, h1, h2, e'⟩, e => by
    simp at e; subst e; subst e'
    exact ⟨f, h1, fun a ha => List.mem_append_left _ ha⟩
  | it :: r, _, i + 1, _, ⟨f, g, h1, h2, e'⟩, e => by
    subst e'
    obtain ⟨f', q, k⟩ := ItsR.get (i := i) h2 (by simpa using e)
    exact ⟨f', q, fun a ha => List.mem_append_right _ (k a ha)⟩
/-- a slot that holds something: its value -/
theorem Sta.slot (h : Sta w c σ ρ τ H) {i : Nat} {s : Slot} (e : ρ[i]? = some (some s)) : ∃ v, σ[i]? = some (some v) ∧ ∃ O f, StaO w c σ ρ τ H O ∧ Ow w (hide (c.B ++ O) H) H s.n v s.d f ∧ ∀ a ∈ f, a ∈ O := by
  obtain ⟨⟨O, q⟩, h2, h3⟩ := h
  have hi : i < σ.length := by rw [← h2]; exact (List.getElem?_eq_some_iff.mp e).1
  have e2 : σ[i]? = some σ[i] := List.getElem?_eq_getElem hi
  have e3 : (zs σ ρ ++ τ)[i]? = some (σ[i], some s) := by
    rw [List.getElem?_append_left (by rw [zs_len h2]; exact hi)]
    exact zs_get e2 e
  obtain ⟨f, r, k⟩ := q.its.get e3
  cases hv : σ[i] with
  | none => rw [hv] at r; exact r.elim
  | some v => rw [hv] at r e2; exact ⟨v, e2, O, f, ⟨q, h2, h3⟩, r, k⟩
theorem ow_atom : ∀ {n : Nat} {v : V} {d : PyData} {f : List Addr}, Ow w F H n v d f → n = 0 ∨ isCont d = false → Fz w F v d
  | 0, _, _, _, h, _ => h.1
  | n + 1, v, d, f, h, k => by
    have k : isCont d = false := k.resolve_left (by omega)
    cases d with
    | list => cases k
    | dict => cases k
    | none => exact h.1
    | bool => exact h.1
    | int => exact h.1
    | str => exact h.1
    | tuple => exact h.1
end
section
variable (G : Ctx) (w : World)
def tE (e : E) : TE := fun σ H Q => ∃ (c : Fr) (τ : List Item) (ρ : Env) (k : KE), Sta w c σ ρ τ H ∧ wpE G e ρ k ∧ ∀ d n ρ' v H', k d n ρ' → Sta w c σ ρ' (τ ++ t1 v d n) H' → Q v H'
def tT (e : E) : TT := fun σ H Q => ∃ (c : Fr) (τ : List Item) (ρ : Env) (k : Bool → Env → Prop), Sta w c σ ρ τ H ∧ wpT G e ρ k ∧ ∀ b ρ' H', k b ρ' → Sta w c σ ρ' τ H' → Q b H'
def tL (e : E) : TA := fun σ H Q => ∃ (c : Fr) (τ : List Item) (ρ : Env) (k : List (PyData × Nat) → Env → Prop), Sta w c σ ρ τ H ∧ wpL G e ρ k ∧
  ∀ ps ρ' vs H', k ps ρ' → vs.length = ps.length → Sta w c σ ρ' (τ ++ tm vs ps) H' → Q vs H'
def tO (e : E) : TO := fun σ H Q => ∃ (c : Fr) (τ : List Item) (ρ : Env) (k : Option Int → Env → Prop), Sta w c σ ρ τ H ∧ wpO G e ρ k ∧ ∀ o ρ' H', k o ρ' → Sta w c σ ρ' τ H' → Q o H'
end
theorem _root_.L2.PE.imp {X : Cx} {e : Expr} {t t' : TE} (h : PE X e t) (k : ∀ σ H Q, t' σ H Q → t σ H Q) : PE X e t' := ⟨fun pins s σ H Q I q => h.run pins s σ H Q I (k σ H Q q)⟩
theorem _root_.L2.PT.imp {X : Cx} {e : Expr} {t t' : TT} (h : PT X e t) (k : ∀ σ H Q, t' σ H Q → t σ H Q) : PT X e t' := ⟨fun pins s σ H Q I q => h.run pins s σ H Q I (k σ H Q q)⟩
theorem _root_.L2.PW.imp {X : Cx} {e : Expr} {t t' : TT} (h : PW X e t) (k : ∀ σ H Q, t' σ H Q → t σ H Q) : PW X e t' := ⟨fun wh pins s σ H Q I q => h.run wh pins s σ H Q I (k σ H Q q)⟩
theorem _root_.L2.PA.imp {X : Cx} {e : List Expr} {t t' : TA} (h : PA X e t) (k : ∀ σ H Q, t' σ H Q → t σ H Q) : PA X e t' := ⟨fun pos pins s σ H Q I q => h.run pos pins s σ H Q I (k σ H Q q)⟩
theorem _root_.L2.PO.imp {X : Cx} {e : Option Expr} {t t' : TO} (h : PO X e t) (k : ∀ σ H Q, t' σ H Q → t σ H Q) : PO X e t' := ⟨fun pins s σ H Q I q => h.run pins s σ H Q I (k σ H Q q)⟩
theorem _root_.L2.PI.imp {X : Cx} {tg e : Expr} {t t' : TI} (h : PI X tg e t) (k : ∀ σ H R, t' σ H R → t σ H R) : PI X tg e t' := ⟨fun pins s σ H R I q => h.run pins s σ H R I (k σ H R q)⟩
theorem _root_.L2.PS.imp {X : Cx} {e : Stmt} {t t' : TS} (h : PS X e t) (k : ∀ D σ H, t' D σ H → t D σ H) : PS X e t' := ⟨fun pins s σ H D I q => h.run pins s σ H D I (k D σ H q)⟩
theorem _root_.L2.PSs.imp {X : Cx} {e : List Stmt} {t t' : TS} (h : PSs X e t) (k : ∀ D σ H, t' D σ H → t D σ H) : PSs X e t' := ⟨fun pins s σ H D I q => h.run pins s σ H D I (k D σ H q)⟩
theorem _root_.L2.PG.imp {X : Cx} {e : Expr} {t t' : TG} (h : PG X e t) (k : ∀ v σ H Q, t' v σ H Q → t v σ H Q) : PG X e t' := ⟨fun pins s σ H v u Q I r q => h.run pins s σ H v u Q I r (k v σ H Q q)⟩
/-! ### side conditions, by the check -/
theorem starEach_of {e : Expr} (h : noStar e = true) (es : List Expr) (env : PySem.Env) : starEach (e :: es) env = (false, eval e env) :: starEach es env := by
  cases e <;> first | rfl | exact absurd h Bool.false_ne_true
theorem noStars_cons {e : Expr} {es : List Expr} (h : noStars (e :: es) = true) : noStar e = true ∧ noStars es = true := by
  unfold noStars at h; simpa using h
theorem back_plain (pos : Pos) (env : PySem.Env) : ∀ {es : List Expr}, noStars es = true → (backTo pos (starEach es env)).any (·.1) = false
  | [], _ => rfl
  | e :: es, h => by
    obtain ⟨h1, h2⟩ := noStars_cons h
    rw [starEach_of h1]
    have := back_plain pos env h2
    show (false || (backTo pos (starEach es env)).any (·.1)) = false
    rw [this]; rfl
theorem plainIx_of {b : Expr} (h : notSlice b = true) : PlainIx b := fun _ _ => by cases b <;> first | rfl | exact absurd h Bool.false_ne_true
theorem noMark_of {b : Expr} (h : notSet b = true) (op : CmpOp) : behindInMarks op b = false := by cases b <;> first | rfl | exact absurd h Bool.false_ne_true
theorem unfolded_of {e : Expr} (h : notSet e = true) (env : PySem.Env) : ∀ x, foldedSetIterable e env x = pure x := fun x => by cases e <;> first | rfl | exact absurd h Bool.false_ne_true
theorem vis_of {c : Sc} {x : Str} (h : isVis c x = true) : Vis c.sc x := by
  unfold isVis at h
  unfold Vis
  split at h <;> first | (rename_i q; simp [q]) | exact absurd h Bool.false_ne_true
theorem gl_of {Y : Tx} {N : List Str} {c : Sc} {k : Nat} {X : Cx} (A : At Y N c k X) {x : Str} (h : isGl c x = true) : Gl X x := by
  unfold isGl at h
  show X.env.scope.names.lookup x = some .globalImplicit
  rw [A.scope]
  split at h <;> first | assumption | exact absurd h Bool.false_ne_true
theorem plain_of {x : Str} (h : plainNm x = true) : (x == ("__debug__" : Str)) = false ∧ (x == ("__classdict__" : Str)) = false ∧ x ≠ "__name__" := by
  unfold plainNm at h
  simp only [Bool.and_eq_true, Bool.not_eq_true'] at h
  exact ⟨h.1.1, h.1.2, by simpa using h.2⟩
theorem nm_of {N : List Str} {c : Sc} {i : Nat} {x : Str} (h : nmOk N c i x = true) : N[i]? = some x ∧ isVis c x = true ∧ plainNm x = true := by
  unfold nmOk at h
  simp only [Bool.and_eq_true] at h
  exact ⟨by simpa using h.1.1, h.1.2, h.2⟩
theorem pe_slot {Y : Tx} {N : List Str} {c : Sc} {k : Nat} {X : Cx} (A : At Y N c k X) {i : Nat} {x : Str} (h : nmOk N c i x = true) (pos : Pos) : PE X (.Name x pos) (tVar i) := by
  obtain ⟨h1, h2, h3⟩ := nm_of h
  obtain ⟨p1, p2, _⟩ := plain_of h3
  exact pe_var (by rw [A.names]; exact h1) (by rw [A.scope]; exact vis_of h2) p1 p2
end PL
end
section
set_option Elab.async false
set_option linter.all false
set_option maxRecDepth 100000
set_option maxHeartbeats 1000000
/-! PLX5: data shown, dicts among them (of a dict it is known that it is not that of the modules). -/
namespace PL
open L2 PyProof.Rows PySem.Spec PySem
section
variable {X : Cx} {pins : List (Addr × Obj)} {σ : List (Option V)} {H F : Hp} {s : Shared}
/-- how u is shown, within a text and by itself -/
def ShowD (X : Cx) (h : Heap) (d : PyData) (u : Value) : Prop := ∃ bs, ReadAtMost h d.depth bs ∧ ReprK X.prog X.w bs h d.depth u d.shown ∧ ∀ a, u = .ref a → ∃ T idr, ShowsBy X.prog X.w h a d T idr
theorem shows_atom {h : Heap} {d : PyData} {u : Value} (e : ∀ a, u ≠ .ref a) (r : ReprIs X.prog X.w u d.shown) : ShowD X h d u := ⟨[], fun _ z => (by cases z), .of_is r _ _ _, fun a z => absurd z (e a)⟩
theorem ram_app {h : Heap} {n : Nat} {bs cs : List Addr} (p : ReadAtMost h n bs) (q : ReadAtMost h n cs) : ReadAtMost h n (bs ++ cs) := fun b z => (List.mem_append.mp z).elim (p b) (q b)
theorem shownKv_len {kvs : List (PyData × PyData)} (hz : (dictText (PyData.shownKv kvs)).length ≤ sizeLine) : (∀ t ∈ PyData.shownAll (kvs.map (·.1)), t.length ≤ sizeLine) ∧ ∀ t ∈ PyData.shownAll (kvs.map (·.2)), t.length ≤ sizeLine := by
  constructor
  · intro t ht
    obtain ⟨p, hp, hl⟩ := PyData.shownKv_key_le kvs t ht
    have := dictText_mem_le hp
    omega
  · intro t ht
    obtain ⟨p, hp, hl⟩ := PyData.shownKv_val_le kvs t ht
    have := dictText_mem_le hp
    omega
mutual
theorem Fz.shows (I : L2.Inv X pins σ H s) (sb : Sub F H) : ∀ (d : PyData) (v : V) (u : Value), Fz X.w F v d → RelV v u → d.showable = true → d.shown.length ≤ sizeLine → ShowD X s.heap d u
  | .none, v, u, h, r, _, _ => by cases (show v = _ from h); cases r; exact shows_atom (fun _ => nofun) (by simp only [PyData.shown]; exact ReprIs.none)
  | .bool b, v, u, h, r, _, _ => by cases (show v = _ from h); cases r; exact shows_atom (fun _ => nofun) (by simp only [PyData.shown]; exact ReprIs.bool b)
  | .int i, v, u, h, r, w1, _ => by cases (show v = _ from h); obtain ⟨t, rfl⟩ := r; exact shows_atom (fun _ => nofun) (by simp only [PyData.shown]; exact ReprIs.int t (by simpa [PyData.showable] using w1))
  | .str x, v, u, h, r, _, w2 => by cases (show v = _ from h); obtain ⟨t, rfl⟩ := r; exact shows_atom (fun _ => nofun) (by simp only [PyData.shown]; exact ReprIs.str x t (by simpa only [PyData.shown] using w2))
  | .tuple ds, v, u, h, r, w1, w2 => by
    obtain ⟨as, rd⟩ := Fz.reads I sb _ _ _ h r
    obtain ⟨a, xs, rfl, q, t⟩ := h
    cases r
    obtain ⟨its, rv, ⟨o, ho, hc, n, hd⟩, _⟩ := I.tuple (SqT.of (sb _ _ q))
    have w3 : (tupleText (PyData.shownAll ds)).length ≤ sizeLine := by simpa only [PyData.shown] using w2
    obtain ⟨bs, b1, b2⟩ := FzAll.shows I sb ds xs its t rv (by simpa [PyData.showable] using w1) fun t ht => Nat.le_trans (tupleText_mem_le ht) w3
    have b2 : ReprAllK X.prog X.w bs s.heap (PyData.depthAll ds) its.toArray.toList (PyData.shownAll ds) := by simpa using b2
    have no : a ∉ bs := not_mem_of_deeper rd (by simp only [PyData.depth]; omega) b1
    refine ⟨a :: bs, ReadAtMost.cons rd (by simp only [PyData.depth]; omega) b1, ?_, fun a' ea => ?_⟩
    · simp only [PyData.depth, PyData.shown]; exact ReprK.tuple ho hc hd no b2
    · cases ea
      refine ⟨_, _, PySem.F.slot_tuple_repr, PySem.F.slot_tuple_str, PySem.F.slot_tuple_format, fun s' k0 => ⟨o, k0 _ _ ho, hc⟩, fun A E s' Q' g0 u0 k0 q0 => ?_⟩
      simp only [PyData.depth] at u0; simp only [PyData.shown] at q0
      exact call_tuple_reprK ho hc hd no b2 g0 (fun b _ => Clear.nil b) u0 k0 q0 w3
  | .list ds, v, u, h, r, w1, w2 => by
    obtain ⟨as, rd⟩ := Fz.reads I sb _ _ _ h r
    obtain ⟨a, xs, rfl, q, t⟩ := h
    cases r
    obtain ⟨its, n, rv, ho, _⟩ := rd_list I sb q
    have w3 : (listText (PyData.shownAll ds)).length ≤ sizeLine := by simpa only [PyData.shown] using w2
    obtain ⟨bs, b1, b2⟩ := FzAll.shows I sb ds xs its t rv (by simpa [PyData.showable] using w1) fun t ht => Nat.le_trans (listText_mem_le ht) w3
    have no : a ∉ bs := not_mem_of_deeper rd (by simp only [PyData.depth]; omega) b1
    refine ⟨a :: bs, ReadAtMost.cons rd (by simp only [PyData.depth]; omega) b1, ?_, fun a' ea => ?_⟩
    · simp only [PyData.depth, PyData.shown]
      cases its with
      | nil =>
        cases rv
        cases ds with
        | cons => exact t.elim
        | nil => simp only [PyData.shownAll, listText_nil]; exact ReprK.listEmpty ho rfl rfl
      | cons y its => exact ReprK.list ho rfl rfl no (by simpa using b2.length_eq) fun i z e => b2.item i z (by simpa using e)
    · cases ea
      refine ⟨_, _, PySem.F.slot_list_repr.toG, PySem.F.slot_list_str, PySem.F.slot_list_format, fun s' k0 => ⟨_, k0 _ _ ho, rfl⟩, fun A E s' Q' g0 u0 k0 q0 => ?_⟩
      simp only [PyData.depth] at u0; simp only [PyData.shown] at q0
      cases its with
      | nil =>
        cases rv
        cases ds with
        | cons => exact t.elim
        | nil =>
        simp only [PyData.shownAll, listText_nil] at q0
        exact call_list_repr_empty ⟨_, k0 _ _ ho, rfl⟩ (k0 _ _ ho) rfl (q0 s'.heap _ _ fun _ _ e => e)
      | cons y its => exact call_list_reprK ho rfl rfl no (by simpa using b2.length_eq) (fun i z e => b2.item i z (by simpa using e)) g0 (fun b _ => Clear.nil b) u0 k0 q0 w3
  | .dict kvs, v, u, h, r, w1, w2 => by
    obtain ⟨as, rd⟩ := Fz.reads I sb _ _ _ h r
    obtain ⟨a, o, ks, vs, rfl, q, y, dr, t⟩ := h
    cases r
    have ho := rd_dict I (sb _ _ q)
    obtain ⟨es, ep, rfl, r1, r2, _⟩ := dr.ex
    have w3 : (dictText (PyData.shownKv kvs)).length ≤ sizeLine := by simpa only [PyData.shown] using w2
    obtain ⟨l1, l2⟩ := shownKv_len w3
    obtain ⟨bs, b1, b2, b3⟩ := FzKv.shows I sb kvs ks vs _ _ t r1 r2 (by simpa [PyData.showable] using w1) l1 l2
    have no : a ∉ bs := not_mem_of_deeper rd (by simp only [PyData.depth]; omega) b1
    have en := ReprEntriesK.of_two es.toList _ _ b2 b3
    refine ⟨a :: bs, ReadAtMost.cons rd (by simp only [PyData.depth]; omega) b1, ?_, fun a' ea => ?_⟩
    · simp only [PyData.depth, PyData.shown, PyData.shownKv_eq]; exact ReprK.dict ho rfl rfl y no en
    · cases ea
      refine ⟨_, _, PySem.F.slot_dict_repr, PySem.F.slot_dict_str, PySem.F.slot_dict_format, fun s' k0 => ⟨_, k0 _ _ ho, rfl⟩, fun A E s' Q' g0 u0 k0 q0 => ?_⟩
      simp only [PyData.depth] at u0; simp only [PyData.shown, PyData.shownKv_eq] at q0
      exact call_dict_reprK ho rfl rfl y no en g0 (fun b _ => Clear.nil b) u0 k0 q0 (by rw [← PyData.shownKv_eq]; exact w3)
theorem FzAll.shows (I : L2.Inv X pins σ H s) (sb : Sub F H) : ∀ (ds : List PyData) (vs : List V) (us : List Value), FzAll X.w F vs ds → Vals vs us → PyData.showableAll ds = true → (∀ t ∈ PyData.shownAll ds, t.length ≤ sizeLine) →
    ∃ bs, ReadAtMost s.heap (PyData.depthAll ds) bs ∧ ReprAllK X.prog X.w bs s.heap (PyData.depthAll ds) us (PyData.shownAll ds)
  | [], [], us, h, r, _, _ => by cases r; exact ⟨[], fun _ z => (by cases z), by simp only [PyData.shownAll]; exact .nil⟩
  | d :: ds, v :: vs, us, h, r, w1, w2 => by
    cases r with
    | cons r1 r2 =>
      simp only [PyData.showableAll, Bool.and_eq_true] at w1
      simp only [PyData.shownAll, List.mem_cons, forall_eq_or_imp] at w2
      obtain ⟨b1, p1, q1, _⟩ := Fz.shows I sb d _ _ h.1 r1 w1.1 w2.1
      obtain ⟨b2, p2, q2⟩ := FzAll.shows I sb ds _ _ h.2 r2 w1.2 w2.2
      simp only [PyData.depthAll, PyData.shownAll]
      exact ⟨b1 ++ b2, ram_app (p1.mono (Nat.le_max_left _ _)) (p2.mono (Nat.le_max_right _ _)), .cons ((q1.more fun b z => List.mem_append_left _ z).level_le (Nat.le_max_left _ _)) (q2.more_le (fun b z => List.mem_append_right _ z) (Nat.le_max_right _ _))⟩
  | [], _ :: _, _, h, _, _, _ => h.elim
  | _ :: _, [], _, h, _, _, _ => h.elim
theorem FzKv.shows (I : L2.Inv X pins σ H s) (sb : Sub F H) : ∀ (kvs : List (PyData × PyData)) (ks vs : List V) (us ws : List Value), FzKv X.w F ks vs kvs → Vals ks us → Vals vs ws → PyData.showableKv kvs = true → (∀ t ∈ PyData.shownAll (kvs.map (·.1)), t.length ≤ sizeLine) → (∀ t ∈ PyData.shownAll (kvs.map (·.2)), t.length ≤ sizeLine) →
    ∃ bs, ReadAtMost s.heap (PyData.depthKv kvs) bs ∧ ReprAllK X.prog X.w bs s.heap (PyData.depthKv kvs) us (PyData.shownAll (kvs.map (·.1))) ∧ ReprAllK X.prog X.w bs s.heap (PyData.depthKv kvs) ws (PyData.shownAll (kvs.map (·.2)))
  | [], _, _, us, ws, ⟨e1, e2⟩, r1, r2, _, _, _ => by subst e1 e2; cases r1; cases r2; exact ⟨[], fun _ z => (by cases z), by simp only [List.map_nil, PyData.shownAll]; exact .nil, by simp only [List.map_nil, PyData.shownAll]; exact .nil⟩
  | (a, b) :: r, _, _, us, ws, ⟨k, ks, v, vs, e1, e2, h1, h2, h3⟩, r1, r2, w1, w2, w3 => by
    subst e1 e2
    cases r1 with
    | cons r1 r1' =>
      cases r2 with
      | cons r2 r2' =>
        simp only [PyData.showableKv, Bool.and_eq_true] at w1
        simp only [List.map_cons, PyData.shownAll, List.mem_cons, forall_eq_or_imp] at w2 w3
        obtain ⟨b1, p1, q1, _⟩ := Fz.shows I sb a _ _ h1 r1 w1.1.1 w2.1
        obtain ⟨b2, p2, q2, _⟩ := Fz.shows I sb b _ _ h2 r2 w1.1.2 w3.1
        obtain ⟨b3, p3, q3, q4⟩ := FzKv.shows I sb r _ _ _ _ h3 r1' r2' w1.2 w2.2 w3.2
        simp only [PyData.depthKv, List.map_cons, PyData.shownAll]
        refine ⟨b1 ++ (b2 ++ b3), ram_app (p1.mono (by omega)) (ram_app (p2.mono (by omega)) (p3.mono (by omega))), .cons ((q1.more fun b z => List.mem_append_left _ z).level_le (by omega)) (q3.more_le (fun b z => List.mem_append_right _ (List.mem_append_right _ z)) (by omega)),
          .cons ((q2.more fun b z => List.mem_append_right _ (List.mem_append_left _ z)).level_le (by omega)) (q4.more_le (fun b z => List.mem_append_right _ (List.mem_append_right _ z)) (by omega))⟩
end
end
end PL
end
section
set_option Elab.async false
set_option linter.all false
set_option maxRecDepth 100000
set_option maxHeartbeats 1000000
/-! PL8: subscripts, slices, built-in functions on data. -/
namespace PL
open L2 PyProof.Rows PySem.Spec PySem
section
variable {X : Cx} {w : World} {F H : Hp}
theorem ixN_lt {n : Nat} {i : Int} {j : Nat} (h : ixN n i = some j) : j < n := (ixN_seq h).2.1
theorem FzAll.atI {ds : List PyData} {xs : List V} {i : Int} {d : PyData} (h : FzAll w F xs ds) (e : L2.atI ds i = some d) : ∃ v, L2.atI xs i = some v ∧ Fz w F v d := by
  unfold L2.atI at e ⊢
  rw [h.length]
  cases q : ixN ds.length i with
  | none => rw [q] at e; cases e
  | some j =>
    rw [q] at e
    exact h.get (show ds[j]? = some d from e)
/-- x[i] of a list, a tuple -/
def idxP0 : PyData → PyData → KD → Prop
  | .dict _, _, _ => False
  | x, y, k => idxP x y fun d => k d 0
theorem ix_data0 : IxR X (rD2 X.w idxP0) := by
  intro val sl pins s σ H x y v u Q I rx ry h hs
  obtain ⟨F, dx, dy, k, sb, hx, hy, hp, hq⟩ := h
  cases dx <;> try (cases dy <;> exact hp.elim)
  · cases dy <;> try exact hp.elim
    obtain ⟨a, xs, rfl, q, t⟩ := hx
    obtain ⟨d, e, hk⟩ := hp
    obtain ⟨z, e2, hz⟩ := t.atI e
    exact ix_list val sl pins s σ H _ y v u Q I rx ry ⟨a, xs, _, z, rfl, hy, SqL.of (sb _ _ q), e2, hq _ _ _ _ hk (Out.fz hz sb)⟩ hs
  · cases dy <;> try exact hp.elim
    obtain ⟨a, xs, rfl, q, t⟩ := hx
    obtain ⟨d, e, hk⟩ := hp
    obtain ⟨z, e2, hz⟩ := t.atI e
    exact ix_tup val sl pins s σ H _ y v u Q I rx ry ⟨a, xs, _, z, rfl, hy, SqT.of (sb _ _ q), e2, hq _ _ _ _ hk (Out.fz hz sb)⟩ hs
theorem FzAll.cut {ds : List PyData} {xs : List V} (h : FzAll w F xs ds) (lo hi : Option Int) : FzAll w F (cutV xs lo hi) (cutD ds lo hi) := by
  unfold cutV cutD
  rw [h.length]
  exact (h.drop _).take _
theorem sl_data : SlR X (fun x lo hi H Q => ∃ (F : Hp) (dx : PyData) (k : KD), Sub F H ∧ Fz X.w F x dx ∧ slcP dx lo hi k ∧ ∀ d n v H', k d n → Out X.w F H v d n H' → Q v H') := by
  intro pins s σ H x v vl vu lo hi sl Q I rx hs pl pu h
  obtain ⟨F, dx, k, sb, hx, hp, hq⟩ := h
  cases dx <;> try exact hp.elim
  · obtain ⟨a, xs, rfl, q, t⟩ := hx
    exact sl_list pins s σ H _ v vl vu lo hi sl Q I rx hs pl pu ⟨a, xs, rfl, SqL.of (sb _ _ q), fun p hp' => hq _ _ _ _ hp (Out.lst sb hp' (t.cut lo hi))⟩
  · obtain ⟨a, xs, rfl, q, t⟩ := hx
    refine sl_tupA pins s σ H _ v vl vu lo hi sl Q I rx hs pl pu ⟨a, xs, rfl, SqT.of (sb _ _ q), fun hw => ?_, fun hw p hp' => hq _ _ _ _ hp (Out.tup sb hp' (t.cut lo hi))⟩
    rename_i ds
    have e : cutD ds lo hi = ds := by
      unfold cutD
      rw [← t.length, hw.1, hw.2, List.drop_zero, Nat.sub_zero, t.length, List.take_length]
    have hp' : k (.tuple (cutD ds lo hi)) 0 := hp
    rw [e] at hp'
    exact hq _ _ _ _ hp' (Out.fz ⟨a, xs, rfl, q, t⟩ sb)
end
/-! ### built-in functions -/
section
variable {X : Cx} {w : World} {F H : Hp}
theorem intsOf_map : ∀ {ds : List PyData} {ns : List Int}, intsOf ds = some ns → ds = ns.map .int
  | [], ns, h => by cases h; rfl
  | .int i :: r, ns, h => by
    unfold intsOf at h
    obtain ⟨m, h1, h2⟩ := Option.map_eq_some_iff.mp h
    subst h2
    rw [intsOf_map h1]; rfl
  | .none :: _, _, h => by cases h
  | .bool _ :: _, _, h => by cases h
  | .str _ :: _, _, h => by cases h
  | .list _ :: _, _, h => by cases h
  | .tuple _ :: _, _, h => by cases h
  | .dict _ :: _, _, h => by cases h
theorem boolsOf_map : ∀ {ds : List PyData} {ns : List Bool}, boolsOf ds = some ns → ds = ns.map .bool
  | [], ns, h => by cases h; rfl
  | .bool i :: r, ns, h => by
    unfold boolsOf at h
    obtain ⟨m, h1, h2⟩ := Option.map_eq_some_iff.mp h
    subst h2
    rw [boolsOf_map h1]; rfl
  | .none :: _, _, h => by cases h
  | .int _ :: _, _, h => by cases h
  | .str _ :: _, _, h => by cases h
  | .list _ :: _, _, h => by cases h
  | .tuple _ :: _, _, h => by cases h
  | .dict _ :: _, _, h => by cases h
theorem FzAll.ints : ∀ {ns : List Int} {xs : List V}, FzAll w F xs (ns.map .int) → xs = ns.map V.int
  | [], [], _ => rfl
  | n :: ns, x :: xs, h => by rw [List.map_cons, FzAll.ints h.2, show x = V.int n from h.1]
  | [], _ :: _, h => h.elim
  | _ :: _, [], h => h.elim
theorem FzAll.bools : ∀ {ns : List Bool} {xs : List V}, FzAll w F xs (ns.map .bool) → xs = ns.map V.bl
  | [], [], _ => rfl
  | n :: ns, x :: xs, h => by rw [List.map_cons, FzAll.bools h.2, show x = V.bl n from h.1]
  | [], _ :: _, h => h.elim
  | _ :: _, [], h => h.elim
theorem fz1 {ds : List PyData} {xs : List V} {d : PyData} (h : FzAll w F xs [d]) : ∃ x, xs = [x] ∧ Fz w F x d := by
  cases xs with
  | nil => exact h.elim
  | cons x r => cases r with
    | nil => exact ⟨x, rfl, h.1⟩
    | cons => exact h.2.elim
theorem fz2 {xs : List V} {d e : PyData} (h : FzAll w F xs [d, e]) : ∃ x y, xs = [x, y] ∧ Fz w F x d ∧ Fz w F y e := by
  cases xs with
  | nil => exact h.elim
  | cons x r => cases r with
    | nil => exact h.2.elim
    | cons y r => cases r with
      | nil => exact ⟨x, y, rfl, h.1, h.2.1⟩
      | cons => exact h.2.2.elim
abbrev RF (w : World) (f : BF) := rD1 w (fnP f)
theorem cr_len : CallR X (.builtin "len") (RF X.w .len) := by
  intro pins s σ H xs us Q I r h
  obtain ⟨F, ds, k, sb, hx, hp, hq⟩ := h
  match ds, hp with
  | [.list es], hp =>
    obtain ⟨x, rfl, a, ys, rfl, q, t⟩ := fz1 (ds := []) hx
    exact call_len_seq pins s σ H _ us Q I r ⟨a, ys, rfl, .inl (SqL.of (sb _ _ q)), by rw [t.length]; exact hq _ _ _ _ hp (Out.fz (show Fz X.w F (.int _) (.int _) from rfl) sb)⟩
  | [.tuple es], hp =>
    obtain ⟨x, rfl, a, ys, rfl, q, t⟩ := fz1 (ds := []) hx
    exact call_len_seq pins s σ H _ us Q I r ⟨a, ys, rfl, .inr (SqT.of (sb _ _ q)), by rw [t.length]; exact hq _ _ _ _ hp (Out.fz (show Fz X.w F (.int _) (.int _) from rfl) sb)⟩
  | [.str es], hp =>
    obtain ⟨x, rfl, rfl⟩ := fz1 (ds := []) hx
    exact call_len_str pins s σ H _ us Q I r ⟨es, rfl, hp.1, hq _ _ _ _ hp.2 (Out.fz (show Fz X.w F (.int _) (.int _) from rfl) sb)⟩
theorem cr_abs : CallR X (.builtin "abs") (RF X.w .abs) := by
  intro pins s σ H xs us Q I r h
  obtain ⟨F, ds, k, sb, hx, hp, hq⟩ := h
  match ds, hp with
  | [.int i], hp =>
    obtain ⟨x, rfl, rfl⟩ := fz1 (ds := []) hx
    exact call_abs pins s σ H _ us Q I r ⟨i, rfl, hq _ _ _ _ hp (Out.fz (show Fz X.w F (.int _) (.int _) from rfl) sb)⟩
theorem cr_int : CallR X (.type "int") (RF X.w .int) := by
  intro pins s σ H xs us Q I r h
  obtain ⟨F, ds, k, sb, hx, hp, hq⟩ := h
  match ds, hp with
  | [.int i], hp =>
    obtain ⟨x, rfl, rfl⟩ := fz1 (ds := []) hx
    exact call_int1 pins s σ H _ us Q I r (.inl ⟨i, rfl, hq _ _ _ _ hp (Out.fz (show Fz X.w F (.int _) (.int _) from rfl) sb)⟩)
  | [.bool i], hp =>
    obtain ⟨x, rfl, rfl⟩ := fz1 (ds := []) hx
    exact call_int1 pins s σ H _ us Q I r (.inr ⟨i, rfl, hq _ _ _ _ hp (Out.fz (show Fz X.w F (.int _) (.int _) from rfl) sb)⟩)
theorem cr_str : CallR X (.type "str") (RF X.w .str) := by
  intro pins s σ H xs us Q I r h
  obtain ⟨F, ds, k, sb, hx, hp, hq⟩ := h
  match ds, hp with
  | [.int i], hp =>
    obtain ⟨x, rfl, rfl⟩ := fz1 (ds := []) hx
    exact call_str_int pins s σ H _ us Q I r ⟨i, rfl, hp.1, hq _ _ _ _ hp.2 (Out.fz (show Fz X.w F (.str _) (.str _) from rfl) sb)⟩
  | [.str i], hp =>
    obtain ⟨x, rfl, rfl⟩ := fz1 (ds := []) hx
    exact SkE.call_str_str pins s σ H _ us Q I r ⟨i, rfl, hq _ _ _ _ hp (Out.fz (show Fz X.w F (.str _) (.str _) from rfl) sb)⟩
theorem ints_its {ns : List Int} {us : List Value} (h : Vals (ns.map V.int) us) : ∃ xs : List (Int × Tok), us = xs.map (fun p => .int p.1 p.2) ∧ xs.map (·.1) = ns := by
  induction ns generalizing us with
  | nil => cases h; exact ⟨[], rfl, rfl⟩
  | cons n ns ih =>
    cases h with
    | cons r t =>
      obtain ⟨tk, rfl⟩ := r
      obtain ⟨xs, rfl, rfl⟩ := ih t
      exact ⟨(n, tk) :: xs, rfl, rfl⟩
theorem cr_sumD (hc : X.calm = true) : CallR X (.builtin "sum") (RF X.w .sum) := by
  intro pins s σ H xs us Q I r h
  obtain ⟨F, ds, k, sb, hx, hp, hq⟩ := h
  match ds, hp with
  | [.list es], ⟨ns, e, hk⟩ =>
    obtain ⟨x, rfl, a, ys, rfl, q, t⟩ := fz1 (ds := []) hx
    have e2 := intsOf_map e
    subst e2
    obtain rfl := t.ints
    exact L2.cr_sum hc pins s σ H _ us Q I r ⟨a, ns, rfl, SqL.of (sb _ _ q), hq _ _ _ _ hk (Out.fz (show Fz X.w F (.int _) (.int _) from rfl) sb)⟩
  | [.tuple es], ⟨ns, e, hk⟩ =>
    obtain ⟨x, rfl, a, ys, rfl, q, t⟩ := fz1 (ds := []) hx
    have e2 := intsOf_map e
    subst e2
    obtain rfl := t.ints
    obtain ⟨u, rfl, ru⟩ := vals1 r
    cases ru
    obtain ⟨its, rv, p, _⟩ := I.tuple (SqT.of (sb _ _ q))
    obtain ⟨xs, rfl, en⟩ := ints_its rv
    have eit : (xs.map fun p => Value.int p.1 p.2).toArray = intItems xs.toArray := by simp [intItems]
    refine PySem.W.ktm_sumG (xs := xs.toArray) (I.ok.hd hc) (by rw [← eit]; exact p) fun h' tk t' kp => ?_
    rw [preSum_eq, List.take_of_length_le (by simp)]
    simp only [List.toList_toArray, en]
    exact ⟨.int _, H, I.kept kp, ⟨_, rfl⟩, hq _ _ _ _ hk (Out.fz (show Fz X.w F (.int _) (.int _) from rfl) sb)⟩
theorem cr_anyD (hc : X.calm = true) : CallR X (.builtin "any") (RF X.w .any) := by
  intro pins s σ H xs us Q I r h
  obtain ⟨F, ds, k, sb, hx, hp, hq⟩ := h
  match ds, hp with
  | [.list es], ⟨ns, e, hk⟩ =>
    obtain ⟨x, rfl, a, ys, rfl, q, t⟩ := fz1 (ds := []) hx
    have e2 := boolsOf_map e
    subst e2
    obtain rfl := t.bools
    exact L2.cr_any hc pins s σ H _ us Q I r ⟨a, ns, rfl, SqL.of (sb _ _ q), hq _ _ _ _ hk (Out.fz (show Fz X.w F (.bl _) (.bool _) from rfl) sb)⟩
theorem cr_allD (hc : X.calm = true) : CallR X (.builtin "all") (RF X.w .all) := by
  intro pins s σ H xs us Q I r h
  obtain ⟨F, ds, k, sb, hx, hp, hq⟩ := h
  match ds, hp with
  | [.list es], ⟨ns, e, hk⟩ =>
    obtain ⟨x, rfl, a, ys, rfl, q, t⟩ := fz1 (ds := []) hx
    have e2 := boolsOf_map e
    subst e2
    obtain rfl := t.bools
    exact L2.cr_all hc pins s σ H _ us Q I r ⟨a, ns, rfl, SqL.of (sb _ _ q), hq _ _ _ _ hk (Out.fz (show Fz X.w F (.bl _) (.bool _) from rfl) sb)⟩
theorem cr_listD : CallR X (.type "list") (RF X.w .list) := by
  intro pins s σ H xs us Q I r h
  obtain ⟨F, ds, k, sb, hx, hp, hq⟩ := h
  match ds, hp with
  | [.list es], hk =>
    obtain ⟨x, rfl, a, ys, rfl, q, t⟩ := fz1 (ds := []) hx
    exact call_list_of pins s σ H _ us Q I r ⟨a, ys, rfl, .inl (SqL.of (sb _ _ q)), fun p hp' => hq _ _ _ _ hk (Out.lst sb hp' t)⟩
  | [.tuple es], hk =>
    obtain ⟨x, rfl, a, ys, rfl, q, t⟩ := fz1 (ds := []) hx
    exact call_list_of pins s σ H _ us Q I r ⟨a, ys, rfl, .inr (SqT.of (sb _ _ q)), fun p hp' => hq _ _ _ _ hk (Out.lst sb hp' t)⟩
theorem cr_tupleD : CallR X (.type "tuple") (RF X.w .tuple) := by
  intro pins s σ H xs us Q I r h
  obtain ⟨F, ds, k, sb, hx, hp, hq⟩ := h
  match ds, hp with
  | [.list es], hk =>
    obtain ⟨x, rfl, a, ys, rfl, q, t⟩ := fz1 (ds := []) hx
    exact call_tuple_of pins s σ H _ us Q I r ⟨a, ys, rfl, .inl ⟨SqL.of (sb _ _ q), fun p hp' => hq _ _ _ _ hk (Out.tup sb hp' t)⟩⟩
  | [.tuple es], hk =>
    obtain ⟨x, rfl, a, ys, rfl, q, t⟩ := fz1 (ds := []) hx
    exact call_tuple_of pins s σ H _ us Q I r ⟨a, ys, rfl, .inr ⟨SqT.of (sb _ _ q), hq _ _ _ _ hk (Out.fz ⟨a, ys, rfl, q, t⟩ sb)⟩⟩
/-- repr(x), where no repr is under way -/
theorem cr_repr (hu : X.A.units + 100 < cLine) (hg : X.A.guards = some []) : CallR X (.builtin "repr") (RF X.w .repr) := by
  intro pins s σ H xs us Q I r h
  obtain ⟨F, ds, k, sb, hx, hp, hq⟩ := h
  match ds, hp with
  | [d], ⟨⟨h1, h2, h3⟩, hk⟩ =>
    obtain ⟨x, rfl, hz⟩ := fz1 (ds := []) hx
    obtain ⟨u, rfl, ru⟩ := vals1 r
    obtain ⟨as, rd⟩ := Fz.reads I sb d x u hz ru
    have fin : ∀ (h' : Heap) (t tk : Nat), (∀ b o, s.heap.get? b = some o → h'.get? b = some o) → EP X pins σ Q (.str d.shown t) { s with heap := h', toks := tk } := fun h' t tk kp =>
      ⟨.str d.shown, H, I.kept kp, ⟨t, rfl⟩, hq _ _ _ _ hk (Out.fz (show Fz X.w F (.str _) (.str _) from rfl) sb)⟩
    have big : ∀ {a : Addr}, RelV x (.ref a) → wpAny (model X.prog X.w) X.A (call (.builtin "repr") [.ref a]) (EP X pins σ Q) X.xe s := fun {a} ra => by
      have : dLow = 60 := rfl
      obtain ⟨_, _, _, S⟩ := Fz.shows I sb d x _ hz ra h1 h2
      obtain ⟨T, idr, S⟩ := S a rfl
      exact call_repr_slot (by omega) (S.typeIs s fun _ _ e => e) S.slotRepr (S.call X.A.in1 _ s _ hg (by show X.A.units + 1 + d.depth < cLine; omega) (fun _ _ e => e) fun h' u tk hk => ⟨_, _, rfl, fin h' u tk hk⟩)
    have e0 := fin s.heap s.toks (s.toks + 1) fun _ _ e => e
    cases rd with
    | none => exact PySem.P.repr_of_none (by simp only [PyData.shown] at e0; exact e0)
    | bool b => exact PySem.P.repr_of_bool (by simp only [PyData.shown] at e0; exact e0)
    | int i t => exact PySem.P.repr_of_int (by simpa [PyData.showable] using h1) (by simp only [PyData.shown] at e0; exact e0)
    | str y t => exact PySem.P.repr_of_str (by simp only [PyData.shown] at e0; exact e0) (by simpa only [PyData.shown] using h2)
    | list a b c d => exact big ru
    | tuple a b c d => exact big ru
    | dict a b c d e => exact big ru
end
section
variable {X : Cx} {w : World} {F H : Hp}
theorem fz_each {hp : Heap} {R : Value → PyData → Prop} : ∀ {ds : List PyData} {xs : List V} {us : List Value}, FzAll w F xs ds → Vals xs us → (∀ x u d, Fz w F x d → RelV x u → R u d) → PySem.W.EachIs R us ds
  | [], [], _, _, r, _ => by cases r; exact .nil
  | d :: ds, x :: xs, _, h, r, k => by
    cases r with
    | cons r1 r2 => exact .cons (k _ _ _ h.1 r1) (fz_each (hp := hp) h.2 r2 k)
  | [], _ :: _, _, h, _, _ => h.elim
  | _ :: _, [], _, h, _, _ => h.elim
theorem each_fz : ∀ {ds : List PyData} {us : List Value}, PySem.W.EachIs (fun u d => ∃ x, RelV x u ∧ Fz w F x d) us ds → ∃ xs, FzAll w F xs ds ∧ Vals xs us
  | _, _, .nil => ⟨[], trivial, .nil⟩
  | _, _, .cons ⟨x, r, f⟩ t => by
    obtain ⟨xs, h, v⟩ := each_fz t
    exact ⟨x :: xs, ⟨f, h⟩, .cons r v⟩
theorem cr_sortedL (hu : X.A.units + 100 < cLine) : CallR X (.builtin "sorted") (RF X.w .sorted) := by
  intro pins s σ H xs us Q I r h
  obtain ⟨F, ds, k, sb, hx, hp, hq⟩ := h
  match ds, hp with
  | [.list es], ⟨⟨h1, h2, h3⟩, hk⟩ =>
    obtain ⟨x, rfl, a, ys, rfl, q, t⟩ := fz1 (ds := []) hx
    obtain ⟨u, rfl, ru⟩ := vals1 r
    cases ru
    obtain ⟨its, n, rv, e, z⟩ := rd_list I sb q
    have : dLow = 60 := rfl
    have hl : es.length ≤ sizeLine := by rw [← t.length]; exact z
    refine PySem.W.sorted_data (vs := its) (bs := es) (enc := id) (R := fun u d => ∃ x, RelV x u ∧ Fz X.w F x d) ⟨_, e, rfl, n, rfl⟩ (fz_each (hp := s.heap) t rv fun x u d hz hr => ⟨x, hr, hz⟩)
      (fz_each (hp := s.heap) t rv fun x u d hz hr => Fz.reads I sb d x u hz hr) (by rw [List.map_id]; exact h1) (by rw [List.map_id]; exact h2) hl (fun b hb => ?_) fun out hlen ho => ?_
    · have := h3 b hb
      show X.A.units + 2 + b.depth < cLine
      omega
    · obtain ⟨zs, fz, vz⟩ := each_fz ho
      obtain ⟨ep, he'⟩ := PyProof.Rows.sortedAll_at s.heap its out.toArray
      have hp' : H (s.heap.objs.size + 1) = none := I.hok.fresh (Nat.le_succ _)
      refine ⟨.ref _, upd H (s.heap.objs.size + 1) (.lst zs), I.laid (t' := s.toks) (fun _ _ => PyProof.Rows.sortedAll_old) (Nat.le_succ _) ⟨?_, out, ep, vz, he'⟩, rfl, hq _ _ _ _ hk (Out.lst sb hp' fz)⟩
      rw [fz.length, List.length_mergeSort]
      exact hl
/-- the value that reads as one of them -/
theorem reads_pick {pins : List (Addr × Obj)} {σ : List (Option V)} {H : Hp} {s : Shared} (I : L2.Inv X pins σ H s) (sb : Sub F H) {es : List PyData} {ys : List V} {its : List Value} (t : FzAll X.w F ys es) (rv : Vals ys its)
    (al : ∀ x ∈ es, ∀ y ∈ es, PySem.W.alike x y = true) {i : Nat} {v : Value} {h' : Heap} {m : PyData} {bs : List Addr} (hm : m ∈ es) (hv : its[i]? = some v) (rd : Reads h' v m bs) (kp : ∀ b o, s.heap.get? b = some o → h'.get? b = some o) :
    ∃ x, RelV x v ∧ Fz X.w F x m := by
  have hi : i < ys.length := by rw [rv.length]; exact (List.getElem?_eq_some_iff.mp hv).1
  obtain ⟨u, hu, ru⟩ := rv.get (List.getElem?_eq_getElem hi)
  rw [hv] at hu; cases hu
  obtain ⟨d, hd, fz⟩ := t.get' (List.getElem?_eq_getElem hi)
  obtain ⟨as, r2⟩ := Fz.reads I sb d _ _ fz ru
  have e := PySem.W.alike_unique m d v bs as (al _ hm _ (List.mem_of_getElem? hd)) rd (PyProof.Rows.Reads.keeps kp r2)
  subst e
  exact ⟨_, ru, fz⟩
theorem foldl_mem (f : PyData → PyData → Bool) : ∀ (ds : List PyData) (d : PyData), ds.foldl (fun m x => if f m x then x else m) d ∈ d :: ds
  | [], d => List.mem_singleton.mpr rfl
  | x :: ds, d => by
    have h := foldl_mem f ds (if f d x then x else d)
    rw [List.foldl_cons]
    rcases List.mem_cons.mp h with h | h
    · rw [h]; split <;> simp
    · exact List.mem_cons_of_mem _ (List.mem_cons_of_mem _ h)
theorem depthAll_le {n : Nat} : ∀ {ds : List PyData}, (∀ x ∈ ds, x.depth ≤ n) → PyData.depthAll ds ≤ n
  | [], _ => by simp [PyData.depthAll]
  | d :: ds, h => by
    rw [PyData.depthAll]
    exact Nat.max_le.mpr ⟨h d (by simp), depthAll_le fun x hx => h x (List.mem_cons_of_mem _ hx)⟩
theorem allLike_al {ds : List PyData} (h : allLike ds) : PySem.W.AlikeAll ds := ⟨h.1, fun x hx e => by
  rcases h.2.1 with q | q
  · obtain ⟨y, r, e2⟩ := q x hx; rw [e] at e2; cases e2
  · exact (q x hx).1 e⟩
theorem cr_minD (hc : X.calm = true) (hu : X.A.units + 100 < cLine) : CallR X (.builtin "min") (RF X.w .min) := by
  intro pins s σ H xs us Q I r h
  obtain ⟨F, ds, k, sb, hx, hp, hq⟩ := h
  have : dLow = 60 := rfl
  match ds, hp with
  | [.int i, .int j], hk =>
    obtain ⟨x, y, rfl, rfl, rfl⟩ := fz2 hx
    exact call_min2 hc pins s σ H _ us Q I r ⟨i, j, rfl, hq _ _ _ _ hk (Out.fz (show Fz X.w F (.int _) (.int _) from rfl) sb)⟩
  | [.list es], ⟨hl, m, hm, hk⟩ =>
    obtain ⟨x, rfl, a, ys, rfl, q, t⟩ := fz1 (ds := []) hx
    obtain ⟨u, rfl, ru⟩ := vals1 r
    cases ru
    obtain ⟨its, n, rv, e, z⟩ := rd_list I sb q
    cases es with
    | nil => cases hm
    | cons d ds =>
      obtain ⟨as, rd⟩ := FzAll.reads I sb _ _ _ t rv
      cases hm
      have hd := depthAll_le hl.2.2
      refine PySem.W.min_list_data (I.ok.hd hc) ⟨_, e, rfl, n, rfl⟩ (by simpa using rd) (allLike_al hl) (by omega) fun i v h' tk bs hv hr kp => ?_
      obtain ⟨x, rx, fz⟩ := reads_pick I sb t rv hl.1 (foldl_mem (fun m x => PySem.W.dataLt x m) ds d) (by simpa using hv) hr kp
      exact ⟨x, H, I.kept kp, rx, hq _ _ _ _ hk (Out.fz fz sb)⟩
  | [.tuple es], ⟨hl, m, hm, hk⟩ =>
    obtain ⟨x, rfl, a, ys, rfl, q, t⟩ := fz1 (ds := []) hx
    obtain ⟨u, rfl, ru⟩ := vals1 r
    cases ru
    obtain ⟨its, rv, e, z⟩ := I.tuple (SqT.of (sb _ _ q))
    cases es with
    | nil => cases hm
    | cons d ds =>
      obtain ⟨as, rd⟩ := FzAll.reads I sb _ _ _ t rv
      cases hm
      have hd := depthAll_le hl.2.2
      refine PySem.W.min_tuple_data (I.ok.hd hc) e (by simpa using rd) (allLike_al hl) (by omega) fun i v h' tk bs hv hr kp => ?_
      obtain ⟨x, rx, fz⟩ := reads_pick I sb t rv hl.1 (foldl_mem (fun m x => PySem.W.dataLt x m) ds d) (by simpa using hv) hr kp
      exact ⟨x, H, I.kept kp, rx, hq _ _ _ _ hk (Out.fz fz sb)⟩
theorem cr_maxD (hc : X.calm = true) (hu : X.A.units + 100 < cLine) : CallR X (.builtin "max") (RF X.w .max) := by
  intro pins s σ H xs us Q I r h
  obtain ⟨F, ds, k, sb, hx, hp, hq⟩ := h
  have : dLow = 60 := rfl
  match ds, hp with
  | [.int i, .int j], hk =>
    obtain ⟨x, y, rfl, rfl, rfl⟩ := fz2 hx
    exact call_max2 hc pins s σ H _ us Q I r ⟨i, j, rfl, hq _ _ _ _ hk (Out.fz (show Fz X.w F (.int _) (.int _) from rfl) sb)⟩
  | [.list es], ⟨hl, m, hm, hk⟩ =>
    obtain ⟨x, rfl, a, ys, rfl, q, t⟩ := fz1 (ds := []) hx
    obtain ⟨u, rfl, ru⟩ := vals1 r
    cases ru
    obtain ⟨its, n, rv, e, z⟩ := rd_list I sb q
    cases es with
    | nil => cases hm
    | cons d ds =>
      obtain ⟨as, rd⟩ := FzAll.reads I sb _ _ _ t rv
      cases hm
      have hd := depthAll_le hl.2.2
      refine PySem.W.max_list_data (I.ok.hd hc) ⟨_, e, rfl, n, rfl⟩ (by simpa using rd) (allLike_al hl) (by omega) fun i v h' tk bs hv hr kp => ?_
      obtain ⟨x, rx, fz⟩ := reads_pick I sb t rv hl.1 (foldl_mem (fun m x => PySem.W.dataLt m x) ds d) (by simpa using hv) hr kp
      exact ⟨x, H, I.kept kp, rx, hq _ _ _ _ hk (Out.fz fz sb)⟩
  | [.tuple es], ⟨hl, m, hm, hk⟩ =>
    obtain ⟨x, rfl, a, ys, rfl, q, t⟩ := fz1 (ds := []) hx
    obtain ⟨u, rfl, ru⟩ := vals1 r
    cases ru
    obtain ⟨its, rv, e, z⟩ := I.tuple (SqT.of (sb _ _ q))
    cases es with
    | nil => cases hm
    | cons d ds =>
      obtain ⟨as, rd⟩ := FzAll.reads I sb _ _ _ t rv
      cases hm
      have hd := depthAll_le hl.2.2
      refine PySem.W.max_tuple_data (I.ok.hd hc) e (by simpa using rd) (allLike_al hl) (by omega) fun i v h' tk bs hv hr kp => ?_
      obtain ⟨x, rx, fz⟩ := reads_pick I sb t rv hl.1 (foldl_mem (fun m x => PySem.W.dataLt m x) ds d) (by simpa using hv) hr kp
      exact ⟨x, H, I.kept kp, rx, hq _ _ _ _ hk (Out.fz fz sb)⟩
end
end PL
end
section
set_option Elab.async false
set_option linter.all false
set_option maxRecDepth 100000
set_option maxHeartbeats 2000000
/-! PL9: pieces of the soundness of expressions. -/
namespace PL
open L2 PyProof.Rows PySem.Spec PySem
section
variable {w : World} {c : Fr} {σ : List (Option V)} {ρ ρ' : Env} {τ : List Item} {H H' F F' : Hp} {O : List Addr}
theorem tm_append : ∀ {vs us : List V} {ps qs : List (PyData × Nat)}, vs.length = ps.length → tm (vs ++ us) (ps ++ qs) = tm vs ps ++ tm us qs
  | [], _, [], _, _ => rfl
  | v :: vs, us, p :: ps, qs, h => by
    show (some v, val p.1 p.2) :: tm (vs ++ us) (ps ++ qs) = _
    rw [tm_append (by simpa using h)]; rfl
  | [], _, _ :: _, _, h => by simp at h
  | _ :: _, _, [], _, h => by simp at h
theorem ow_lower {n m : Nat} {v : V} {d : PyData} {f : List Addr} (h : Ow w F H n v d f) (k : n = m ∨ isCont d = false) : Ow w F H m v d f := by
  rcases k with k | k
  · subst k; exact h
  · have z : Fz w F v d := ow_atom h (.inr k)
    have e : f = [] := by
      cases n with
      | zero => exact h.2
      | succ n => cases d with
        | list => cases k
        | dict => cases k
        | none => exact h.2
        | bool => exact h.2
        | int => exact h.2
        | str => exact h.2
        | tuple => exact h.2
    cases m with
    | zero => exact ⟨z, e⟩
    | succ m => cases d with
      | list => cases k
      | dict => cases k
      | none => exact ⟨z, e⟩
      | bool => exact ⟨z, e⟩
      | int => exact ⟨z, e⟩
      | str => exact ⟨z, e⟩
      | tuple => exact ⟨z, e⟩
theorem ItsR.ows {m : Nat} : ∀ {vs : List V} {ps : List (PyData × Nat)} {g : List Addr}, ItsR w F H (tm vs ps) g → vs.length = ps.length → (∀ p ∈ ps, p.2 = m ∨ isCont p.1 = false) → OwAll (Ow w F H m) vs (ps.map (·.1)) g
  | [], [], _, h, _, _ => h
  | v :: vs, p :: ps, _, ⟨f, g, h1, h2, e⟩, hl, k =>
    ⟨f, g, ow_lower h1 (k p (by simp)), ItsR.ows h2 (by simpa using hl) fun q hq => k q (List.mem_cons_of_mem _ hq), e⟩
  | [], _ :: _, _, _, hl, _ => by simp at hl
  | _ :: _, [], _, _, hl, _ => by simp at hl
/-- a new list of temporaries: their own trees go into it, or are let go -/
theorem Sta.newList {vs : List V} {ps : List (PyData × Nat)} {m : Nat} {p : Addr} (h : Sta w c σ ρ (τ ++ tm vs ps) H) (hl : vs.length = ps.length) (ho : ∀ q ∈ ps, okOwn m q.2 q.1) (hp : H p = none) :
    Sta w c σ ρ (τ ++ t1 (.ref p) (.list (ps.map (·.1))) (m + 1)) (upd H p (.lst vs)) := by
  by_cases hm : m = 0
  · subst hm
    obtain ⟨O, q, fz⟩ := h.take hl
    exact q.push (Out.lst sub_hide hp fz)
  · obtain ⟨⟨O, q0⟩, h2, h3⟩ := h
    have q : FitsO w c ((zs σ ρ ++ τ) ++ tm vs ps) H O := by rw [List.append_assoc]; exact q0
    obtain ⟨f, g, i1, i2, e⟩ := q.its.unappend
    subst e
    have ows := i2.ows hl (m := m) fun r hr => (ho r hr).elim .inl fun z => z.elim (fun z => absurd z hm) .inr
    have hpO : p ∉ f ++ g := fun z => q.here p z hp
    have hpB : p ∉ c.B := fun z => q.bar p z hp
    have keepH : ∀ a o, H a = some o → upd H p (.lst vs) a = some o := sub_upd hp
    have sv : Sub (hide (c.B ++ (f ++ g)) H) (hide (c.B ++ (f ++ p :: g)) (upd H p (.lst vs))) := fun a o e => by
      obtain ⟨e1, e2⟩ := hide_some.mp e
      have ne : a ≠ p := ne_of_none e2 hp
      refine hide_some.mpr ⟨fun z => e1 ?_, by rw [upd_ne ne]; exact e2⟩
      simp only [List.mem_append, List.mem_cons] at z ⊢
      rcases z with z | z | z | z
      · exact .inl z
      · exact .inr (.inl z)
      · exact absurd z ne
      · exact .inr (.inr z)
    have q2 : FitsO w c ((zs σ ρ ++ τ) ++ t1 (.ref p) (.list (ps.map (·.1))) (m + 1)) (upd H p (.lst vs)) (f ++ p :: g) := by
      refine ⟨ItsR.append (i1.mono sv fun a _ o e => keepH a o e) ⟨p :: g, [], ⟨p, vs, g, rfl, upd_same, ows.imp fun x d t _ r => Ow.mono sv _ _ _ _ r fun a _ o e => keepH a o e, rfl⟩, rfl, by simp⟩, ?_, fun a ha => ?_, fun a ha => ?_, fun a o e n => keepH a o (q.keep a o e n), fun a ha => ?_⟩
      · have := q.nd
        rw [List.nodup_append] at this ⊢
        obtain ⟨n1, n2, n3⟩ := this
        refine ⟨n1, List.nodup_cons.mpr ⟨fun z => hpO (List.mem_append_right _ z), n2⟩, fun a ha b hb e => ?_⟩
        rcases List.mem_cons.mp hb with rfl | hb
        · exact hpO (List.mem_append_left _ (e ▸ ha))
        · exact n3 a ha b hb e
      · simp only [List.mem_append, List.mem_cons] at ha
        rcases ha with z | rfl | z
        · exact q.dis a (List.mem_append_left _ z)
        · exact hpB
        · exact q.dis a (List.mem_append_right _ z)
      · have := q.bar a ha
        cases e : H a with
        | none => exact absurd e this
        | some o => rw [keepH a o e]; simp
      · simp only [List.mem_append, List.mem_cons] at ha
        rcases ha with z | rfl | z
        · exact q.new a (List.mem_append_left _ z)
        · by_cases hL : a ∈ c.L
          · exact .inl hL
          · refine .inr ?_
            cases e : c.H0 a with
            | none => rfl
            | some o => have := q.keep a o e hL; rw [hp] at this; cases this
        · exact q.new a (List.mem_append_right _ z)
    rw [List.append_assoc] at q2
    exact ⟨⟨_, q2⟩, h2, h3⟩
end
section
variable {w : World} {c : Fr} {σ : List (Option V)} {ρ ρ' : Env} {τ : List Item} {H H' F F' : Hp} {O : List Addr}
/-- one item changed: its tree at fj, what M has and new addresses become fj' -/
theorem FitsO.upd {A C M : List Item} {it it' : Item} {fA fj fC g fj' : List Addr} (q : FitsO w c (A ++ (it :: C) ++ M) H (fA ++ (fj ++ fC) ++ g))
    (iA : ItsR w (hide (c.B ++ (fA ++ (fj ++ fC) ++ g)) H) H A fA) (iC : ItsR w (hide (c.B ++ (fA ++ (fj ++ fC) ++ g)) H) H C fC)
    (hk : ∀ a o, H a = some o → a ∉ fj → H' a = some o) (hj : ∀ a ∈ fj, H' a ≠ none) (nd : fj'.Nodup) (hsub : ∀ a ∈ fj', a ∈ fj ∨ a ∈ g ∨ H a = none)
    (hnew : Sub (hide (c.B ++ (fA ++ (fj ++ fC) ++ g)) H) (hide (c.B ++ (fA ++ (fj' ++ fC))) H') → (∀ a ∈ g, a ∉ fj' → ∀ o, H a = some o → hide (c.B ++ (fA ++ (fj' ++ fC))) H' a = some o) → ItR w (hide (c.B ++ (fA ++ (fj' ++ fC))) H') H' it' fj') :
    FitsO w c (A ++ (it' :: C)) H' (fA ++ (fj' ++ fC)) := by
  have ndO := q.nd
  have dA : ∀ a ∈ fA, a ∉ fj := fun a ha z => by
    have := nodup_left ndO
    exact nodup_dis this ha (List.mem_append_left _ z)
  have dC : ∀ a ∈ fC, a ∉ fj := fun a ha z => nodup_dis (nodup_right (nodup_left ndO)) z ha
  have inO : ∀ a, a ∈ fA ∨ a ∈ fC → a ∈ fA ++ (fj ++ fC) ++ g := fun a ha => by
    simp only [List.mem_append]
    rcases ha with z | z
    · exact .inl (.inl z)
    · exact .inl (.inr (.inr z))
  have sv : Sub (hide (c.B ++ (fA ++ (fj ++ fC) ++ g)) H) (hide (c.B ++ (fA ++ (fj' ++ fC))) H') := fun a o e => by
    obtain ⟨e1, e2⟩ := hide_some.mp e
    simp only [List.mem_append, not_or] at e1
    obtain ⟨n1, ⟨n2, n3, n4⟩, n5⟩ := e1
    refine hide_some.mpr ⟨fun z => ?_, hk a o e2 n3⟩
    simp only [List.mem_append] at z
    rcases z with z | z | z | z
    · exact n1 z
    · exact n2 z
    · rcases hsub a z with y | y | y
      · exact n3 y
      · exact n5 y
      · rw [e2] at y; cases y
    · exact n4 z
  have gv : ∀ a ∈ g, a ∉ fj' → ∀ o, H a = some o → hide (c.B ++ (fA ++ (fj' ++ fC))) H' a = some o := fun a ha hn o e => by
    have no : a ∉ fA ++ (fj ++ fC) := fun z => nodup_dis ndO z ha
    simp only [List.mem_append, not_or] at no
    refine hide_some.mpr ⟨fun z => ?_, hk a o e no.2.1⟩
    simp only [List.mem_append] at z
    rcases z with z | z | z | z
    · exact q.dis a (by simp only [List.mem_append]; exact .inr ha) z
    · exact no.1 z
    · exact hn z
    · exact no.2.2 z
  have here := q.here
  refine ⟨ItsR.append (iA.mono sv fun a ha o e => hk a o e (dA a ha)) ⟨fj', fC, hnew sv gv, iC.mono sv fun a ha o e => hk a o e (dC a ha), rfl⟩, ?_, fun a ha => ?_, fun a ha => ?_, fun a o e n => ?_, fun a ha => ?_⟩
  · have n1 : fA.Nodup := nodup_left (nodup_left ndO)
    have n2 : fC.Nodup := nodup_right (nodup_right (nodup_left ndO))
    have ac : ∀ a ∈ fA, a ∉ fC := fun a ha z => nodup_dis (nodup_left ndO) ha (List.mem_append_right _ z)
    have og : ∀ a, a ∈ fA ∨ a ∈ fC → a ∉ g := fun a ha => by
      have z : a ∈ fA ++ (fj ++ fC) := by
        simp only [List.mem_append]
        rcases ha with z | z
        · exact .inl z
        · exact .inr (.inr z)
      exact nodup_dis ndO z
    have far : ∀ a ∈ fj', a ∉ fA ∧ a ∉ fC := fun a ha => by
      rcases hsub a ha with y | y | y
      · exact ⟨fun z => dA a z y, fun z => dC a z y⟩
      · exact ⟨fun z => og a (.inl z) y, fun z => og a (.inr z) y⟩
      · exact ⟨fun z => here a (inO a (.inl z)) y, fun z => here a (inO a (.inr z)) y⟩
    rw [List.nodup_append, List.nodup_append]
    refine ⟨n1, ⟨nd, n2, fun a ha b hb e => (far a ha).2 (e ▸ hb)⟩, fun a ha b hb e => ?_⟩
    subst e
    rcases List.mem_append.mp hb with z | z
    · exact (far a z).1 ha
    · exact ac a ha z
  · simp only [List.mem_append] at ha
    rcases ha with z | z | z
    · exact q.dis a (inO a (.inl z))
    · rcases hsub a z with y | y | y
      · exact q.dis a (by simp only [List.mem_append]; exact .inl (.inr (.inl y)))
      · exact q.dis a (by simp only [List.mem_append]; exact .inr y)
      · exact fun b => q.bar a b y
    · exact q.dis a (inO a (.inr z))
  · by_cases z : a ∈ fj
    · exact hj a z
    · cases e : H a with
      | none => exact absurd e (q.bar a ha)
      | some o => rw [hk a o e z]; simp
  · have e2 := q.keep a o e n
    by_cases z : a ∈ fj
    · rcases q.new a (by simp only [List.mem_append]; exact .inl (.inr (.inl z))) with y | y
      · exact absurd y n
      · rw [e] at y; cases y
    · exact hk a o e2 z
  · simp only [List.mem_append] at ha
    rcases ha with z | z | z
    · exact q.new a (inO a (.inl z))
    · rcases hsub a z with y | y | y
      · exact q.new a (by simp only [List.mem_append]; exact .inl (.inr (.inl y)))
      · exact q.new a (by simp only [List.mem_append]; exact .inr y)
      · by_cases hL : a ∈ c.L
        · exact .inl hL
        · refine .inr ?_
          cases e : c.H0 a with
          | none => rfl
          | some o => have := q.keep a o e hL; rw [y] at this; cases this
    · exact q.new a (inO a (.inr z))
theorem split_at {α : Type} {L : List α} {i : Nat} {x : α} (h : L[i]? = some x) : L = L.take i ++ x :: L.drop (i + 1) := by
  obtain ⟨h1, h2⟩ := List.getElem?_eq_some_iff.mp h
  rw [← h2, List.getElem_cons_drop, List.take_append_drop]
theorem set_split {α : Type} {L : List α} {i : Nat} {x y : α} (h : L[i]? = some x) : L.set i y = L.take i ++ y :: L.drop (i + 1) := by
  have h1 := (List.getElem?_eq_some_iff.mp h).1
  rw [List.set_eq_take_append_cons_drop, if_pos h1]
theorem zs_set : ∀ {σ : List (Option V)} {ρ : Env} {i : Nat} {v : Option V} {s : Option Slot}, zs (σ.set i v) (ρ.set i s) = (zs σ ρ).set i (v, s)
  | [], ρ, i, v, s => by simp [zs]
  | x :: σ, [], i, v, s => by cases i <;> simp [zs]
  | x :: σ, y :: ρ, 0, v, s => by simp [zs]
  | x :: σ, y :: ρ, i + 1, v, s => by
    have := zs_set (σ := σ) (ρ := ρ) (i := i) (v := v) (s := s)
    unfold zs at this ⊢
    rw [List.set_cons_succ, List.set_cons_succ, List.zip_cons_cons, List.zip_cons_cons, List.set_cons_succ, this]
/-- the accumulated list of a comprehension takes one more -/
theorem Sta.snoc {D : Addr} {acc : List PyData} {m n : Nat} {y : V} {d : PyData} (h : Sta w c σ ρ (τ ++ t1 (.ref D) (.list acc) (m + 1) ++ t1 y d n) H) :
    ∃ accV, H D = some (.lst accV) ∧ accV.length = acc.length ∧ (okOwn m n d → Sta w c σ ρ (τ ++ t1 (.ref D) (.list (acc ++ [d])) (m + 1)) (upd H D (.lst (accV ++ [y])))) := by
  obtain ⟨⟨O, q0⟩, h2, h3⟩ := h
  have eq : zs σ ρ ++ (τ ++ t1 (.ref D) (.list acc) (m + 1) ++ t1 y d n) = ((zs σ ρ ++ τ) ++ ((some (.ref D), val (.list acc) (m + 1)) :: [])) ++ t1 y d n := by simp
  rw [eq] at q0
  obtain ⟨f1, g, i1, i2, e1⟩ := q0.its.unappend
  subst e1
  obtain ⟨f, f2, i3, i4, e2⟩ := i1.unappend
  subst e2
  obtain ⟨fj, fC, i5, i6, e3⟩ := i4
  subst e3
  have eC : fC = [] := i6
  subst eC
  obtain ⟨a, accV, gj, ea, hD, ow, ej⟩ := i5
  cases ea
  subst ej
  obtain ⟨fy, gy, j1, j2, ey⟩ := i2
  have e0 : gy = [] := j2
  subst e0
  rw [List.append_nil] at ey
  subst ey
  refine ⟨accV, hD, ow.length, fun ok => ?_⟩
  have ndj : (D :: gj).Nodup := by
    have := nodup_right (nodup_left q0.nd)
    simpa using this
  have ndg : g.Nodup := nodup_right q0.nd
  have nDg : D ∉ g := fun z => nodup_dis q0.nd (show D ∈ f ++ (D :: gj ++ []) by simp) z
  have njg : ∀ a ∈ gj, a ∉ g := fun a ha z => nodup_dis q0.nd (show a ∈ f ++ (D :: gj ++ []) by simp [ha]) z
  have hk : ∀ (a : Addr) (o : HO), H a = some o → a ∉ D :: gj → upd H D (.lst (accV ++ [y])) a = some o := fun a o e n => by
    rw [upd_ne (show a ≠ D from fun z => n (by rw [z]; simp))]; exact e
  have hj : ∀ a ∈ D :: gj, upd H D (.lst (accV ++ [y])) a ≠ none := fun a ha => by
    by_cases z : a = D
    · subst z; rw [upd_same]; simp
    · rw [upd_ne z]
      exact q0.here a (by simp only [List.mem_append]; exact .inl (.inr (.inl ha)))
  have fin : ∀ {fj' : List Addr}, FitsO w c ((zs σ ρ ++ τ) ++ ((some (.ref D), val (.list (acc ++ [d])) (m + 1)) :: [])) (upd H D (.lst (accV ++ [y]))) (f ++ (fj' ++ [])) →
      Sta w c σ ρ (τ ++ t1 (.ref D) (.list (acc ++ [d])) (m + 1)) (upd H D (.lst (accV ++ [y]))) := fun q => ⟨⟨_, by rw [List.append_assoc] at q; exact q⟩, h2, h3⟩
  have mv : ∀ {F F' : Hp}, Sub F F' → OwAll (Ow w F H m) accV acc gj → OwAll (Ow w F' (upd H D (.lst (accV ++ [y]))) m) accV acc gj := fun s o =>
    o.imp fun x t r hr ow => Ow.mono s _ _ _ _ ow fun a ha o e => by
      rw [upd_ne (show a ≠ D from fun z => (List.nodup_cons.mp ndj).1 (z ▸ hr a ha))]; exact e
  by_cases hm : m = 0
  · subst hm
    refine fin (q0.upd (fj' := D :: gj) (it' := (some (.ref D), val (.list (acc ++ [d])) 1)) i3 i6 hk hj ndj (fun a ha => .inl ha) fun sv gv => ?_)
    refine ⟨D, accV ++ [y], gj, rfl, upd_same, ?_, rfl⟩
    have fzy : Fz w (hide (c.B ++ (f ++ (D :: gj ++ []))) (upd H D (.lst (accV ++ [y])))) y d := Ow.fz sv _ _ _ _ j1 fun a ha o e => gv a ha (fun z => by
      rcases List.mem_cons.mp z with z | z
      · exact nDg (z ▸ ha)
      · exact njg a z ha) o e
    have := (mv sv ow).append (show OwAll (Ow w _ (upd H D (.lst (accV ++ [y]))) 0) [y] [d] [] from ⟨[], [], ⟨fzy, rfl⟩, rfl, rfl⟩)
    simpa only [List.append_nil] using this
  · have ok2 : n = m ∨ isCont d = false := ok.elim .inl fun z => z.elim (fun z => absurd z hm) .inr
    have jm := ow_lower j1 ok2
    have nd2 : (D :: (gj ++ g)).Nodup := by
      obtain ⟨a1, a2⟩ := List.nodup_cons.mp ndj
      refine List.nodup_cons.mpr ⟨fun z => (List.mem_append.mp z).elim a1 nDg, ?_⟩
      rw [List.nodup_append]
      exact ⟨a2, ndg, fun a ha b hb e => njg a ha (e ▸ hb)⟩
    refine fin (q0.upd (fj' := D :: (gj ++ g)) (it' := (some (.ref D), val (.list (acc ++ [d])) (m + 1))) i3 i6 hk hj nd2 (fun a ha => ?_) fun sv gv => ?_)
    · rcases List.mem_cons.mp ha with z | z
      · exact .inl (by rw [z]; simp)
      · rcases List.mem_append.mp z with z | z
        · exact .inl (List.mem_cons_of_mem _ z)
        · exact .inr (.inl z)
    · refine ⟨D, accV ++ [y], gj ++ g, rfl, upd_same, ?_, rfl⟩
      have jy := Ow.mono sv _ _ _ _ jm fun a ha o e => (show upd H D (.lst (accV ++ [y])) a = some o by rw [upd_ne (show a ≠ D from fun z => nDg (z ▸ ha))]; exact e)
      have := (mv sv ow).append (show OwAll (Ow w _ (upd H D (.lst (accV ++ [y]))) m) [y] [d] g from ⟨g, [], jy, rfl, by simp⟩)
      exact this
/-- slot i's object changed; the temporaries M let go -/
theorem Sta.setD {M : List Item} {i : Nat} {s s' : Slot} (h : Sta w c σ ρ (τ ++ M) H) (e : ρ[i]? = some (some s)) (hp : s'.prot = s.prot) :
    ∃ v fj f g fC, σ[i]? = some (some v) ∧ FitsO w c (((zs σ ρ).take i ++ ((some v, some s) :: ((zs σ ρ).drop (i + 1) ++ τ))) ++ M) H (f ++ (fj ++ fC) ++ g) ∧
      (let F := hide (c.B ++ (f ++ (fj ++ fC) ++ g)) H
       Ow w F H s.n v s.d fj ∧ ItsR w F H M g ∧
       ∀ (H' : Hp) (fj' : List Addr), (∀ a o, H a = some o → a ∉ fj → H' a = some o) → (∀ a ∈ fj, H' a ≠ none) → fj'.Nodup → (∀ a ∈ fj', a ∈ fj ∨ a ∈ g ∨ H a = none) →
         (∀ F', Sub F F' → Sub F' H' → (∀ a ∈ fj', F' a = none) → (∀ a ∈ g, a ∉ fj' → ∀ o, H a = some o → F' a = some o) → Ow w F' H' s'.n v s'.d fj') → Sta w c σ (ρ.set i (some s')) τ H') := by
  obtain ⟨v, ev, -⟩ := Sta.slot (h.drop) e
  obtain ⟨⟨O, q⟩, h2, h3⟩ := h
  have ez := zs_get ev e
  have eq : zs σ ρ ++ (τ ++ M) = ((zs σ ρ).take i ++ ((some v, some s) :: ((zs σ ρ).drop (i + 1) ++ τ))) ++ M := by
    conv => lhs; rw [split_at ez]
    simp
  rw [eq] at q
  obtain ⟨f1, g, i1, i2, e1⟩ := q.its.unappend
  subst e1
  obtain ⟨f, f2, i3, i4, e2⟩ := i1.unappend
  subst e2
  obtain ⟨fj, fC, i5, i6, e3⟩ := i4
  subst e3
  refine ⟨v, fj, f, g, fC, ev, q, i5, i2, fun H' fj' k1 k2 k3 k4 k5 => ?_⟩
  have q2 := q.upd (it' := (some v, some s')) i3 i6 k1 k2 k3 k4 fun sv gv => k5 _ sv sub_hide (fun a ha => by
    cases z : hide (c.B ++ (f ++ (fj' ++ fC))) H' a with
    | none => rfl
    | some o =>
      have := (hide_some.mp z).1
      exact absurd (by simp only [List.mem_append]; exact .inr (.inr (.inl ha))) this) gv
  have eq2 : (zs σ ρ).take i ++ ((some v, some s') :: ((zs σ ρ).drop (i + 1) ++ τ)) = zs σ (ρ.set i (some s')) ++ τ := by
    have : zs σ (ρ.set i (some s')) = (zs σ ρ).set i (some v, some s') := by
      have hσ : σ.set i (some v) = σ := by
        obtain ⟨h1, h2⟩ := List.getElem?_eq_some_iff.mp ev
        rw [← h2, List.set_getElem_self]
      conv => lhs; rw [← hσ]
      exact zs_set
    rw [this, set_split ez]
    simp
  rw [eq2] at q2
  refine ⟨⟨_, q2⟩, by rw [List.length_set]; exact h2, fun p hp' => ?_⟩
  obtain ⟨z1, s0, z2, z3⟩ := h3 p hp'
  refine ⟨z1, ?_⟩
  by_cases hi : p.1 = i
  · rw [hi] at z2 ⊢
    rw [e] at z2
    cases z2
    exact ⟨s', by rw [List.getElem?_set_self (List.getElem?_eq_some_iff.mp e).1], by rw [hp]; exact z3⟩
  · exact ⟨s0, by rw [List.getElem?_set_ne (Ne.symm hi)]; exact z2, z3⟩
end
end PL
end
section
set_option Elab.async false
set_option linter.all false
set_option maxRecDepth 100000
set_option maxHeartbeats 2000000
/-! PL10: what a call takes and leaves. -/
namespace PL
open L2 PyProof.Rows PySem.Spec PySem
section
variable {w : World} {c : Fr} {σ : List (Option V)} {ρ ρ' : Env} {τ : List Item} {H H' F F' : Hp} {O : List Addr}
theorem FitsO.updAll {L M L' : List Item} {f g O' : List Addr} (q : FitsO w c (L ++ M) H (f ++ g)) (X : List Addr) (hX : ∀ a ∈ X, a ∈ f ++ g)
    (hk : ∀ a o, H a = some o → a ∉ X → H' a = some o) (nd : O'.Nodup) (hsub : ∀ a ∈ O', a ∈ f ++ g ∨ H a = none) (hits : ItsR w (hide (c.B ++ O') H') H' L' O') : FitsO w c L' H' O' := by
  refine ⟨hits, nd, fun a ha => ?_, fun a ha => ?_, fun a o e n => ?_, fun a ha => ?_⟩
  · rcases hsub a ha with y | y
    · exact q.dis a y
    · exact fun b => q.bar a b y
  · cases e : H a with
    | none => exact absurd e (q.bar a ha)
    | some o => rw [hk a o e fun z => q.dis a (hX a z) ha]; simp
  · refine hk a o (q.keep a o e n) fun z => ?_
    rcases q.new a (hX a z) with y | y
    · exact n y
    · rw [e] at y; cases y
  · rcases hsub a ha with y | y
    · exact q.new a y
    · by_cases hL : a ∈ c.L
      · exact .inl hL
      · refine .inr ?_
        cases e : c.H0 a with
        | none => rfl
        | some o => have := q.keep a o e hL; rw [y] at this; cases this
/-- data without lists and dicts stand on tuples alone -/
def TSub (F F' : Hp) : Prop := ∀ a xs, F a = some (.tup xs) → F' a = some (.tup xs)
mutual
theorem Fz.tsub (t : TSub F F') : ∀ (d : PyData) (v : V), noCont d = true → Fz w F v d → Fz w F' v d
  | .none, _, _, h => h
  | .bool _, _, _, h => h
  | .int _, _, _, h => h
  | .str _, _, _, h => h
  | .tuple ds, _, n, ⟨a, xs, e, q, r⟩ => ⟨a, xs, e, t _ _ q, FzAll.tsub t ds xs (by simpa only [noCont] using n) r⟩
  | .list _, _, n, _ => by simp [noCont] at n
  | .dict _, _, n, _ => by simp [noCont] at n
theorem FzAll.tsub (t : TSub F F') : ∀ (ds : List PyData) (xs : List V), noConts ds = true → FzAll w F xs ds → FzAll w F' xs ds
  | [], [], _, _ => trivial
  | d :: ds, x :: xs, n, h => by
    simp only [noConts, Bool.and_eq_true] at n
    exact ⟨Fz.tsub t d x n.1 h.1, FzAll.tsub t ds xs n.2 h.2⟩
  | [], _ :: _, _, h => h.elim
  | _ :: _, [], _, h => h.elim
end
theorem FzAll.tsubK (t : TSub F F') : ∀ {kvs : List (PyData × PyData)} {xs : List V} {p : PyData → Bool}, (kvs.all fun q => noCont q.1 && p q.2) = true → FzAll w F xs (kvs.map (·.1)) → FzAll w F' xs (kvs.map (·.1))
  | [], [], _, _, _ => trivial
  | q :: kvs, x :: xs, p, n, h => by
    simp only [List.all_cons, Bool.and_eq_true] at n
    exact ⟨Fz.tsub t _ _ n.1.1 h.1, FzAll.tsubK t (p := p) n.2 h.2⟩
  | [], _ :: _, _, _, h => h.elim
  | _ :: _, [], _, _, h => h.elim
theorem OwAll.flat {R R' : V → PyData → List Addr → Prop} {p : PyData → Bool} (k : ∀ x d f, p d = true → R x d f → R' x d f) : ∀ {xs : List V} {ds : List PyData} {fp : List Addr}, ds.all p = true → OwAll R xs ds fp → OwAll R' xs ds fp
  | [], [], _, _, h => h
  | x :: xs, d :: ds, _, n, ⟨f, g, h1, h2, e⟩ => by
    simp only [List.all_cons, Bool.and_eq_true] at n
    exact ⟨f, g, k _ _ _ n.1 h1, OwAll.flat k n.2 h2, e⟩
  | [], _ :: _, _, _, h => h.elim
  | _ :: _, [], _, _, h => h.elim
theorem Ow.tsub (t : TSub F F') : ∀ (n : Nat) (v : V) (d : PyData) (fp : List Addr), flatN n d = true → Ow w F H n v d fp → Ow w F' H n v d fp
  | 0, v, d, fp, n, h => ⟨Fz.tsub t d v n h.1, h.2⟩
  | n + 1, v, d, fp, e, h => by
    cases d with
    | list ds =>
      obtain ⟨a, xs, g, e1, q, r, rfl⟩ := h
      exact ⟨a, xs, g, e1, q, r.flat (fun x d f p r => Ow.tsub t n x d f p r) e, rfl⟩
    | dict kvs =>
      obtain ⟨a, es, ks, vs, g, e1, q, y, dr, fk, r, rfl⟩ := h
      refine ⟨a, es, ks, vs, g, e1, q, y, dr, FzAll.tsubK t (p := flatN n) e fk, r.flat (p := flatN n) (fun x d f p r => Ow.tsub t n x d f p r) ?_, rfl⟩
      rw [List.all_map]
      exact List.all_eq_true.mpr fun p hp => by
        have := List.all_eq_true.mp e p hp
        simp only [Bool.and_eq_true] at this
        exact this.2
    | none => exact ⟨h.1, h.2⟩
    | bool => exact ⟨h.1, h.2⟩
    | int => exact ⟨h.1, h.2⟩
    | str => exact ⟨h.1, h.2⟩
    | tuple ds => exact ⟨Fz.tsub t _ v e h.1, h.2⟩
/-! ### arguments -/
def tmA : List V → List Arg → List Item
  | v :: vs, .val d n :: as => (some v, val d n) :: tmA vs as
  | v :: vs, _ :: as => (some v, none) :: tmA vs as
  | _, _ => []
def ArgOk (σ : List (Option V)) : List V → List Arg → Prop
  | [], [] => True
  | _ :: vs, .val _ _ :: as => ArgOk σ vs as
  | v :: vs, .bor i :: as => σ[i]? = some (some v) ∧ ArgOk σ vs as
  | v :: vs, .lend i :: as => σ[i]? = some (some v) ∧ ArgOk σ vs as
  | _, _ => False
/-- the trees of borrowed slots, within f -/
theorem bor_fps {f : List Addr} {F : Hp} : ∀ (bs : List Nat), (∀ b ∈ bs, ∃ v s fb, σ[b]? = some (some v) ∧ ρ[b]? = some (some s) ∧ Ow w F H s.n v s.d fb ∧ ∀ a ∈ fb, a ∈ f) →
    ∃ bfp, (∀ a ∈ bfp, a ∈ f) ∧ (bs = [] → bfp = []) ∧ ∀ b ∈ bs, ∃ v s fb, σ[b]? = some (some v) ∧ ρ[b]? = some (some s) ∧ Ow w F H s.n v s.d fb ∧ ∀ a ∈ fb, a ∈ bfp
  | [], _ => ⟨[], by simp, fun _ => rfl, by simp⟩
  | b :: bs, h => by
    obtain ⟨v, s, fb, e1, e2, o, k⟩ := h b (by simp)
    obtain ⟨g, k1, _, k2⟩ := bor_fps bs fun b hb => h b (List.mem_cons_of_mem _ hb)
    refine ⟨fb ++ g, fun a ha => (List.mem_append.mp ha).elim (k a) (k1 a), fun z => by simp at z, fun x hx => ?_⟩
    rcases List.mem_cons.mp hx with rfl | hx
    · exact ⟨v, s, fb, e1, e2, o, fun a ha => List.mem_append_left _ ha⟩
    · obtain ⟨v', s', fb', e1', e2', o', k'⟩ := k2 x hx
      exact ⟨v', s', fb', e1', e2', o', fun a ha => List.mem_append_right _ (k' a ha)⟩
theorem args_rel {V0 : Hp} {fj : List Addr} (sv : Sub F V0) : ∀ {vs : List V} {as : List Arg} {ds : List PyData} {sg : List Nat} {g : List Addr}, ItsR w F H (tmA vs as) g → ArgOk σ vs as → argsD ρ as = some ds → lendOk ρ as sg = true →
    (lents as).length ≤ 1 → (∀ a ∈ g, ∀ o, H a = some o → V0 a = some o) → (∀ b ∈ bors as, ∃ v s, σ[b]? = some (some v) ∧ ρ[b]? = some (some s) ∧ Fz w V0 v s.d) →
    (∀ i ∈ lents as, ∃ v s, σ[i]? = some (some v) ∧ ρ[i]? = some (some s) ∧ Ow w V0 H s.n v s.d fj) →
    ArgsR w V0 H sg vs ds (match lents as with | [] => [] | _ :: _ => fj)
  | [], [], _, [], _, _, _, e, _, _, _, _, _ => by cases e; rfl
  | [], [], _, _ :: _, _, _, _, _, l, _, _, _, _ => by simp [lendOk] at l
  | v :: vs, .val d n :: as, ds, l :: sg, g, h, ok, e, lk, l1, kg, kb, kl => by
    obtain ⟨f, g', h1, h2, eg⟩ := h
    subst eg
    obtain ⟨ds', e1, rfl⟩ := Option.map_eq_some_iff.mp (show (argsD ρ as).map (d :: ·) = some ds from e)
    simp only [lendOk, Bool.and_eq_true, beq_iff_eq] at lk
    obtain ⟨rfl, lk⟩ := lk
    have ih := args_rel sv (fj := fj) h2 ok e1 lk l1 (fun a ha => kg a (List.mem_append_right _ ha)) kb kl
    exact ⟨[], _, ⟨Ow.fz sv _ _ _ _ h1 fun a ha => kg a (List.mem_append_left _ ha), rfl⟩, ih, rfl⟩
  | v :: vs, .bor i :: as, ds, l :: sg, g, h, ok, e, lk, l1, kg, kb, kl => by
    obtain ⟨f, g', h1, h2, eg⟩ := h
    subst eg
    obtain ⟨v', s, e2, e3, fz⟩ := kb i (by simp [bors])
    have ev : v' = v := by have := ok.1; rw [e2] at this; cases this; rfl
    subst ev
    have e : (argsD ρ as).map (s.d :: ·) = some ds := by have e := e; unfold argsD at e; rw [e3] at e; exact e
    obtain ⟨ds', e1, rfl⟩ := Option.map_eq_some_iff.mp e
    simp only [lendOk, Bool.and_eq_true, beq_iff_eq] at lk
    obtain ⟨rfl, lk⟩ := lk
    have ih := args_rel sv (fj := fj) h2 ok.2 e1 lk l1 (fun a ha => kg a (List.mem_append_right _ ha)) (fun b hb => kb b (by simp [bors, hb])) kl
    exact ⟨[], _, ⟨fz, rfl⟩, ih, rfl⟩
  | v :: vs, .lend i :: as, ds, l :: sg, g, h, ok, e, lk, l1, kg, kb, kl => by
    obtain ⟨f, g', h1, h2, eg⟩ := h
    subst eg
    obtain ⟨v', s, e2, e3, ow⟩ := kl i (by simp [lents])
    have ev : v' = v := by have := ok.1; rw [e2] at this; cases this; rfl
    subst ev
    have e : (argsD ρ as).map (s.d :: ·) = some ds := by have e := e; unfold argsD at e; rw [e3] at e; exact e
    obtain ⟨ds', e1, rfl⟩ := Option.map_eq_some_iff.mp e
    simp only [lendOk, e3, Bool.and_eq_true, beq_iff_eq] at lk
    obtain ⟨⟨_, hn, _⟩, lk⟩ := lk
    have l0 : lents as = [] := by
      cases z : lents as with
      | nil => rfl
      | cons => simp [lents, z] at l1
    have ih := args_rel sv (fj := fj) h2 ok.2 e1 lk (by rw [l0]; simp) (fun a ha => kg a (List.mem_append_right _ ha)) kb (fun j hj => by rw [l0] at hj; cases hj)
    rw [l0] at ih
    show ArgsR w V0 H (l :: sg) (v' :: vs) (s.d :: ds') fj
    exact ⟨fj, [], by rw [← hn]; exact ow, ih, by simp⟩
  | _ :: _, [], _, _, _, _, ok, _, _, _, _, _, _ => ok.elim
  | [], _ :: _, _, _, _, _, ok, _, _, _, _, _, _ => ok.elim
  | _ :: _, .val _ _ :: _, _, [], _, _, _, _, l, _, _, _, _ => by simp [lendOk] at l
  | _ :: _, .bor _ :: _, _, [], _, _, _, _, l, _, _, _, _ => by simp [lendOk] at l
  | _ :: _, .lend _ :: _, _, [], _, _, _, _, l, _, _, _, _ => by simp [lendOk] at l
theorem args_len : ∀ {vs : List V} {as : List Arg} {sg : List Nat}, ArgOk σ vs as → lendOk ρ as sg = true → vs.length = sg.length
  | [], [], [], _, _ => rfl
  | [], [], _ :: _, _, l => by simp [lendOk] at l
  | v :: vs, .val d n :: as, l :: sg, ok, lk => by
    simp only [lendOk, Bool.and_eq_true] at lk
    rw [List.length_cons, List.length_cons, args_len (show ArgOk σ vs as from ok) lk.2]
  | v :: vs, .bor i :: as, l :: sg, ok, lk => by
    simp only [lendOk, Bool.and_eq_true] at lk
    rw [List.length_cons, List.length_cons, args_len ok.2 lk.2]
  | v :: vs, .lend i :: as, l :: sg, ok, lk => by
    simp only [lendOk, Bool.and_eq_true] at lk
    rw [List.length_cons, List.length_cons, args_len ok.2 lk.2]
  | _ :: _, [], _, ok, _ => ok.elim
  | [], _ :: _, _, ok, _ => ok.elim
  | _ :: _, .val _ _ :: _, [], _, l => by simp [lendOk] at l
  | _ :: _, .bor _ :: _, [], _, l => by simp [lendOk] at l
  | _ :: _, .lend _ :: _, [], _, l => by simp [lendOk] at l
/-- what the callee hands back of the lent one -/
theorem outs_rel : ∀ {vs : List V} {as : List Arg} {sg : List Nat} {os : List PyData} {L' : List Addr}, OutsR w F H' sg vs os L' → ArgOk σ vs as → lendOk ρ as sg = true → (lents as).length ≤ 1 →
    (lents as = [] ∧ L' = [] ∧ putOuts as os ρ = ρ) ∨ ∃ i v s d, lents as = [i] ∧ σ[i]? = some (some v) ∧ ρ[i]? = some (some s) ∧ 0 < s.n ∧ Ow w F H' s.n v d L' ∧ putOuts as os ρ = putD ρ i d ∧ (outsFlat sg os = true → flatN s.n d = true)
  | [], [], [], [], _, h, _, _, _ => .inl ⟨rfl, h, rfl⟩
  | [], [], [], _ :: _, _, h, _, _, _ => h.elim
  | [], [], _ :: _, _, _, _, _, l, _ => by simp [lendOk] at l
  | v :: vs, .val d n :: as, 0 :: sg, os, L', h, ok, lk, l1 => by
    simp only [lendOk, Bool.and_eq_true] at lk
    have ih := outs_rel (show OutsR w F H' sg vs os L' by cases os <;> exact h) (show ArgOk σ vs as from ok) lk.2 l1
    have e : outsFlat (0 :: sg) os = outsFlat sg os := by cases os <;> rfl
    rw [e]
    exact ih
  | v :: vs, .bor d :: as, 0 :: sg, os, L', h, ok, lk, l1 => by
    simp only [lendOk, Bool.and_eq_true] at lk
    have ih := outs_rel (show OutsR w F H' sg vs os L' by cases os <;> exact h) ok.2 lk.2 l1
    have e : outsFlat (0 :: sg) os = outsFlat sg os := by cases os <;> rfl
    rw [e]
    exact ih
  | v :: vs, .val d n :: as, (l + 1) :: sg, os, L', h, ok, lk, l1 => by simp [lendOk] at lk
  | v :: vs, .bor d :: as, (l + 1) :: sg, os, L', h, ok, lk, l1 => by simp [lendOk] at lk
  | v :: vs, .lend d :: as, 0 :: sg, os, L', h, ok, lk, l1 => by simp [lendOk] at lk
  | v :: vs, .lend i :: as, (l + 1) :: sg, [], L', h, ok, lk, l1 => h.elim
  | v :: vs, .lend i :: as, (l + 1) :: sg, d :: os, L', h, ok, lk, l1 => by
    obtain ⟨f, g, h1, h2, rfl⟩ := h
    simp only [lendOk, Bool.and_eq_true] at lk
    obtain ⟨⟨_, lk1⟩, lk2⟩ := lk
    have l0 : lents as = [] := by
      cases z : lents as with
      | nil => rfl
      | cons => simp [lents, z] at l1
    rcases outs_rel h2 ok.2 lk2 (by rw [l0]; simp) with ⟨_, e1, e2⟩ | ⟨j, _, _, _, z, _⟩
    · subst e1
      split at lk1
      · rename_i s e3
        simp only [Bool.and_eq_true, beq_iff_eq] at lk1
        refine .inr ⟨i, v, s, d, by simp [lents, l0], ok.1, e3, by omega, by rw [lk1.1, List.append_nil]; exact h1, ?_, fun fl => ?_⟩
        · have : ∀ (r : Env), putOuts as os r = r := by
            intro r
            have gen : ∀ (as : List Arg) (os : List PyData) (r : Env), lents as = [] → putOuts as os r = r := by
              intro as
              induction as with
              | nil => intro os r _; cases os <;> rfl
              | cons a as ih =>
                intro os r hl
                cases a with
                | val => exact ih os r hl
                | bor => exact ih os r hl
                | lend => simp [lents] at hl
            exact gen as os r l0
          show putOuts as os (putD ρ i d) = putD ρ i d
          exact this _
        · rw [lk1.1]
          simp only [outsFlat, Bool.and_eq_true] at fl
          exact fl.1
      · exact absurd lk1 Bool.false_ne_true
    · rw [l0] at z; cases z
  | _ :: _, [], _, _, _, _, ok, _, _ => ok.elim
  | [], _ :: _, _, _, _, _, ok, _, _ => ok.elim
  | _ :: _, .val _ _ :: _, [], _, _, _, _, l, _ => by simp [lendOk] at l
  | _ :: _, .bor _ :: _, [], _, _, _, _, l, _ => by simp [lendOk] at l
  | _ :: _, .lend _ :: _, [], _, _, _, _, l, _ => by simp [lendOk] at l
end
section
variable {w : World} {c : Fr} {σ : List (Option V)} {ρ ρ' : Env} {τ : List Item} {H H' F F' : Hp} {O : List Addr}
theorem mem_bors {as : List Arg} {ds : List PyData} : ∀ {as : List Arg} {ds : List PyData} {vs : List V}, argsD ρ as = some ds → ArgOk σ vs as → ∀ b ∈ bors as, ∃ v s, σ[b]? = some (some v) ∧ ρ[b]? = some (some s)
  | [], _, _, _, _, b, hb => by simp [bors] at hb
  | .val d n :: as, ds, v :: vs, e, ok, b, hb => by
    obtain ⟨ds', e1, _⟩ := Option.map_eq_some_iff.mp (show (argsD ρ as).map (d :: ·) = some ds from e)
    exact mem_bors (as := as) (ds := ds) e1 (show ArgOk σ vs as from ok) b hb
  | .lend i :: as, ds, v :: vs, e, ok, b, hb => by
    unfold argsD at e
    split at e
    · obtain ⟨ds', e1, _⟩ := Option.map_eq_some_iff.mp e
      exact mem_bors (as := as) (ds := ds) e1 ok.2 b hb
    · cases e
  | .bor i :: as, ds, v :: vs, e, ok, b, hb => by
    unfold argsD at e
    split at e
    · rename_i s hs
      obtain ⟨ds', e1, _⟩ := Option.map_eq_some_iff.mp e
      rcases List.mem_cons.mp (show b ∈ i :: bors as from hb) with rfl | hb
      · exact ⟨v, s, ok.1, hs⟩
      · exact mem_bors (as := as) (ds := ds) e1 ok.2 b hb
    · cases e
  | _ :: _, _, [], _, ok, _, _ => ok.elim
/-- THE CALL: what the callee is given, and the state behind it -/
theorem sta_call {vs : List V} {as : List Arg} {ds : List PyData} {sg : List Nat} (h : Sta w c σ ρ (τ ++ tmA vs as) H) (ok : ArgOk σ vs as) (e : argsD ρ as = some ds) (lk : lendOk ρ as sg = true)
    (l1 : (lents as).length ≤ 1) (ln : ∀ i ∈ lents as, i ∉ bors as) :
    ∃ B L, (∀ b ∈ B, H b ≠ none) ∧ L.Nodup ∧ (∀ a ∈ L, a ∉ B) ∧ vs.length = sg.length ∧ ArgsR w (hide (B ++ L) H) H sg vs ds L ∧
      ∀ d n os v H' fp L', (∀ a o, H a = some o → a ∉ L → H' a = some o) → (fp ++ L').Nodup → (∀ a ∈ fp ++ L', a ∉ B ∧ (a ∈ L ∨ H a = none)) →
        Ow w (hide (B ++ (fp ++ L')) H') H' n v d fp → OutsR w (hide (B ++ (fp ++ L')) H') H' sg vs os L' → (bors as = [] ∨ (flatN n d = true ∧ outsFlat sg os = true)) →
        Sta w c σ (putOuts as os ρ) (τ ++ t1 v d n) H' := by
  obtain ⟨⟨O, q0⟩, h2, h3⟩ := h
  rw [← List.append_assoc] at q0
  -- the items but the lent slot, and the lent slot
  have split : ∃ (A C : List Item) (md : List Item) (fA fj fC g : List Addr), zs σ ρ ++ τ = A ++ (md ++ C) ∧ O = fA ++ (fj ++ fC) ++ g ∧
      (let F := hide (c.B ++ O) H
       ItsR w F H A fA ∧ ItsR w F H C fC ∧ ItsR w F H (tmA vs as) g ∧
       ((lents as = [] ∧ md = [] ∧ fj = []) ∨ ∃ i v s, lents as = [i] ∧ σ[i]? = some (some v) ∧ ρ[i]? = some (some s) ∧ md = [(some v, some s)] ∧ A = (zs σ ρ).take i ∧ C = (zs σ ρ).drop (i + 1) ++ τ ∧ Ow w F H s.n v s.d fj) ∧
       ∀ b ∈ bors as, ∃ v s fb, σ[b]? = some (some v) ∧ ρ[b]? = some (some s) ∧ Ow w F H s.n v s.d fb ∧ ∀ a ∈ fb, a ∈ fA ++ fC) := by
    obtain ⟨f1, g, i1, i2, e1⟩ := q0.its.unappend
    cases hl : lents as with
    | nil =>
      refine ⟨zs σ ρ ++ τ, [], [], f1, [], [], g, by simp, by simpa using e1, i1, rfl, i2, .inl ⟨rfl, rfl, rfl⟩, fun b hb => ?_⟩
      obtain ⟨v, s, eb1, eb2⟩ := mem_bors (as := as) (ds := ds) e ok b hb
      have hz := zs_get eb1 eb2
      have : (zs σ ρ ++ τ)[b]? = some (some v, some s) := by
        rw [List.getElem?_append_left (List.getElem?_eq_some_iff.mp hz).1]; exact hz
      obtain ⟨fb, r, k⟩ := i1.get this
      exact ⟨v, s, fb, eb1, eb2, r, fun a ha => by simpa using k a ha⟩
    | cons i t =>
      have ht : t = [] := by rw [hl] at l1; cases t <;> simp_all
      subst ht
      have hi : ∃ v s, σ[i]? = some (some v) ∧ ρ[i]? = some (some s) := by
        have gen : ∀ (as : List Arg) (ds : List PyData) (vs : List V), argsD ρ as = some ds → ArgOk σ vs as → ∀ b ∈ lents as, ∃ v s, σ[b]? = some (some v) ∧ ρ[b]? = some (some s) := by
          intro as
          induction as with
          | nil => intro _ _ _ _ b hb; simp [lents] at hb
          | cons a as ih =>
            intro ds vs e ok b hb
            cases vs with
            | nil => cases a <;> exact ok.elim
            | cons v vs =>
              cases a with
              | val d n =>
                obtain ⟨ds', e1, _⟩ := Option.map_eq_some_iff.mp (show (argsD ρ as).map (d :: ·) = some ds from e)
                exact ih _ vs e1 ok b hb
              | bor j =>
                unfold argsD at e
                split at e
                · obtain ⟨ds', e1, _⟩ := Option.map_eq_some_iff.mp e
                  exact ih _ vs e1 ok.2 b hb
                · cases e
              | lend j =>
                unfold argsD at e
                split at e
                · rename_i s hs
                  obtain ⟨ds', e1, _⟩ := Option.map_eq_some_iff.mp e
                  rcases List.mem_cons.mp (show b ∈ j :: lents as from hb) with rfl | hb
                  · exact ⟨v, s, ok.1, hs⟩
                  · exact ih _ vs e1 ok.2 b hb
                · cases e
        exact gen as ds vs e ok i (by rw [hl]; simp)
      obtain ⟨v, s, ev, es⟩ := hi
      have hz := zs_get ev es
      have eq : zs σ ρ ++ τ = (zs σ ρ).take i ++ ([(some v, some s)] ++ ((zs σ ρ).drop (i + 1) ++ τ)) := by
        conv => lhs; rw [split_at hz]
        simp
      rw [eq] at i1
      obtain ⟨fA, f2, i3, i4, e2⟩ := i1.unappend
      obtain ⟨fj, fC, i5, i6, e3⟩ := i4.unappend
      obtain ⟨fj', z, i7, i8, e4⟩ := i5
      have z0 : z = [] := i8
      rw [z0, List.append_nil] at e4
      subst e4
      subst e3
      subst e2
      refine ⟨_, _, [(some v, some s)], fA, fj, fC, g, eq, e1, i3, i6, i2, .inr ⟨i, v, s, rfl, ev, es, rfl, rfl, rfl, i7⟩, fun b hb => ?_⟩
      obtain ⟨u, t, eb1, eb2⟩ := mem_bors (as := as) (ds := ds) e ok b hb
      have hne : b ≠ i := fun z => ln i (by rw [hl]; simp) (z ▸ hb)
      have hzb := zs_get eb1 eb2
      rcases Nat.lt_or_ge b i with hbi | hbi
      · have : ((zs σ ρ).take i)[b]? = some (some u, some t) := by rw [List.getElem?_take_of_lt hbi]; exact hzb
        obtain ⟨fb, r, k⟩ := i3.get this
        exact ⟨u, t, fb, eb1, eb2, r, fun a ha => List.mem_append_left _ (k a ha)⟩
      · have hb2 : i + 1 ≤ b := by omega
        have : ((zs σ ρ).drop (i + 1) ++ τ)[b - (i + 1)]? = some (some u, some t) := by
          rw [List.getElem?_append_left (by rw [List.length_drop]; have := (List.getElem?_eq_some_iff.mp hzb).1; omega), List.getElem?_drop]
          rw [show i + 1 + (b - (i + 1)) = b by omega]; exact hzb
        obtain ⟨fb, r, k⟩ := i6.get this
        exact ⟨u, t, fb, eb1, eb2, r, fun a ha => List.mem_append_right _ (k a ha)⟩
  obtain ⟨A, C, md, fA, fj, fC, g, eL, eO, iA, iC, ig, hmd, hbor⟩ := split
  subst eO
  rw [eL] at q0
  have q := q0
  obtain ⟨bfp, kb1, kb0, kb2⟩ := bor_fps (bors as) hbor
  have ndO := q.nd
  have dj : ∀ a ∈ fj, a ∉ fA ∧ a ∉ fC ∧ a ∉ g := fun a ha => by
    refine ⟨fun z => nodup_dis (nodup_left ndO) z (List.mem_append_left _ ha), fun z => nodup_dis (nodup_right (nodup_left ndO)) ha z, fun z => nodup_dis ndO ?_ z⟩
    simp only [List.mem_append]; exact .inr (.inl ha)
  have dg : ∀ a ∈ g, a ∉ fA ∧ a ∉ fj ∧ a ∉ fC := fun a ha => by
    have : a ∉ fA ++ (fj ++ fC) := fun z => nodup_dis ndO z ha
    simp only [List.mem_append, not_or] at this
    exact this
  have inO : ∀ a, a ∈ fA ∨ a ∈ fj ∨ a ∈ fC ∨ a ∈ g → a ∈ fA ++ (fj ++ fC) ++ g := fun a ha => by
    simp only [List.mem_append]
    rcases ha with z | z | z | z
    · exact .inl (.inl z)
    · exact .inl (.inr (.inl z))
    · exact .inl (.inr (.inr z))
    · exact .inr z
  let B := c.B ++ (fA ++ fC).filter (fun a => decide (a ∉ bfp))
  have memB : ∀ a, a ∈ B ↔ a ∈ c.B ∨ ((a ∈ fA ∨ a ∈ fC) ∧ a ∉ bfp) := fun a => by
    show a ∈ c.B ++ (fA ++ fC).filter (fun a => decide (a ∉ bfp)) ↔ _
    simp only [List.mem_append, List.mem_filter, decide_eq_true_eq]
  have sv0 : Sub (hide (c.B ++ (fA ++ (fj ++ fC) ++ g)) H) (hide (B ++ fj) H) := fun a o z => by
    obtain ⟨z1, z2⟩ := hide_some.mp z
    refine hide_some.mpr ⟨fun y => z1 ?_, z2⟩
    rcases List.mem_append.mp y with y | y
    · rcases (memB a).mp y with y | ⟨y, _⟩
      · exact List.mem_append_left _ y
      · exact List.mem_append_right _ (inO a (y.elim .inl fun y => .inr (.inr (.inl y))))
    · exact List.mem_append_right _ (inO a (.inr (.inl y)))
  refine ⟨B, fj, fun b hb => ?_, ?_, fun a ha hb => ?_, args_len ok lk, ?_, fun d n os v H' fp L' hk nd hsub ow ou fl => ?_⟩
  · rcases (memB b).mp hb with y | ⟨y, _⟩
    · exact q.bar b y
    · exact q.here b (inO b (y.elim .inl fun y => .inr (.inr (.inl y))))
  · exact nodup_left (nodup_right (nodup_left ndO))
  · rcases (memB a).mp hb with y | ⟨y, _⟩
    · exact q.dis a (inO a (.inr (.inl ha))) y
    · exact y.elim (dj a ha).1 (dj a ha).2.1
  · have r := args_rel (fj := fj) sv0 ig ok e lk l1 (fun a ha o z => hide_some.mpr ⟨fun y => ?_, z⟩) (fun b hb => ?_) (fun i hi => ?_)
    · rcases hmd with ⟨l0, _, f0⟩ | ⟨i, _, _, l0, _⟩
      · rw [l0] at r
        have r' : ArgsR w (hide (B ++ fj) H) H sg vs ds [] := r
        rw [f0] at r' ⊢
        exact r'
      · rw [l0] at r; exact r
    · rcases List.mem_append.mp y with y | y
      · rcases (memB a).mp y with y | ⟨y, _⟩
        · exact q.dis a (inO a (.inr (.inr (.inr ha)))) y
        · exact y.elim (dg a ha).1 (dg a ha).2.2
      · exact (dg a ha).2.1 y
    · obtain ⟨u, t, fb, e1, e2, ow, k⟩ := kb2 b hb
      refine ⟨u, t, e1, e2, Ow.fz sv0 _ _ _ _ ow fun a ha o z => hide_some.mpr ⟨fun y => ?_, z⟩⟩
      have hab := k a ha
      have haf := kb1 a hab
      rcases List.mem_append.mp y with y | y
      · rcases (memB a).mp y with y | ⟨_, y⟩
        · exact q.dis a (inO a ((List.mem_append.mp haf).elim .inl fun z => .inr (.inr (.inl z)))) y
        · exact y hab
      · exact (List.mem_append.mp haf).elim (dj a y).1 (dj a y).2.1
    · rcases hmd with ⟨l0, _, f0⟩ | ⟨j, u, t, l0, e1, e2, _, _, _, ow⟩
      · rw [l0] at hi; cases hi
      · rw [l0, List.mem_singleton] at hi
        subst hi
        exact ⟨u, t, e1, e2, Ow.mono sv0 _ _ _ _ ow fun _ _ _ z => z⟩
  · -- behind the call
    have nf : ∀ a ∈ fp ++ L', a ∉ fA ∧ a ∉ fC := fun a ha => by
      rcases (hsub a ha).2 with y | y
      · exact ⟨(dj a y).1, (dj a y).2.1⟩
      · exact ⟨fun z => q.here a (inO a (.inl z)) y, fun z => q.here a (inO a (.inr (.inr (.inl z)))) y⟩
    have ndO' : (fA ++ (L' ++ fC) ++ fp).Nodup := by
      have n1 : fA.Nodup := nodup_left (nodup_left ndO)
      have n2 : fC.Nodup := nodup_right (nodup_right (nodup_left ndO))
      have ac : ∀ a ∈ fA, a ∉ fC := fun a ha z => nodup_dis (nodup_left ndO) ha (List.mem_append_right _ z)
      have l2 := nodup_right nd
      have l3 := nodup_left nd
      have l4 : ∀ a ∈ fp, a ∉ L' := fun a ha => nodup_dis nd ha
      simp only [List.nodup_append, List.mem_append]
      refine ⟨⟨n1, ⟨l2, n2, fun a ha b hb z => (nf a (List.mem_append_right _ ha)).2 (z ▸ hb)⟩, fun a ha b hb z => ?_⟩, l3, fun a ha b hb z => ?_⟩
      · subst z
        rcases hb with y | y
        · exact (nf a (List.mem_append_right _ y)).1 ha
        · exact ac a ha y
      · subst z
        rcases ha with y | y | y
        · exact (nf a (List.mem_append_left _ hb)).1 y
        · exact l4 a hb y
        · exact (nf a (List.mem_append_left _ hb)).2 y
    -- the old view and the callee's within the new view
    have svN : Sub (hide (c.B ++ (fA ++ (fj ++ fC) ++ g)) H) (hide (c.B ++ (fA ++ (L' ++ fC) ++ fp)) H') := fun a o z => by
      obtain ⟨z1, z2⟩ := hide_some.mp z
      simp only [List.mem_append, not_or] at z1
      obtain ⟨y1, ⟨y2, y3, y4⟩, y5⟩ := z1
      have fresh : a ∉ fp ++ L' := fun y => by
        rcases (hsub a y).2 with x | x
        · exact y3 x
        · rw [z2] at x; cases x
      simp only [List.mem_append, not_or] at fresh
      refine hide_some.mpr ⟨fun y => ?_, hk a o z2 y3⟩
      simp only [List.mem_append] at y
      rcases y with y | (y | y | y) | y
      · exact y1 y
      · exact y2 y
      · exact fresh.2 y
      · exact y4 y
      · exact fresh.1 y
    have tsC : TSub (hide (B ++ (fp ++ L')) H') (hide (c.B ++ (fA ++ (L' ++ fC) ++ fp)) H') := fun a xs z => by
      obtain ⟨z1, z2⟩ := hide_some.mp z
      simp only [List.mem_append, not_or] at z1
      obtain ⟨y1, y2, y3⟩ := z1
      have nB := fun y => y1 ((memB a).mpr y)
      refine hide_some.mpr ⟨fun y => ?_, z2⟩
      have cf : a ∈ fA ∨ a ∈ fC → False := fun y => by
        by_cases x : a ∈ bfp
        · have hc := q.its.cont a (inO a (y.elim .inl fun y => .inr (.inr (.inl y))))
          cases hz : H a with
          | none => exact q.here a (inO a (y.elim .inl fun y => .inr (.inr (.inl y)))) hz
          | some o =>
            have := hk a o hz (fun x => y.elim (dj a x).1 (dj a x).2.1)
            rw [z2] at this
            cases this
            rw [hz] at hc
            exact hc
        · exact nB (.inr ⟨y, x⟩)
      simp only [List.mem_append] at y
      rcases y with y | (y | y | y) | y
      · exact nB (.inl y)
      · exact cf (.inl y)
      · exact y3 y
      · exact cf (.inr y)
      · exact y2 y
    have sC : bors as = [] → Sub (hide (B ++ (fp ++ L')) H') (hide (c.B ++ (fA ++ (L' ++ fC) ++ fp)) H') := fun hb a o z => by
      obtain ⟨z1, z2⟩ := hide_some.mp z
      simp only [List.mem_append, not_or] at z1
      obtain ⟨y1, y2, y3⟩ := z1
      have b0 := kb0 hb
      have nB := fun y => y1 ((memB a).mpr y)
      refine hide_some.mpr ⟨fun y => ?_, z2⟩
      simp only [List.mem_append] at y
      rcases y with y | (y | y | y) | y
      · exact nB (.inl y)
      · exact nB (.inr ⟨.inl y, by rw [b0]; simp⟩)
      · exact y3 y
      · exact nB (.inr ⟨.inr y, by rw [b0]; simp⟩)
      · exact y2 y
    have lift : ∀ {m : Nat} {v : V} {d : PyData} {f : List Addr}, (bors as = [] ∨ flatN m d = true) → Ow w (hide (B ++ (fp ++ L')) H') H' m v d f → Ow w (hide (c.B ++ (fA ++ (L' ++ fC) ++ fp)) H') H' m v d f := fun {m v d f} z o => by
      by_cases hb : bors as = []
      · exact Ow.mono (sC hb) _ _ _ _ o fun _ _ _ y => y
      · exact Ow.tsub tsC _ _ _ _ (z.resolve_left hb) o
    have jA : ItsR w (hide (c.B ++ (fA ++ (L' ++ fC) ++ fp)) H') H' A fA := iA.mono svN fun a ha o z => hk a o z fun y => (dj a y).1 ha
    have jC : ItsR w (hide (c.B ++ (fA ++ (L' ++ fC) ++ fp)) H') H' C fC := iC.mono svN fun a ha o z => hk a o z fun y => (dj a y).2.1 ha
    have jr : ItsR w (hide (c.B ++ (fA ++ (L' ++ fC) ++ fp)) H') H' (t1 v d n) fp := ⟨fp, [], lift (fl.imp id And.left) ow, rfl, by simp⟩
    have subO : ∀ a ∈ fA ++ (L' ++ fC) ++ fp, a ∈ fA ++ (fj ++ fC) ++ g ∨ H a = none := fun a ha => by
      simp only [List.mem_append] at ha
      have new : a ∈ fp ++ L' → a ∈ fA ++ (fj ++ fC) ++ g ∨ H a = none := fun y => (hsub a y).2.imp (fun x => inO a (.inr (.inl x))) id
      rcases ha with (y | y | y) | y
      · exact .inl (inO a (.inl y))
      · exact new (List.mem_append_right _ y)
      · exact .inl (inO a (.inr (.inr (.inl y))))
      · exact new (List.mem_append_left _ y)
    have fin : ∀ {md' : List Item}, ItsR w (hide (c.B ++ (fA ++ (L' ++ fC) ++ fp)) H') H' md' L' → FitsO w c (A ++ (md' ++ C) ++ t1 v d n) H' (fA ++ (L' ++ fC) ++ fp) := fun {md'} jm =>
      q.updAll fj (fun a ha => inO a (.inr (.inl ha))) hk ndO' subO ((jA.append (jm.append jC)).append jr)
    rcases outs_rel ou ok lk l1 with ⟨l0, L0, ep⟩ | ⟨i, u, t, d', l0, e1, e2, hn, ow', ep, hf⟩
    · rw [ep]
      rcases hmd with ⟨_, m0, _⟩ | ⟨j, _, _, z, _⟩
      · have := fin (md' := []) L0
        rw [m0] at eL
        rw [← eL, List.append_assoc] at this
        exact ⟨⟨_, this⟩, h2, h3⟩
      · rw [l0] at z; cases z
    · rw [ep]
      rcases hmd with ⟨z, _⟩ | ⟨j, u', t', z, e3, e4, m0, eA, eC, _⟩
      · rw [l0] at z; cases z
      · rw [l0] at z
        cases z
        rw [e1] at e3; cases e3
        rw [e2] at e4; cases e4
        have eput : putD ρ i d' = ρ.set i (some { t with d := d' }) := by unfold putD; rw [e2]
        have := fin (md' := [(some u, some { t with d := d' })]) ⟨L', [], lift (fl.imp id fun y => hf y.2) ow', rfl, by simp⟩
        have hz := zs_get e1 e2
        have eq2 : A ++ ([(some u, some { t with d := d' })] ++ C) = zs σ (putD ρ i d') ++ τ := by
          have hσ : σ.set i (some u) = σ := by
            obtain ⟨g1, g2⟩ := List.getElem?_eq_some_iff.mp e1
            rw [← g2, List.set_getElem_self]
          have : zs σ (putD ρ i d') = (zs σ ρ).set i (some u, some { t with d := d' }) := by
            rw [eput]
            conv => lhs; rw [← hσ]
            exact zs_set
          rw [this, set_split hz, eA, eC]
          simp
        rw [eq2, List.append_assoc] at this
        refine ⟨⟨_, this⟩, by rw [eput, List.length_set]; exact h2, fun p hp' => ?_⟩
        obtain ⟨z1, s0, z2, z3⟩ := h3 p hp'
        refine ⟨z1, ?_⟩
        rw [eput]
        by_cases hi : p.1 = i
        · rw [hi] at z2 ⊢
          rw [e2] at z2
          cases z2
          exact ⟨{ t with d := d' }, by rw [List.getElem?_set_self (List.getElem?_eq_some_iff.mp e2).1], z3⟩
        · exact ⟨s0, by rw [List.getElem?_set_ne (Ne.symm hi)]; exact z2, z3⟩
end
end PL
end
section
set_option Elab.async false
set_option linter.all false
set_option maxRecDepth 100000
set_option maxHeartbeats 2000000
/-! PL11: what is walked; comprehensions. -/
namespace PL
open L2 PyProof.Rows PySem.Spec PySem
section
variable {w : World} {c : Fr} {σ : List (Option V)} {ρ ρ' : Env} {τ : List Item} {H H' F F' : Hp} {O : List Addr}
theorem free_prot {i : Nat} {p : Nat × V} (h : Pins c σ ρ) (hp : p ∈ c.pins) (f : free i ρ) : p.1 ≠ i := fun e => by
  obtain ⟨_, s, z, k⟩ := h p hp
  rw [e] at z
  unfold free at f
  rw [z] at f
  have : s.prot = false := f
  rw [k] at this; cases this
/-- a slot stored: what it held is let go -/
theorem Sta.store {i : Nat} {v : V} {d : PyData} {n : Nat} (h : Sta w c σ ρ (τ ++ t1 v d n) H) (f : free i ρ) : Sta w c (σ.set i (some v)) (ρ.set i (val d n)) τ H := by
  obtain ⟨⟨O, q⟩, h2, h3⟩ := h
  have hi : i < ρ.length := by
    unfold free at f
    cases e : ρ[i]? with
    | none => rw [e] at f; exact f.elim
    | some s => exact (List.getElem?_eq_some_iff.mp e).1
  have hi2 : i < (zs σ ρ).length := by rw [zs_len h2, ← h2]; exact hi
  have hz : (zs σ ρ)[i]? = some (zs σ ρ)[i] := List.getElem?_eq_getElem hi2
  have eq : zs σ ρ ++ (τ ++ t1 v d n) = (((zs σ ρ).take i ++ ((zs σ ρ)[i] :: ((zs σ ρ).drop (i + 1) ++ τ))) ++ t1 v d n) := by
    conv => lhs; rw [split_at hz]
    simp only [List.append_assoc, List.cons_append, List.nil_append, List.append_nil]
  rw [eq] at q
  obtain ⟨f1, g, i1, i2, e1⟩ := q.its.unappend
  subst e1
  obtain ⟨fA, f2, i3, i4, e2⟩ := i1.unappend
  subst e2
  obtain ⟨fj, fC, i5, i6, e3⟩ := i4
  subst e3
  obtain ⟨gj, z, i7, i8, e4⟩ := i2
  have z0 : z = [] := i8
  rw [z0, List.append_nil] at e4
  subst e4
  have q2 := q.upd (it' := (some v, val d n)) (H' := H) (fj' := g) i3 i6 (fun a o e _ => e) (fun a ha => q.here a (by simp only [List.mem_append]; exact .inl (.inr (.inl ha)))) (nodup_right q.nd)
    (fun a ha => .inr (.inl ha)) fun sv _ => Ow.mono sv _ _ _ _ i7 fun _ _ _ z => z
  have eq2 : (zs σ ρ).take i ++ ((some v, val d n) :: ((zs σ ρ).drop (i + 1) ++ τ)) = zs (σ.set i (some v)) (ρ.set i (val d n)) ++ τ := by
    rw [zs_set, set_split hz]; simp
  rw [eq2] at q2
  refine ⟨⟨_, q2⟩, by simp [h2], fun p hp => ?_⟩
  obtain ⟨z1, s, z2, z3⟩ := h3 p hp
  have ne := free_prot h3 hp f
  exact ⟨by rw [List.getElem?_set_ne (Ne.symm ne)]; exact z1, s, by rw [List.getElem?_set_ne (Ne.symm ne)]; exact z2, z3⟩
/-- slots forgotten -/
theorem Sta.forget1 {i : Nat} (h : Sta w c σ ρ τ H) (f : free i ρ) : Sta w c σ (ρ.set i none) τ H := by
  obtain ⟨⟨O, q⟩, h2, h3⟩ := h
  have hi : i < ρ.length := by
    unfold free at f
    cases e : ρ[i]? with
    | none => rw [e] at f; exact f.elim
    | some s => exact (List.getElem?_eq_some_iff.mp e).1
  have hiσ : i < σ.length := by rw [← h2]; exact hi
  have hi2 : i < (zs σ ρ).length := by rw [zs_len h2]; exact hiσ
  have hz : (zs σ ρ)[i]? = some (zs σ ρ)[i] := List.getElem?_eq_getElem hi2
  have eq : zs σ ρ ++ τ = (((zs σ ρ).take i ++ ((zs σ ρ)[i] :: ((zs σ ρ).drop (i + 1) ++ τ))) ++ []) := by
    conv => lhs; rw [split_at hz]
    simp only [List.append_assoc, List.cons_append, List.nil_append, List.append_nil]
  rw [eq] at q
  obtain ⟨f1, g, i1, i2, e1⟩ := q.its.unappend
  subst e1
  obtain ⟨fA, f2, i3, i4, e2⟩ := i1.unappend
  subst e2
  obtain ⟨fj, fC, i5, i6, e3⟩ := i4
  subst e3
  have q2 := q.upd (it' := (σ[i], none)) (H' := H) (fj' := []) i3 i6 (fun a o e _ => e) (fun a ha => q.here a (by simp only [List.mem_append]; exact .inl (.inr (.inl ha)))) .nil
    (fun a ha => by cases ha) fun sv _ => (show ([] : List Addr) = [] from rfl)
  have eσ : σ.set i σ[i] = σ := List.set_getElem_self hiσ
  have eq2 : (zs σ ρ).take i ++ ((σ[i], none) :: ((zs σ ρ).drop (i + 1) ++ τ)) = zs σ (ρ.set i none) ++ τ := by
    have : zs σ (ρ.set i none) = (zs σ ρ).set i (σ[i], none) := by
      conv => lhs; rw [← eσ]
      exact zs_set
    rw [this, set_split hz]; simp
  rw [eq2] at q2
  refine ⟨⟨_, q2⟩, by simp [h2], fun p hp => ?_⟩
  obtain ⟨z1, s, z2, z3⟩ := h3 p hp
  have ne := free_prot h3 hp f
  exact ⟨z1, s, by rw [List.getElem?_set_ne (Ne.symm ne)]; exact z2, z3⟩
theorem free_set {i j : Nat} (f : free j ρ) (fi : free i ρ) : free j (ρ.set i none) := by
  unfold free at f ⊢
  by_cases h : j = i
  · subst h
    cases e : ρ[j]? with
    | none => rw [e] at f; exact f.elim
    | some s => rw [List.getElem?_set_self (List.getElem?_eq_some_iff.mp e).1]; trivial
  · rw [List.getElem?_set_ne (Ne.symm h)]; exact f
theorem Sta.forget : ∀ {vs : List Nat} {ρ : Env}, Sta w c σ ρ τ H → okForget vs ρ → Sta w c σ (forgetS vs ρ) τ H
  | [], _, h, _ => h
  | i :: vs, ρ, h, ok => by
    have f1 := ok i (by simp)
    exact Sta.forget (vs := vs) (h.forget1 f1) fun j hj => free_set (ok j (List.mem_cons_of_mem _ hj)) f1
theorem forget_len : ∀ (vs : List Nat) (ρ : Env), (forgetS vs ρ).length = ρ.length
  | [], _ => rfl
  | i :: vs, ρ => by
    show (forgetS vs (ρ.set i none)).length = _
    rw [forget_len vs, List.length_set]
theorem forget_get : ∀ {vs : List Nat} {ρ : Env} {j : Nat} {s : Slot}, (forgetS vs ρ)[j]? = some (some s) → ρ[j]? = some (some s) ∧ j ∉ vs
  | [], _, _, _, h => ⟨h, by simp⟩
  | i :: vs, ρ, j, s, h => by
    obtain ⟨h1, h2⟩ := forget_get (vs := vs) (ρ := ρ.set i none) h
    by_cases e : j = i
    · subst e
      cases z : ρ[j]? with
      | none => rw [List.getElem?_eq_none (by rw [List.length_set]; exact List.getElem?_eq_none_iff.mp z)] at h1; cases h1
      | some _ => rw [List.getElem?_set_self (List.getElem?_eq_some_iff.mp z).1] at h1; cases h1
    · rw [List.getElem?_set_ne (Ne.symm e)] at h1
      exact ⟨h1, by simp [e, h2]⟩
theorem forget_none : ∀ {vs : List Nat} {ρ : Env} {j : Nat}, j ∈ vs → j < ρ.length → (forgetS vs ρ)[j]? = some none
  | i :: vs, ρ, j, h, hl => by
    show (forgetS vs (ρ.set i none))[j]? = _
    by_cases e : j ∈ vs
    · exact forget_none e (by rw [List.length_set]; exact hl)
    · have : j = i := (List.mem_cons.mp h).resolve_right e
      subst this
      have keep : ∀ (vs : List Nat) (ρ : Env), j ∉ vs → (forgetS vs ρ)[j]? = ρ[j]? := by
        intro vs
        induction vs with
        | nil => intro ρ _; rfl
        | cons k vs ih =>
          intro ρ hn
          show (forgetS vs (ρ.set k none))[j]? = _
          rw [ih _ (fun z => hn (List.mem_cons_of_mem _ z)), List.getElem?_set_ne (fun z => hn (by rw [z]; simp))]
      rw [keep vs _ e, List.getElem?_set_self hl]
theorem forget_keep : ∀ {vs : List Nat} {ρ : Env} {j : Nat}, j ∉ vs → (forgetS vs ρ)[j]? = ρ[j]?
  | [], _, _, _ => rfl
  | i :: vs, ρ, j, h => by
    show (forgetS vs (ρ.set i none))[j]? = _
    rw [forget_keep (fun z => h (List.mem_cons_of_mem _ z)), List.getElem?_set_ne (fun z => h (by rw [z]; simp))]
/-- other values in slots that hold nothing known -/
theorem ItsR.anyV : ∀ {σ σ' : List (Option V)} {ρ : Env} {τ : List Item} {O : List Addr}, σ.length = σ'.length → (∀ (i : Nat) s, ρ[i]? = some (some s) → σ[i]? = σ'[i]?) → ItsR w F H (zs σ ρ ++ τ) O → ItsR w F H (zs σ' ρ ++ τ) O
  | [], [], _, _, _, _, _, h => h
  | x :: σ, y :: σ', [], _, _, _, _, h => h
  | x :: σ, y :: σ', r :: ρ, τ, O, hl, k, h => by
    obtain ⟨f, g, h1, h2, e⟩ := (show ItsR w F H ((x, r) :: (zs σ ρ ++ τ)) O from h)
    refine ⟨f, g, ?_, ItsR.anyV (by simpa using hl) (fun i s hs => by have := k (i + 1) s (by simpa using hs); simpa using this) h2, e⟩
    cases r with
    | none => cases x <;> cases y <;> exact h1
    | some s =>
      have := k 0 s rfl
      simp at this
      rw [← this]; exact h1
theorem Sta.anyV {σ' : List (Option V)} (h : Sta w c σ ρ τ H) (hl : σ.length = σ'.length) (k : ∀ (i : Nat) s, ρ[i]? = some (some s) → σ[i]? = σ'[i]?) : Sta w c σ' ρ τ H := by
  obtain ⟨⟨O, q⟩, h2, h3⟩ := h
  refine ⟨⟨O, ⟨q.its.anyV hl k, q.nd, q.dis, q.bar, q.keep, q.new⟩⟩, h2.trans hl, fun p hp => ?_⟩
  obtain ⟨z1, s, z2, z3⟩ := h3 p hp
  exact ⟨by rw [← k _ _ z2]; exact z1, s, z2, z3⟩
theorem wipe_keep {i : Nat} : ∀ {vs : List Nat}, i ∉ vs → (wipe σ vs)[i]? = σ[i]?
  | [], _ => rfl
  | v :: vs, h => by
    unfold wipe
    rw [List.getElem?_set_ne (fun z => h (by rw [z]; simp)), wipe_keep (fun z => h (List.mem_cons_of_mem _ z))]
/-- into the block, and out of it -/
theorem Sta.wiped {vs : List Nat} (h : Sta w c σ (forgetS vs ρ) τ H) : Sta w c (wipe σ vs) (forgetS vs ρ) τ H :=
  h.anyV (wipe_length σ vs).symm fun i s e => (wipe_keep (forget_get e).2).symm
theorem Sta.unwiped {vs : List Nat} (h : Sta w c (wipe σ vs) (forgetS vs ρ) τ H) : Sta w c σ (forgetS vs ρ) τ H :=
  h.anyV (wipe_length σ vs) fun i s e => wipe_keep (forget_get e).2
theorem Sta.frzT {v : V} {d : PyData} {n : Nat} (h : Sta w c σ ρ (τ ++ t1 v d n) H) : Sta w c σ ρ (τ ++ t1 v d 0) H := by
  obtain ⟨O, q, z⟩ := h.take1
  exact q.push (Out.fz z sub_hide)
/-- what a frozen temporary is, it staying -/
theorem Sta.peek {v : V} {d : PyData} (h : Sta w c σ ρ (τ ++ t1 v d 0) H) : ∃ O, StaO w c σ ρ (τ ++ t1 v d 0) H O ∧ Fz w (hide (c.B ++ O) H) v d := by
  obtain ⟨⟨O, q⟩, h2, h3⟩ := h
  have q' := q
  rw [← List.append_assoc] at q'
  obtain ⟨f, g, i1, i2, e⟩ := q'.its.unappend
  obtain ⟨f1, g1, j1, j2, e2⟩ := i2
  exact ⟨O, ⟨q, h2, h3⟩, j1.1⟩
/-- targets store -/
def tG (w : World) (tg : Tg) : TG := fun v σ H Q => ∃ (c : Fr) (τ : List Item) (ρ : Env) (d : PyData) (n : Nat) (k : Env → Prop), Sta w c σ ρ (τ ++ t1 v d n) H ∧ bindT tg d ρ k ∧
  ∀ ρ' σ', k ρ' → σ'.length = σ.length → (∀ i, i ∉ tgVars tg → σ'[i]? = σ[i]?) → Sta w c σ' ρ' τ H → Q σ' H
def tGs (w : World) (ts : Tg) : TGs := fun vs σ H Q => ∃ (c : Fr) (τ : List Item) (ρ : Env) (ds : List PyData) (k : Env → Prop), Sta w c σ ρ τ H ∧ bindT ts (.list ds) ρ k ∧
  (∀ σ' ρ', Sta w c σ' ρ' τ H → ∃ O, StaO w c σ' ρ' τ H O ∧ FzAll w (hide (c.B ++ O) H) vs ds) ∧
  ∀ ρ' σ', k ρ' → σ'.length = σ.length → (∀ i, i ∉ tgVars ts → σ'[i]? = σ[i]?) → Sta w c σ' ρ' τ H → Q σ' H
end
section
variable {Y : Tx} {N : List Str} {k : Nat} {X : Cx}
theorem pg_or {e : Expr} {t1 t2 : TG} (h1 : PG X e t1) (h2 : PG X e t2) : PG X e (fun v σ H Q => t1 v σ H Q ∨ t2 v σ H Q) :=
  ⟨fun pins s σ H v u Q I r h => h.elim (h1.run pins s σ H v u Q I r) (h2.run pins s σ H v u Q I r)⟩
theorem assignEach_of (env : PySem.Env) : ∀ {es : List Expr}, noStars es = true → (assignEach es env).length = es.length ∧ (assignEach es env).findIdx? (·.1) = none ∧ (assignEach es env).map (·.2) = es.map fun e => assign e env
  | [], _ => ⟨rfl, rfl, rfl⟩
  | e :: es, h => by
    obtain ⟨h1, h2⟩ := noStars_cons h
    obtain ⟨i1, i2, i3⟩ := assignEach_of env h2
    have e1 : assignEach (e :: es) env = (false, assign e env) :: assignEach es env := by cases e <;> first | rfl | exact absurd h1 Bool.false_ne_true
    rw [e1]
    refine ⟨by rw [List.length_cons, i1]; rfl, ?_, by rw [List.map_cons, i3]; rfl⟩
    rw [List.findIdx?_cons, i2]; rfl
mutual
theorem sG : ∀ (tg : Tg) (c : Sc) (ex : Expr), trG N c tg ex = true → At Y N c k X → PG X ex (tG X.w tg)
  | .nm i, c, ex, h, A => by
    cases ex with
    | Name x pos =>
      have h : (N[i]? == some x && isLoc c x) = true := h
      simp only [Bool.and_eq_true, beq_iff_eq] at h
      have hl : (c.sc.names.lookup x = some .local ∨ c.sc.names.lookup x = some .cell) ∧ (X.fn x = true ∨ X.env.scope.names.lookup x = some .local) := by
        have h2 := h.2
        unfold isLoc at h2
        rw [A.scope, A.fn]
        split at h2
        · rename_i q; exact ⟨.inl q, .inr q⟩
        · rename_i q; exact ⟨.inr q, .inl h2⟩
        · exact absurd h2 Bool.false_ne_true
      refine PG.imp (pg_name (by rw [A.names]; exact A.nd) (by rw [A.names]; exact h.1) (by rw [A.scope]; exact hl.1) hl.2) fun v σ H Q hq => ?_
      obtain ⟨c', τ, ρ, d, n, k', hs, ⟨hf, hk⟩, hq⟩ := hq
      exact hq _ _ hk (by simp) (fun j hj => List.getElem?_set_ne (fun z => hj (by rw [z]; simp [tgVars]))) (hs.frzT.store hf)
    | _ => exact absurd h Bool.false_ne_true
  | .tup ts, c, ex, h, A => by
    cases ex with
    | Tuple es kk pos =>
      have h : (trGs N c ts es && noStars es) = true := h
      simp only [Bool.and_eq_true] at h
      obtain ⟨a1, a2, a3⟩ := assignEach_of X.env h.2
      refine PG.imp (pg_or (pg_tup (n := es.length) A.calm (sGs ts c es h.1 A) a1 a2) (pg_unl (n := es.length) A.calm (sGs ts c es h.1 A) a1 a2)) fun v σ H Q hq => ?_
      obtain ⟨c', τ, ρ, d, n, k', hs, hb, hq⟩ := hq
      have hs0 := hs.frzT
      obtain ⟨ds, a, xs, rfl, hb, fz, ho, hv⟩ : ∃ ds a xs, v = .ref a ∧ bindT ts (.list ds) ρ k' ∧ xs.length = ds.length ∧ (SqT X.K H a xs ∨ SqL X.K H a xs) ∧ ∀ σ' ρ', Sta X.w c' σ' ρ' (τ ++ t1 (.ref a) d 0) H → ∃ O, StaO X.w c' σ' ρ' (τ ++ t1 (.ref a) d 0) H O ∧ FzAll X.w (hide (c'.B ++ O) H) xs ds := by
        cases d <;> try exact hb.elim
        · rename_i ds
          obtain ⟨O, qo, a, xs, rfl, ha, fz⟩ := hs0.peek
          have Ha := (hide_some.mp ha).2
          refine ⟨ds, a, xs, rfl, hb, fz.length, .inr (SqL.of Ha), fun σ' ρ' hs' => ?_⟩
          obtain ⟨O', q', a', xs', e', ha', fz'⟩ := hs'.peek
          cases e'
          have := (hide_some.mp ha').2
          rw [Ha] at this; cases this
          exact ⟨O', q', fz'⟩
        · rename_i ds
          obtain ⟨O, qo, a, xs, rfl, ha, fz⟩ := hs0.peek
          have Ha := (hide_some.mp ha).2
          refine ⟨ds, a, xs, rfl, hb, fz.length, .inl (SqT.of Ha), fun σ' ρ' hs' => ?_⟩
          obtain ⟨O', q', a', xs', e', ha', fz'⟩ := hs'.peek
          cases e'
          have := (hide_some.mp ha').2
          rw [Ha] at this; cases this
          exact ⟨O', q', fz'⟩
      have fin : xs.length = es.length ∧ tGs X.w ts xs σ H Q := by
        refine ⟨?_, c', τ ++ t1 (.ref a) d 0, ρ, ds, k', hs0, hb, hv, fun ρ' σ' hk hl ho hs' => hq ρ' σ' hk hl ho hs'.drop⟩
        rw [fz]
        have gen : ∀ (ts : Tg) (es : List Expr) (ds : List PyData) (ρ : Env) (k : Env → Prop), trGs N c ts es = true → bindT ts (.list ds) ρ k → ds.length = es.length := by
          intro ts
          induction ts with
          | nil => intro es ds ρ k h b; cases es with
            | nil => cases ds with
              | nil => rfl
              | cons => exact b.elim
            | cons => exact absurd h Bool.false_ne_true
          | cons a r _ ih => intro es ds ρ k h b; cases es with
            | nil => exact absurd h Bool.false_ne_true
            | cons e es => cases ds with
              | nil => exact b.elim
              | cons d ds =>
                have h : (trG N c a e && trGs N c r es) = true := h
                simp only [Bool.and_eq_true] at h
                have b : bindT a d ρ (fun ρ1 => bindT r (.list ds) ρ1 k) := b
                have mono : ∀ (a : Tg) (d : PyData) (ρ : Env) (k : Env → Prop), bindT a d ρ k → ∃ ρ', k ρ' := by
                  intro a
                  induction a with
                  | nm i => intro d ρ k b; exact ⟨_, b.2⟩
                  | nil => intro d ρ k b; cases d <;> try exact b.elim
                           rename_i l; cases l with
                           | nil => exact ⟨_, b⟩
                           | cons => exact b.elim
                  | cons a r iha ihr => intro d ρ k b; cases d <;> try exact b.elim
                                        rename_i l; cases l with
                                        | nil => exact b.elim
                                        | cons d l => obtain ⟨ρ1, b1⟩ := iha _ _ _ (show bindT a d ρ (fun ρ1 => bindT r (.list l) ρ1 k) from b); exact ihr _ _ _ b1
                  | tup ts ih => intro d ρ k b; cases d <;> try exact b.elim
                                 all_goals exact ih _ _ _ b
                obtain ⟨ρ1, b1⟩ := mono _ _ _ _ b
                rw [List.length_cons, List.length_cons, ih es ds ρ1 k h.2 b1]
          | nm => intro es ds ρ k h b; cases es <;> exact absurd h Bool.false_ne_true
          | tup => intro es ds ρ k h b; cases es <;> exact absurd h Bool.false_ne_true
        exact gen ts es ds ρ k' h.1 hb
      rcases ho with ho | ho
      · exact .inl ⟨a, xs, rfl, ho, fin.1, fin.2⟩
      · exact .inr ⟨a, xs, rfl, ho, fin.1, fin.2⟩
    | _ => exact absurd h Bool.false_ne_true
  | .nil, c, ex, h, A => by cases ex <;> exact absurd h Bool.false_ne_true
  | .cons _ _, c, ex, h, A => by cases ex <;> exact absurd h Bool.false_ne_true
theorem sGs : ∀ (ts : Tg) (c : Sc) (es : List Expr), trGs N c ts es = true → At Y N c k X → PGs X es (tGs X.w ts)
  | .nil, c, es, h, A => by
    cases es with
    | cons => exact absurd h Bool.false_ne_true
    | nil =>
      refine ⟨fun pins s σ H vs us Q I r hq => pgs_nil.run pins s σ H vs us Q I r ?_⟩
      obtain ⟨c', τ, ρ, ds, k', hs, hb, hv, hq⟩ := hq
      cases ds with
      | cons => exact hb.elim
      | nil =>
        obtain ⟨O, qo, fz⟩ := hv σ ρ hs
        cases vs with
        | nil => exact ⟨rfl, hq ρ σ hb rfl (fun _ _ => rfl) hs⟩
        | cons => exact fz.elim
  | .cons a r, c, es, h, A => by
    cases es with
    | nil => exact absurd h Bool.false_ne_true
    | cons e es =>
      have h : (trG N c a e && trGs N c r es) = true := h
      simp only [Bool.and_eq_true] at h
      have nostar : noStar e = true := by
        cases e <;> first | rfl | (exfalso; have h1 := h.1; cases a <;> exact absurd h1 Bool.false_ne_true)
      have he : (assignEach (e :: es) X.env).map (·.2) = assign e X.env :: (assignEach es X.env).map (·.2) := by
        cases e <;> first | rfl | exact absurd nostar Bool.false_ne_true
      refine ⟨fun pins s σ H vs us Q I rr hq => (pgs_cons (sG a c e h.1 A) (sGs r c es h.2 A) he).run pins s σ H vs us Q I rr ?_⟩
      obtain ⟨c', τ, ρ, ds, k', hs, hb, hv, hq⟩ := hq
      cases ds with
      | nil => exact hb.elim
      | cons d ds =>
        obtain ⟨O, qo, fz⟩ := hv σ ρ hs
        cases vs with
        | nil => exact fz.elim
        | cons v vs =>
          refine ⟨v, vs, rfl, c', τ, ρ, d, 0, _, qo.push (Out.fz fz.1 sub_hide), hb, fun ρ1 σ1 hb1 hl1 ho1 hs1 => ?_⟩
          refine ⟨c', τ, ρ1, ds, k', hs1, hb1, fun σ' ρ' hs' => ?_, fun ρ' σ' hk hl ho hs' => hq ρ' σ' hk (hl.trans hl1) (fun i hi => ?_) hs'⟩
          · obtain ⟨O', q', z⟩ := hv σ' ρ' hs'
            exact ⟨O', q', z.2⟩
          · have hi : i ∉ tgVars a ++ tgVars r := hi
            simp only [List.mem_append, not_or] at hi
            rw [ho i hi.2, ho1 i hi.1]
  | .nm _, c, es, h, A => by cases es <;> exact absurd h Bool.false_ne_true
  | .tup _, c, es, h, A => by cases es <;> exact absurd h Bool.false_ne_true
end
end
end PL
end
section
set_option Elab.async false
set_option linter.all false
set_option maxRecDepth 100000
set_option maxHeartbeats 2000000
/-! PL12: what is walked. -/
namespace PL
open L2 PyProof.Rows PySem.Spec PySem
open AutoSeq1 (wpAny_loadPart')
theorem enum_new_tuple (l : Addr) (items : Array Value) (n : Nat) (dct : Option Addr) (sl : Array (Option Value)) :
    Meets (Builtin.«enumerate.__new__» ⟨[.type "enumerate", .ref l], []⟩) (fun _ R s =>
      s.heap.get? l = some { cls := .type "tuple", dict := dct, data := .seq items n, slots := sl } ∧
      R (.ok (.ret (.ref (s.heap.push { cls := .type "tuple_iterator", data := .fields #[.ref l, .int 0 0] }).objs.size)))
        { s with heap := (s.heap.push { cls := .type "tuple_iterator", data := .fields #[.ref l, .int 0 0] }).push { cls := .type "enumerate", data := .fields #[.none, .bool false, .ref s.heap.objs.size, rawInt 0, .none, .none] } }) :=
  .of_wp fun prog w A R s h => by
    obtain ⟨hp, g, d, tk, os⟩ := s
    obtain ⟨hl, hR⟩ := h
    have hsub := sub_enumerate
    have isT : Heap.IsTuple (Shared.heap ⟨hp, g, d, tk, os⟩) l items := ⟨_, hl, rfl, n, rfl⟩
    wp_walk using wpAny_loadPart' hl
    refine wpAny_stack_any fun st => wpAny_pure ?_
    split
    · rename_i c _ _ _ _ _
      rcases hc : (c == Value.type "enumerate")
      · wp_walk using wpAny_loadPart' hl, wpAny_pyIter_tuple isT
        exact ⟨_, rfl, hR⟩
      · wp_walk using wpAny_loadPart' hl, wpAny_pyIter_tuple isT
        exact ⟨_, rfl, hR⟩
    · wp_walk using wpAny_loadPart' hl, wpAny_pyIter_tuple isT
      exact ⟨_, rfl, hR⟩
section
variable {prog : Program} {w : World} {A : Around} {E : Value → Shared → Prop} {s : Shared}
theorem call_enum_tuple {l : Addr} {items : Array Value} {Q : Value → Shared → Prop} (hL : s.heap.IsTuple l items)
    (h : ∀ h', IsEnum h' (s.heap.objs.size + 1) s.heap.objs.size 0 .none → h'.IsTupleIter s.heap.objs.size l 0 →
      (∀ b o, s.heap.get? b = some o → h'.get? b = some o) → Q (.ref (s.heap.objs.size + 1)) { s with heap := h' }) :
    wpAny (model prog w) A (call (.type "enumerate") [.ref l]) Q E s := by
  obtain ⟨⟨c, dct, dt, sl⟩, hl, hc, n, hd⟩ := hL
  have e1 : c = .type "tuple" := hc
  have e2 : dt = .seq items n := hd
  subst e1 e2
  refine callType_new F.called_enumerate (by decide) (F.typeCall_enumerate_1 _) (F.newCall_enumerate_1 _) (fun obj => F.args_object_init_2 obj _) F.entry_enumerate_new (enum_new_tuple l items n dct sl) ⟨hl, ?_⟩
  have hz : (s.heap.push { cls := .type "tuple_iterator", data := .fields #[.ref l, .int 0 0] }).objs.size = s.heap.objs.size + 1 := Heap.size_push ..
  show _ ∧ _
  rw [hz]
  have he : IsEnum ((s.heap.push { cls := .type "tuple_iterator", data := .fields #[.ref l, .int 0 0] }).push { cls := .type "enumerate", data := .fields #[.none, .bool false, .ref s.heap.objs.size, rawInt 0, .none, .none] })
      (s.heap.objs.size + 1) s.heap.objs.size 0 .none := by
    have q := Heap.get?_push_size (s.heap.push { cls := .type "tuple_iterator", data := .fields #[.ref l, .int 0 0] }) (o := { cls := .type "enumerate", data := .fields #[.none, .bool false, .ref s.heap.objs.size, rawInt 0, .none, .none] }) rfl
    rw [hz] at q
    exact q
  exact ⟨⟨_, he, rfl⟩, h _ he ⟨_, Heap.get?_push_of_some _ (Heap.get?_push_size _ rfl), rfl, rfl⟩ fun b o x => Heap.get?_push_of_some _ (Heap.get?_push_of_some _ x)⟩
end
/-- the tuple at a with its places, in new pairs -/
def ItET (K : Fg) (a : Addr) : It where
  go := fun i H => ∃ (xs : List V) (x : V), SqT K H a xs ∧ xs[i]? = some x
  yld := fun i H v H' => ∃ T x, v = .ref T ∧ H T = none ∧ H' = upd H T (.tup [.int (i : Nat), x]) ∧ ∀ xs, SqT K H a xs → xs[i]? = some x
  stop := fun i H => ∃ xs : List V, SqT K H a xs ∧ xs.length ≤ i
theorem turn_enumT {P : Program} {w : World} {K : Fg} {elts : List Expr} {kk : Nat} {tpos : Pos} (a e it : Addr) :
    Turn P w K (.Tuple elts kk tpos) (ItET K a) [e, it] e (fun i h => (∃ old, IsEnum h e it ((i : Nat) : Int) old) ∧ h.IsTupleIter it a i ∧ e ≠ it ∧ a ≠ it ∧ a ≠ e) where
  mem := List.mem_cons_self
  obj := by
    rintro i h ⟨⟨old, he⟩, ⟨o, ho, hc, hd⟩, _⟩ b hb
    rcases List.mem_cons.mp hb with rfl | hb
    · exact ⟨_, he, fun v q => nomatch q⟩
    · rw [List.mem_singleton.mp hb]
      exact ⟨o, ho, fun v q => by rw [hd] at q; cases q⟩
  keep := by
    rintro i h h' ⟨⟨old, he⟩, hi, r⟩ k
    exact ⟨⟨old, k e List.mem_cons_self _ he⟩, hi.at fun o q => k it (List.mem_cons_of_mem _ List.mem_cons_self) o q, r⟩
  item := by
    intro X hP hw hK hc i pins s σ H E I hf st hg
    subst hP hw hK
    obtain ⟨⟨old, he⟩, hit, hne, na, nae⟩ := st
    obtain ⟨xs, x, hq, hx⟩ := hg
    obtain ⟨its, rv, p, hz⟩ := I.tuple hq
    obtain ⟨u, hu, ru⟩ := rv.get hx
    have hil : it < s.heap.objs.size := by obtain ⟨_, q, _⟩ := hit; exact Heap.lt_size q
    have hel : e < s.heap.objs.size := Heap.lt_size he
    have D := Draws.tuple (prog := X.prog) (w := X.w) (A := X.A.in1) (show X.A.in1.handled = none from I.ok.hd hc) it a na its.toArray
    have hef : e ∉ [it, a] := by simp [hne, Ne.symm nae]
    have hlt : i < its.toArray.size := by rw [List.size_toArray]; exact (List.getElem?_eq_some_iff.mp hu).1
    refine wpAny_pyNext_enum_itemD D he ⟨hit, p⟩ hlt hne hef fun y h' tk hy ho hst hT hsz hk => ?_
    have ey : y = u := by
      have hy : its.toArray[i]? = some y := hy
      rw [List.getElem?_toArray, hu] at hy
      exact (Option.some.inj hy).symm
    subst ey
    refine ⟨_, rfl, wpAny_letOwnedTupleGo_enum (s := { s with heap := h', toks := tk + 1 }) ho fun h'' he' sb => ?_⟩
    have hT2 : h''.get? s.heap.objs.size = some { cls := .type "tuple", data := .seq #[.int i tk, y] } := (sb.2 _ (Nat.ne_of_gt hel)).trans hT
    have new : ObjOk X.prog X.w (upd H s.heap.objs.size (.tup [.int (i : Nat), x])) h'' s.heap.objs.size (.tup [.int (i : Nat), x]) :=
      ⟨by show 2 ≤ sizeLine; decide, [.int i tk, y], .cons ⟨_, rfl⟩ (.cons ru .nil), ⟨_, hT2, rfl, _, rfl⟩⟩
    have kp : ∀ b ob, b ∉ [e, it] → s.heap.get? b = some ob → h''.get? b = some ob := fun b ob hb q => by
      simp only [List.mem_cons, List.not_mem_nil, or_false, not_or] at hb
      exact (sb.2 b hb.1).trans (hk b ob hb.1 hb.2 q)
    refine ⟨.ref s.heap.objs.size, _, I.turnedNew (t' := tk + 1) (ch := [e, it]) kp hf (Nat.le_refl _) new, rfl,
      ⟨_, x, rfl, I.hok.fresh (Nat.le_refl _), rfl, fun ys hy => by rw [I.tuple_inj hy hq]; exact hx⟩, ⟨⟨y, ?_⟩, hst.1.at fun o q => (sb.2 it (Ne.symm hne)).trans q, hne, na, nae⟩, fun b hb => ?_⟩
    · have e1 : ((i + 1 : Nat) : Int) = (i : Int) + 1 := by omega
      rw [e1]
      exact he'
    · have hb' : b < s.heap.objs.size := by
        rcases List.mem_cons.mp hb with rfl | z
        · exact hel
        · rw [List.mem_singleton.mp z]; exact hil
      rw [upd_ne (Nat.ne_of_lt hb')]
      exact (hf b hb).1
  done := by
    intro X hP hw hK hc i pins s σ H E I hf st hg
    subst hP hw hK
    obtain ⟨⟨old, he⟩, hit, hne, na, nae⟩ := st
    obtain ⟨xs, hq, hx⟩ := hg
    obtain ⟨its, rv, p, hz⟩ := I.tuple hq
    obtain ⟨f0, f1, f2, f3, f4, f5⟩ := hf it (List.mem_cons_of_mem _ List.mem_cons_self)
    have hl := rv.length
    have hT : s.TypeIs (.ref e) "enumerate" := ⟨_, he, rfl⟩
    unfold pyNext
    refine wpAny_bind (wpAny_attempt (wpAny_callSpecial?_slot (name := Str.ofString "__next__") hT F.slot_enumerate_next (wpAny_call_entry F.slot_enumerate_next hT F.entry_enumerate_next ?_ (F.args_enumerate_next_1 _))))
    show wpAny _ _ (field (.ref e) 2 >>= _) _ _ _
    refine wpAny_bind (wpAny_field he rfl (x := .ref it) rfl ?_)
    refine wpAny_bind (wpAny_nextOf_tuple_end (show X.A.in1.handled = none from I.ok.hd hc) hit (show s.heap.IsTuple a its.toArray from p) (by simp; omega) fun h' x he' hx' => ?_)
    obtain ⟨o, ho, hcl⟩ := hx'
    refine wpAny_bind (wpAny_isInstance (T := "StopIteration") (b := true) ⟨o, ho, hcl⟩ isSubtype_stop ?_)
    exact wpAny_pure ⟨rfl, I.turned (t' := s.toks) (fun b o hb q => he' b o hb q) f0 f1 f3 f4 f5⟩
  self := fun A i s Q E st h => wpAny_pyIter_enum st.1.choose_spec h
section
variable {X : Cx} {tg : Expr} {pins : List (Addr × Obj)} {σ : List (Option V)} {H : Hp} {s : Shared} {R : It → Hp → Prop}
theorem it_list {a : Addr} {xs : List V} (I : L2.Inv X pins σ H s) (hq : SqL X.K H a xs) (q : R (Itl X.K a) H) : wpAny (model X.prog X.w) X.A (pyIter (.ref a)) (PIE X pins σ tg R) X.xe s := by
  obtain ⟨its, _, pl, _⟩ := I.list hq
  refine wpAny_pyIter_list pl.isList ⟨s.heap.objs.size, [s.heap.objs.size], _, _, H, rfl, I.kept (t' := s.toks) (fun _ _ e => Heap.get?_push_of_some _ e), turn_list a _, ⟨_, Heap.get?_push_size _ rfl, rfl, rfl⟩, ?_, q⟩
  intro b hb
  rw [List.mem_singleton.mp hb]
  exact I.fpOk (Nat.le_refl _) (I.hok.fresh (Nat.le_refl _))
theorem it_tuple {a : Addr} {xs : List V} (I : L2.Inv X pins σ H s) (hq : SqT X.K H a xs) (q : R (Itt X.K a) H) : wpAny (model X.prog X.w) X.A (pyIter (.ref a)) (PIE X pins σ tg R) X.xe s := by
  obtain ⟨its, _, pt, _⟩ := I.tuple hq
  refine wpAny_pyIter_tuple (show s.heap.IsTuple a its.toArray from pt) ⟨s.heap.objs.size, [s.heap.objs.size], _, _, H, rfl, I.kept (t' := s.toks) (fun _ _ e => Heap.get?_push_of_some _ e), turn_tuple a _, ⟨_, Heap.get?_push_size _ rfl, rfl, rfl⟩, ?_, q⟩
  intro b hb
  rw [List.mem_singleton.mp hb]
  exact I.fpOk (Nat.le_refl _) (I.hok.fresh (Nat.le_refl _))
theorem fresh2 (I : L2.Inv X pins σ H s) : ∀ b ∈ [s.heap.objs.size + 1, s.heap.objs.size], FpOk X pins H b := by
  intro b hb
  have hle : s.heap.objs.size ≤ b := by
    rcases List.mem_cons.mp hb with rfl | hb
    · omega
    · rw [List.mem_singleton.mp hb]; exact Nat.le_refl _
  exact I.fpOk hle (I.hok.fresh hle)
/-- enumerate(x), x a list or a tuple -/
theorem pi_enumA {e : Expr} {elts : List Expr} {kk : Nat} {p pos tpos : Pos} {ta : TA} (hg : Gl X "enumerate") (hm : X.mg "enumerate" = none) (ha : PA X [e] ta) (hs : noStar e = true) :
    PI X (.Tuple elts kk tpos) (.Call (.Name "enumerate" p) [e] [] pos) (fun σ H R => ta σ H fun vs H1 => ∃ a xs, vs = [.ref a] ∧ ((SqL X.K H1 a xs ∧ R (Ite X.K a) H1) ∨ (SqT X.K H1 a xs ∧ R (ItET X.K a) H1))) := by
  have he : starEach [e] X.env = [(false, eval e X.env)] := starEach_of hs [] X.env
  constructor
  intro pins s σ H R I h
  refine Call_ (ld_blt I hg hm boot_enumerate (PyProof.Rows.callWith_type1 (thn (ha.run pos pins s σ H _ I h) ?_) he rfl))
  rintro us s1 ⟨vs, H1, I1, r1, a, xs, rfl, q1⟩
  obtain ⟨u, rfl, ru⟩ := vals1 r1
  cases ru
  rcases q1 with ⟨hq, q⟩ | ⟨hq, q⟩
  · obtain ⟨its, _, pl, _⟩ := I1.list hq
    refine call_enumerate_list pl.isList ?_
    intro h' he hit _ hk
    exact wpAny_pyIter_enum he ⟨s1.heap.objs.size + 1, [s1.heap.objs.size + 1, s1.heap.objs.size], _, _, H1, rfl, I1.kept (t' := s1.toks) hk, turn_enum a _ _, ⟨⟨.none, he⟩, hit, Nat.succ_ne_self _⟩, fresh2 I1, q⟩
  · obtain ⟨its, _, pt, _⟩ := I1.tuple hq
    refine call_enum_tuple (show s1.heap.IsTuple a its.toArray from pt) ?_
    intro h' he hit hk
    have hlt : a < s1.heap.objs.size := pt.lt
    exact wpAny_pyIter_enum he ⟨s1.heap.objs.size + 1, [s1.heap.objs.size + 1, s1.heap.objs.size], _, _, H1, rfl, I1.kept (t' := s1.toks) hk, turn_enumT a _ _,
      ⟨⟨.none, he⟩, hit, Nat.succ_ne_self _, Nat.ne_of_lt hlt, Nat.ne_of_lt (Nat.lt_succ_of_lt hlt)⟩, fresh2 I1, q⟩
end
/-! ### walked data -/
def LkC (lk : Option (Nat × Slot × V)) (c : Fr) (ρ : Env) : Prop := match lk with
  | none => True
  | some (i, s, v) => ρ[i]? = some (some { s with prot := true, lk := true }) ∧ (i, v) ∈ c.pins
def Wk (w : World) (J : It) (items : List PyData) (τ' : List Item) (lk : Option (Nat × Slot × V)) : Prop := ∀ (c : Fr) (σ : List (Option V)) (ρ : Env) (τ : List Item) (H : Hp), Sta w c σ ρ τ H → (∀ t ∈ τ', t ∈ τ) → LkC lk c ρ →
  (∀ i, i < items.length → J.go i H) ∧ J.stop items.length H ∧ ∀ i x H' d, J.yld i H x H' → items[i]? = some d → Sta w c σ ρ (τ ++ t1 x d 0) H'
/-- the frame within the loop -/
def LkR (it : E) (lk : Option (Nat × Slot × V)) (c c' : Fr) (σ : List (Option V)) (ρ : Env) : Prop := match lockOf it with
  | none => lk = none ∧ c' = c
  | some i => ∃ s v, lk = some (i, s, v) ∧ ρ[i]? = some (some s) ∧ σ[i]? = some (some v) ∧ c' = { c with pins := (i, v) :: c.pins } ∧ ∀ p ∈ c.pins, p.1 = i → s.prot = true
section
variable {w : World} {c c' : Fr} {σ : List (Option V)} {ρ ρ' : Env} {τ : List Item} {H H' F F' : Hp} {O : List Addr}
/-- a frozen item among the temporaries -/
theorem Sta.has {v : V} {d : PyData} (h : Sta w c σ ρ τ H) (m : (some v, val d 0) ∈ τ) : ∃ O, StaO w c σ ρ τ H O ∧ Fz w (hide (c.B ++ O) H) v d := by
  obtain ⟨⟨O, q⟩, h2, h3⟩ := h
  obtain ⟨f, g, i1, i2, e⟩ := q.its.unappend
  obtain ⟨i, hi⟩ := List.mem_iff_getElem?.mp m
  obtain ⟨fj, r, _⟩ := i2.get hi
  exact ⟨O, ⟨q, h2, h3⟩, r.1⟩
theorem Sta.flags {i : Nat} {s s' : Slot} (h : Sta w c σ ρ τ H) (e : ρ[i]? = some (some s)) (hd : s'.d = s.d) (hn : s'.n = s.n) (hB : c'.B = c.B) (hH : c'.H0 = c.H0) (hL : c'.L = c.L) (hp : Pins c' σ (ρ.set i (some s'))) :
    Sta w c' σ (ρ.set i (some s')) τ H := by
  obtain ⟨v, ev, -⟩ := h.slot e
  obtain ⟨⟨O, q⟩, h2, h3⟩ := h
  have ez := zs_get ev e
  have its : ItsR w (hide (c.B ++ O) H) H (zs σ (ρ.set i (some s')) ++ τ) O := by
    have hσ : σ.set i (some v) = σ := by
      obtain ⟨g1, g2⟩ := List.getElem?_eq_some_iff.mp ev
      rw [← g2, List.set_getElem_self]
    have e1 : zs σ (ρ.set i (some s')) = (zs σ ρ).set i (some v, some s') := by
      conv => lhs; rw [← hσ]
      exact zs_set
    have e2 : zs σ ρ ++ τ = (zs σ ρ).take i ++ ((some v, some s) :: ((zs σ ρ).drop (i + 1) ++ τ)) := by
      conv => lhs; rw [split_at ez]
      simp
    have e3 : zs σ (ρ.set i (some s')) ++ τ = (zs σ ρ).take i ++ ((some v, some s') :: ((zs σ ρ).drop (i + 1) ++ τ)) := by
      rw [e1, set_split ez]; simp
    have qi := q.its
    rw [e2] at qi
    obtain ⟨f, g, i1, ⟨fj, gj, j1, j2, ej⟩, eO⟩ := qi.unappend
    rw [e3]
    subst eO
    exact i1.append (show ItsR w (hide (c.B ++ (f ++ g)) H) H ((some v, some s') :: ((zs σ ρ).drop (i + 1) ++ τ)) g from ⟨fj, gj, by
      show Ow w _ H s'.n v s'.d fj
      rw [hd, hn]; exact j1, j2, ej⟩)
  exact ⟨⟨O, ⟨by rw [hB]; exact its, q.nd, by rw [hB]; exact q.dis, by rw [hB]; exact q.bar, by rw [hH, hL]; exact q.keep, by rw [hH, hL]; exact q.new⟩⟩, by rw [List.length_set]; exact h2, hp⟩
/-- into the loop -/
theorem Sta.lock {it : E} (h : Sta w c σ ρ τ H) (hs : ∀ i, lockOf it = some i → ∃ s, ρ[i]? = some (some s)) : ∃ c' lk, LkR it lk c c' σ ρ ∧ LkC lk c' (lkIn it ρ) ∧ Sta w c' σ (lkIn it ρ) τ H := by
  unfold LkR lkIn
  cases e : lockOf it with
  | none => exact ⟨c, none, ⟨rfl, rfl⟩, trivial, h⟩
  | some i =>
    obtain ⟨s, es⟩ := hs i e
    obtain ⟨v, ev, -⟩ := h.slot es
    have hi := (List.getElem?_eq_some_iff.mp es).1
    refine ⟨{ c with pins := (i, v) :: c.pins }, some (i, s, v), ⟨s, v, rfl, es, ev, rfl, fun p hp e => ?_⟩, ?_, ?_⟩
    · obtain ⟨_, s', z1, z2⟩ := h.pins p hp
      rw [e, es] at z1; cases z1; exact z2
    · simp only [es]
      exact ⟨by rw [List.getElem?_set_self hi], List.mem_cons_self⟩
    · simp only [es]
      refine h.flags es rfl rfl rfl rfl rfl fun p hp => ?_
      rcases List.mem_cons.mp hp with rfl | hp
      · exact ⟨ev, _, by rw [List.getElem?_set_self hi], rfl⟩
      · obtain ⟨z1, s', z2, z3⟩ := h.pins p hp
        by_cases hj : p.1 = i
        · exact ⟨z1, _, by rw [hj, List.getElem?_set_self hi], rfl⟩
        · exact ⟨z1, s', by rw [List.getElem?_set_ne (Ne.symm hj)]; exact z2, z3⟩
/-- out of it -/
theorem Sta.unlock {it : E} {lk : Option (Nat × Slot × V)} {σ0 : List (Option V)} {ρ0 : Env} {k : Env → Prop} (h : Sta w c' σ ρ τ H) (r : LkR it lk c c' σ0 ρ0) (o : lkOut it ρ0 ρ k) : ∃ ρ', k ρ' ∧ Sta w c σ ρ' τ H := by
  unfold LkR at r
  unfold lkOut at o
  cases e : lockOf it with
  | none => rw [e] at r o; obtain ⟨_, rfl⟩ := r; exact ⟨ρ, o, h⟩
  | some i =>
    rw [e] at r o
    obtain ⟨s, v, rfl, es, ev, rfl, hp⟩ := r
    obtain ⟨s', es', e2, hk⟩ := o
    rw [es] at es'; cases es'
    refine ⟨_, hk, h.flags e2 rfl rfl rfl rfl rfl fun p hp' => ?_⟩
    obtain ⟨z1, s', z2, z3⟩ := h.pins p (List.mem_cons_of_mem _ hp')
    by_cases hj : p.1 = i
    · exact ⟨z1, s, by rw [hj, List.getElem?_set_self (List.getElem?_eq_some_iff.mp e2).1], hp p hp' hj⟩
    · exact ⟨z1, s', by rw [List.getElem?_set_ne (Ne.symm hj)]; exact z2, z3⟩
theorem LkR.pins {it : E} {lk : Option (Nat × Slot × V)} {c c' : Fr} {σ : List (Option V)} {ρ : Env} (r : LkR it lk c c' σ ρ) : ∀ p ∈ c.pins, p ∈ c'.pins := fun p hp => by
  unfold LkR at r
  split at r
  · obtain ⟨_, rfl⟩ := r; exact hp
  · obtain ⟨s, v, _, _, _, rfl, _⟩ := r; exact List.mem_cons_of_mem _ hp
end
end PL
end
section
set_option Elab.async false
set_option linter.all false
set_option maxRecDepth 100000
set_option maxHeartbeats 1000000
/-! PLD1: a dict that stands as data, told to the hand layer: its keys plain, or tuples. -/
namespace PL
open L2 PyProof.Rows PySem.Spec PySem
theorem kOf_kD (k : Key) : kOf (kD k) = some k := by cases k <;> rfl
theorem kD_kOf {d : PyData} {k : Key} (h : kOf d = some k) : d = kD k := by
  cases d <;> first | (cases h; rfl) | cases h
theorem kOfs_map : ∀ l : List Key, kOfs (l.map kD) = some l
  | [] => rfl
  | k :: l => by rw [List.map_cons, kOfs, kOf_kD, kOfs_map l]
theorem tOf_tD (k : List Key) : tOf (tD k) = some k := kOfs_map k
theorem map_kOfs : ∀ {ds : List PyData} {l : List Key}, kOfs ds = some l → ds = l.map kD
  | [], _, h => by cases h; rfl
  | d :: ds, l, h => by
    rw [kOfs] at h
    cases e1 : kOf d with
    | none => rw [e1] at h; cases h
    | some k => cases e2 : kOfs ds with
      | none => rw [e1, e2] at h; cases h
      | some ks =>
        rw [e1, e2] at h
        cases h
        rw [List.map_cons, ← kD_kOf e1, ← map_kOfs e2]
theorem tD_tOf {d : PyData} {k : List Key} (h : tOf d = some k) : d = tD k := by
  cases d with
  | tuple ds => unfold tD; rw [map_kOfs (show kOfs ds = some k from h)]
  | _ => cases h
theorem kD_inj {a b : Key} (h : kD a = kD b) : a = b := by
  have := congrArg kOf h
  rwa [kOf_kD, kOf_kD, Option.some.injEq] at this
theorem tD_inj {a b : List Key} (h : tD a = tD b) : a = b := by
  have := congrArg tOf h
  rwa [tOf_tD, tOf_tD, Option.some.injEq] at this
theorem map_inj {α β : Type} {f : α → β} (hf : ∀ a b, f a = f b → a = b) : ∀ {l m : List α}, l.map f = m.map f → l = m
  | [], [], _ => rfl
  | [], _ :: _, h => by cases h
  | _ :: _, [], h => by cases h
  | a :: l, b :: m, h => by
    rw [List.map_cons, List.map_cons, List.cons.injEq] at h
    rw [hf _ _ h.1, map_inj hf h.2]
theorem eqv_kD (a b : Key) : PyData.eqv (kD a) (kD b) = decide (a = b) := by
  cases a with
  | inl i => cases b with
    | inl j =>
      show PyData.eqv (.int i) (.int j) = _
      by_cases h : i = j
      · subst h; simp [PyData.eqv]
      · simp [PyData.eqv, h]
    | inr y => show PyData.eqv (.int i) (.str y) = _; simp [PyData.eqv]
  | inr x => cases b with
    | inl j => show PyData.eqv (.str x) (.int j) = _; simp [PyData.eqv]
    | inr y =>
      show PyData.eqv (.str x) (.str y) = _
      by_cases h : x = y
      · subst h; simp [PyData.eqv]
      · simp [PyData.eqv, h]
theorem eqv_kDs : ∀ a b : List Key, PyData.eqvAll (a.map kD) (b.map kD) = decide (a = b)
  | [], [] => by rw [List.map_nil, PyData.eqvAll]; rfl
  | [], _ :: _ => by rw [List.map_nil, List.map_cons, PyData.eqvAll]; rfl
  | _ :: _, [] => by rw [List.map_nil, List.map_cons, PyData.eqvAll]; rfl
  | x :: a, y :: b => by
    rw [List.map_cons, List.map_cons, PyData.eqvAll, eqv_kD, eqv_kDs a b]
    by_cases h1 : x = y
    · by_cases h2 : a = b <;> simp [h1, h2]
    · simp [h1]
theorem eqv_tD (a b : List Key) : PyData.eqv (tD a) (tD b) = decide (a = b) := by
  unfold tD
  rw [PyData.eqv]; exact eqv_kDs a b
section
variable {w : World} {F H : Hp}
theorem fz_kD {k : Key} {v : V} (h : Fz w F v (kD k)) : v = kV k := by cases k <;> exact h
theorem fz_kDs : ∀ {kk : List Key} {ks : List V}, FzAll w F ks (kk.map kD) → ks = kk.map kV
  | [], [], _ => rfl
  | k :: kk, v :: ks, h => by rw [List.map_cons, fz_kD h.1, fz_kDs h.2]
  | [], _ :: _, h => h.elim
  | _ :: _, [], h => h.elim
theorem kDs_fz : ∀ {kk : List Key}, FzAll w F (kk.map kV) (kk.map kD)
  | [] => trivial
  | k :: kk => ⟨by cases k <;> exact rfl, kDs_fz⟩
theorem fz_tD {k : List Key} {v : V} (h : Fz w F v (tD k)) : ∃ q, v = .ref q ∧ F q = some (.tup (k.map kV)) := by
  obtain ⟨a, xs, rfl, q, t⟩ := h
  rw [fz_kDs t] at q
  exact ⟨a, rfl, q⟩
theorem tD_fz {k : List Key} {q : Addr} (h : F q = some (.tup (k.map kV))) : Fz w F (.ref q) (tD k) := ⟨q, _, rfl, h, kDs_fz⟩
theorem fz_tDs : ∀ {tt : List (List Key)} {ks : List V}, FzAll w F ks (tt.map tD) → ∃ qs : List Addr, ks = qs.map V.ref ∧ Paired (fun q k => F q = some (.tup (List.map kV k))) qs tt
  | [], [], _ => ⟨[], rfl, .nil⟩
  | k :: tt, v :: ks, h => by
    obtain ⟨q, rfl, e⟩ := fz_tD h.1
    obtain ⟨qs, rfl, t⟩ := fz_tDs h.2
    exact ⟨q :: qs, rfl, .cons e t⟩
  | [], _ :: _, h => h.elim
  | _ :: _, [], h => h.elim
/-- what the table holds at k, by values and by data -/
theorem dget_rel {κ : Type} [DecidableEq κ] {e : κ → PyData} (he : ∀ a b, PyData.eqv (e a) (e b) = decide (a = b)) (k : κ) : ∀ {kk : List κ} {vs : List V} {kvs : List (PyData × PyData)}, kvs.map (·.1) = kk.map e → FzAll w F vs (kvs.map (·.2)) →
    (valV (kk.zip vs) k = none ∧ dget kvs (e k) = none) ∨ ∃ v d, valV (kk.zip vs) k = some v ∧ dget kvs (e k) = some d ∧ Fz w F v d
  | [], _, [], _, _ => .inl ⟨by simp [valV], rfl⟩
  | [], _, _ :: _, h, _ => by simp at h
  | _ :: _, _, [], h, _ => by simp at h
  | a :: kk, [], _ :: _, _, h => h.elim
  | a :: kk, v :: vs, (b, d) :: kvs, h, f => by
    rw [List.map_cons, List.map_cons, List.cons.injEq] at h
    have hb : b = e a := h.1
    subst hb
    have e1 : PyData.eqv (e a) (e k) = decide (a = k) := he a k
    by_cases z : a = k
    · subst z
      refine .inr ⟨v, d, ?_, ?_, f.1⟩
      · rw [List.zip_cons_cons]; exact valV_pos rfl
      · unfold dget
        rw [List.find?_cons]
        simp [e1]
    · have n1 : valV ((a :: kk).zip (v :: vs)) k = valV (kk.zip vs) k := by rw [List.zip_cons_cons]; exact valV_neg z
      have n2 : dget ((e a, d) :: kvs) (e k) = dget kvs (e k) := by
        unfold dget
        rw [List.find?_cons]
        simp [e1, z]
      rw [n1, n2]
      exact dget_rel he k h.2 f.2
theorem pairsK {P : Program} : ∀ {el : List DictEntry} {kk : List Key} {vs : List V}, Vals (kk.map kV) (el.map (·.key)) → Vals vs (el.map (·.val)) → el.map (·.hash) = kk.map (keyH w) →
    Pairs (mixKind P w) el (kk.zip (el.map (·.val))) ∧ KV (kk.zip vs) (kk.zip (el.map (·.val))) ∧ (∀ e ∈ el, ∃ k, (mixKind P w).is k e.key = true ∧ e.hash = (mixKind P w).hash k) ∧ kk.length = el.length
  | [], [], _, _, _, _ => ⟨.nil, .nil, by simp, rfl⟩
  | [], _ :: _, _, r, _, _ => by cases r
  | _ :: _, [], _, r, _, _ => by cases r
  | en :: el, k :: kk, [], _, r, _ => by cases r
  | en :: el, k :: kk, v :: vs, r1, r2, hh => by
    cases r1 with
    | cons a1 a2 => cases r2 with
      | cons b1 b2 =>
        rw [List.map_cons, List.map_cons, List.cons.injEq] at hh
        obtain ⟨p1, p2, p3, p4⟩ := pairsK (P := P) a2 b2 hh.2
        refine ⟨.cons (kV_is a1) rfl p1, .cons ⟨rfl, b1⟩ p2, fun e he => ?_, by rw [List.length_cons, List.length_cons, p4]⟩
        rcases List.mem_cons.mp he with rfl | he
        · exact ⟨k, kV_is a1, hh.1⟩
        · exact p3 e he
/-- raw entries with tuple keys -/
def zip3 : List (List Key) → List Addr → List Value → List (List Key × Addr × Value)
  | k :: kk, q :: qs, v :: vs => (k, q, v) :: zip3 kk qs vs
  | _, _, _ => []
theorem pairsT {P : Program} : ∀ {el : List DictEntry} {tt : List (List Key)} {qs : List Addr} {vs : List V}, Vals (qs.map V.ref) (el.map (·.key)) → Vals vs (el.map (·.val)) → el.map (·.hash) = tt.map (hashT w) → Paired (fun q k => H q = some (.tup (List.map kV k))) qs tt →
    el = (zip3 tt qs (el.map (·.val))).map (entryOfKey (tupleKind (mixKind P w))) ∧ Paired (fun (p : List Key × V) (q : List Key × Addr × Value) => p.1 = q.1 ∧ H q.2.1 = some (.tup (p.1.map kV)) ∧ RelV p.2 q.2.2) (tt.zip vs) (zip3 tt qs (el.map (·.val))) ∧ (zip3 tt qs (el.map (·.val))).map (·.1) = tt ∧ tt.length = el.length
  | [], [], [], _, _, _, _, _ => ⟨rfl, .nil, rfl, rfl⟩
  | [], _ :: _, _, _, _, _, h, _ => by simp at h
  | _ :: _, [], _, _, _, _, h, _ => by simp at h
  | [], [], _ :: _, _, r, _, _, _ => by cases r
  | _ :: _, _ :: _, [], _, r, _, _, _ => by cases r
  | en :: el, k :: tt, q :: qs, [], _, r, _, _ => by cases r
  | en :: el, k :: tt, q :: qs, v :: vs, r1, r2, hh, pr => by
    cases r1 with
    | cons a1 a2 => cases r2 with
      | cons b1 b2 => cases pr with
        | cons c1 c2 =>
          rw [List.map_cons, List.map_cons, List.cons.injEq] at hh
          obtain ⟨p1, p2, p3, p4⟩ := pairsT (P := P) a2 b2 hh.2 c2
          refine ⟨?_, .cons ⟨rfl, c1, b1⟩ p2, by rw [List.map_cons, zip3, List.map_cons, p3], by rw [List.length_cons, List.length_cons, p4]⟩
          rw [List.map_cons, zip3, List.map_cons, ← p1]
          have ek : en.key = .ref q := a1
          have : en = entryOfKey (tupleKind (mixKind P w)) (k, q, en.val) := by
            unfold entryOfKey
            have h1 : en.hash = hashT w k := hh.1
            show en = ⟨(tupleKind (mixKind P w)).hash k, .ref q, en.val⟩
            have h2 : (tupleKind (mixKind P w)).hash k = hashT w k := rfl
            rw [h2, ← h1, ← ek]
          rw [← this]
end
section
variable {X : Cx} {pins : List (Addr × Obj)} {σ : List (Option V)} {H F : Hp} {s : Shared} {a : Addr} {o : Obj} {u : HO}
theorem raw_at (I : L2.Inv X pins σ H s) (h : H a = some (dHO o a)) : s.heap.get? a = some o := (I.hok a _ h).1
theorem ext_mut (h : H a = some (dHO o a)) : Mut (H a) := by rw [h]; exact True.intro
/-- the same object told otherwise -/
theorem tell (I : L2.Inv X pins σ H s) (h : H a = some (dHO o a)) (ok : ObjOk X.prog X.w (upd H a (.frz o u)) s.heap a u) : L2.Inv X pins σ (upd H a (.frz o u)) s :=
  I.write (x := a) (e := a) (t' := s.toks) (h' := s.heap) (ext_mut h) (.inl rfl) (fun b v _ q => q) ⟨o, raw_at I h⟩ ⟨raw_at I h, ok⟩
theorem back (hn : ∀ o' u', X.H_0 a ≠ some (.frz o' u')) (h : H a = some (dHO o a)) (mu : Mut (some u)) (I : L2.Inv X pins σ (upd H a (.frz o u)) s) : L2.Inv X pins σ H s := by
  have e : s.heap.get? a = some o := (I.hok a _ upd_same).1
  have I1 := I.unlock upd_same hn
  have I2 := I1.write (x := a) (e := a) (o := dHO o a) (t' := s.toks) (h' := s.heap) (by rw [upd_same]; exact mu) (.inl rfl) (fun b v _ q => q) ⟨o, e⟩ ⟨e, ⟨o, e⟩, fun h1 h2 q k => k _ q⟩
  rw [upd_upd, upd_upd] at I2
  have : upd H a (dHO o a) = H := by
    funext b
    unfold upd
    split
    · rename_i z; rw [z, h]
    · rfl
  rw [this] at I2
  exact I2
/-- plain keys -/
theorem obj_K (I : L2.Inv X pins σ H s) (sb : Sub F H) {ks vs : List V} {kvs : List (PyData × PyData)} (h : H a = some (dHO o a)) (hs : (a == sysModules) = false) (dr : DRaw X.w o ks vs (kvs.map (·.1))) (fk : FzAll X.w F ks (kvs.map (·.1))) (fv : FzAll X.w F vs (kvs.map (·.2)))
    (hk : ∀ p ∈ kvs, (kOf p.1).isSome = true) : ∃ kk : List Key, kvs.map (·.1) = kk.map kD ∧ kk.length = vs.length ∧ ObjOk X.prog X.w (upd H a (.frz o (.dK (kk.zip vs)))) s.heap a (.dK (kk.zip vs)) := by
  obtain ⟨es, ep, eo, r1, r2, dk⟩ := dr.ex
  have hz := dr.size
  obtain ⟨kk, e1, nd, e2⟩ : ∃ kk : List Key, kvs.map (·.1) = kk.map kD ∧ kk.Nodup ∧ es.toList.map (·.hash) = kk.map (keyH X.w) := by
    rcases dk with ⟨kk, h1, h2, h3⟩ | ⟨tt, h1, h2, h3⟩
    · exact ⟨kk, h1, h2, h3⟩
    · cases tt with
      | nil => exact ⟨[], by rw [h1]; rfl, List.nodup_nil, by rw [h3]; rfl⟩
      | cons t tt =>
        exfalso
        cases kvs with
        | nil => simp at h1
        | cons p kvs =>
          have := hk p List.mem_cons_self
          rw [List.map_cons, List.map_cons, List.cons.injEq] at h1
          rw [h1.1] at this
          cases this
  rw [e1] at fk hz
  rw [fz_kDs fk] at r1
  have lv : vs.length = kk.length := by rw [fv.length, List.length_map, ← List.length_map (f := kD), ← e1, List.length_map]
  obtain ⟨p1, p2, p3, p4⟩ := pairsK (P := X.prog) r1 r2 e2
  have e := raw_at I h
  rw [eo] at e
  refine ⟨kk, e1, lv.symm, ?_, hs, kk.zip (es.toList.map (·.val)), p2, _, es, ep, e, ⟨rfl, rfl, rfl⟩, rfl, fun en hen => ?_, p1, ?_⟩
  · rw [List.length_zip]
    rw [List.length_map] at hz
    omega
  · exact p3 en (Array.mem_toList_iff.mpr hen)
  · have : (kk.zip (es.toList.map (·.val))).map (·.1) = kk := by
      rw [List.map_fst_zip]
      rw [List.length_map, p4]; exact Nat.le_refl _
    rw [this]; exact nd
/-- tuples as keys -/
theorem obj_T (I : L2.Inv X pins σ H s) (sb : Sub F H) {ks vs : List V} {kvs : List (PyData × PyData)} (h : H a = some (dHO o a)) (hs : (a == sysModules) = false) (dr : DRaw X.w o ks vs (kvs.map (·.1))) (fk : FzAll X.w F ks (kvs.map (·.1))) (fv : FzAll X.w F vs (kvs.map (·.2)))
    (hk : ∀ p ∈ kvs, (tOf p.1).isSome = true) : ∃ tt : List (List Key), kvs.map (·.1) = tt.map tD ∧ tt.length = vs.length ∧ ObjOk X.prog X.w (upd H a (.frz o (.dT (tt.zip vs)))) s.heap a (.dT (tt.zip vs)) := by
  obtain ⟨es, ep, eo, r1, r2, dk⟩ := dr.ex
  have hz := dr.size
  obtain ⟨tt, e1, nd, e2⟩ : ∃ tt : List (List Key), kvs.map (·.1) = tt.map tD ∧ tt.Nodup ∧ es.toList.map (·.hash) = tt.map (hashT X.w) := by
    rcases dk with ⟨kk, h1, h2, h3⟩ | ⟨tt, h1, h2, h3⟩
    · cases kk with
      | nil => exact ⟨[], by rw [h1]; rfl, List.nodup_nil, by rw [h3]; rfl⟩
      | cons k kk =>
        exfalso
        cases kvs with
        | nil => simp at h1
        | cons p kvs =>
          have := hk p List.mem_cons_self
          rw [List.map_cons, List.map_cons, List.cons.injEq] at h1
          rw [h1.1] at this
          cases k <;> cases this
    · exact ⟨tt, h1, h2, h3⟩
  rw [e1] at fk hz
  obtain ⟨qs, eq, pr⟩ := fz_tDs fk
  rw [eq] at r1
  have lv : vs.length = tt.length := by rw [fv.length, List.length_map, ← List.length_map (f := tD), ← e1, List.length_map]
  have ne : ∀ q xs, H q = some (.tup xs) → q ≠ a := fun q xs e z => by rw [z, h] at e; cases e
  have pr2 : Paired (fun q k => upd H a (.frz o (.dT (tt.zip vs))) q = some (.tup (List.map kV k))) qs tt := L2.Paired.mapP pr fun q k e => by
    rw [upd_ne (ne q _ (sb _ _ e))]
    exact sb _ _ e
  obtain ⟨p1, p2, p3, p4⟩ := pairsT (P := X.prog) r1 r2 e2 pr2
  have e := raw_at I h
  rw [eo] at e
  refine ⟨tt, e1, lv.symm, ?_, hs, _, p2, _, es, ep, e, ⟨rfl, rfl, rfl⟩, rfl, p1, by rw [p3]; exact nd⟩
  rw [List.length_zip]
  rw [List.length_map] at hz
  omega
/-- a dict and a key that fits: what the hand layer reads there -/
theorem dict_told (I : L2.Inv X pins σ H s) (sb : Sub F H) {x y : V} {kvs : List (PyData × PyData)} {k : PyData} (hx : Fz X.w F x (.dict kvs)) (hy : Fz X.w F y k) (hf : keyFits kvs k) :
    ∃ a o u r, x = .ref a ∧ H a = some (dHO o a) ∧ Mut (some u) ∧ L2.Inv X pins σ (upd H a (.frz o u)) s ∧ DGet (upd H a (.frz o u)) a y r ∧ ((r = none ∧ dget kvs k = none) ∨ ∃ v d, r = some v ∧ dget kvs k = some d ∧ Fz X.w F v d) := by
  obtain ⟨a, o, ks, vs, rfl, q, hs, dr, t⟩ := hx
  obtain ⟨fk, fv⟩ := t.split
  have h := sb _ _ q
  rcases hf with ⟨h1, h2⟩ | ⟨h1, h2⟩
  · obtain ⟨kk, e1, lv, ok⟩ := obj_K I sb h hs dr fk fv h2
    obtain ⟨k0, e0⟩ := Option.isSome_iff_exists.mp h1
    have ek := kD_kOf e0
    subst ek
    have hy : y = kV k0 := fz_kD hy
    subst hy
    exact ⟨a, o, .dK (kk.zip vs), _, rfl, h, True.intro, tell I h ok, .inl ⟨_, k0, .inr ⟨o, upd_same⟩, rfl, rfl⟩, dget_rel eqv_kD k0 e1 fv⟩
  · obtain ⟨tt, e1, lv, ok⟩ := obj_T I sb h hs dr fk fv h2
    obtain ⟨k0, e0⟩ := Option.isSome_iff_exists.mp h1
    have ek := tD_tOf e0
    subst ek
    obtain ⟨b, rfl, eb⟩ := fz_tD hy
    have eb := sb _ _ eb
    have nb : b ≠ a := fun z => by rw [z, h] at eb; cases eb
    exact ⟨a, o, .dT (tt.zip vs), _, rfl, h, True.intro, tell I h ok, .inr ⟨_, k0, b, .inr ⟨o, upd_same⟩, rfl, by rw [upd_ne nb]; exact eb, rfl⟩, dget_rel eqv_tD k0 e1 fv⟩
end
end PL
end
section
set_option Elab.async false
set_option linter.all false
set_option maxRecDepth 100000
set_option maxHeartbeats 2000000
/-! PL13: expressions, rule by rule. -/
namespace PL
open L2 PyProof.Rows PySem.Spec PySem
section
variable {w : World} {c : Fr} {σ : List (Option V)} {ρ ρ' : Env} {τ : List Item} {H H' F F' : Hp} {O : List Addr}
theorem Sta.ghost {v : Option V} (h : Sta w c σ ρ τ H) : Sta w c σ ρ (τ ++ [(v, none)]) H := by
  obtain ⟨⟨O, q⟩, h2, h3⟩ := h
  refine ⟨⟨O, ⟨?_, q.nd, q.dis, q.bar, q.keep, q.new⟩⟩, h2, h3⟩
  rw [← List.append_assoc]
  have : ItsR w (hide (c.B ++ O) H) H [(v, none)] [] := ⟨[], [], by cases v <;> exact rfl, rfl, rfl⟩
  have := q.its.append this
  rwa [List.append_nil] at this
/-- items in the middle let go -/
theorem Sta.mid {υ μ : List Item} (h : Sta w c σ ρ (τ ++ υ ++ μ) H) : Sta w c σ ρ (τ ++ μ) H := by
  obtain ⟨⟨O, q⟩, h2, h3⟩ := h
  have e : zs σ ρ ++ (τ ++ υ ++ μ) = (zs σ ρ ++ τ) ++ (υ ++ μ) := by simp
  rw [e] at q
  obtain ⟨f, g, i1, i2, eO⟩ := q.its.unappend
  obtain ⟨f2, g2, i3, i4, eO2⟩ := i2.unappend
  subst eO2; subst eO
  have sb : Sub (hide (c.B ++ (f ++ (f2 ++ g2))) H) (hide (c.B ++ (f ++ g2)) H) := hide_sub Sub.refl fun a ha hn => absurd (by
    simp only [List.mem_append] at ha ⊢
    rcases ha with z | z | z
    · exact .inl z
    · exact .inr (.inl z)
    · exact .inr (.inr (.inr z))) hn
  have sl : (f ++ g2).Sublist (f ++ (f2 ++ g2)) := List.Sublist.append (List.Sublist.refl _) (List.sublist_append_right _ _)
  refine ⟨⟨f ++ g2, ⟨?_, q.nd.sublist sl, fun a ha => q.dis a (sl.subset ha), q.bar, q.keep, fun a ha => q.new a (sl.subset ha)⟩⟩, h2, h3⟩
  have := (i1.mono sb fun _ _ _ z => z).append (i4.mono sb fun _ _ _ z => z)
  rw [List.append_assoc] at this
  exact this
/-- a slot's list: items that are frozen -/
theorem ow_items {n : Nat} {v : V} {ds : List PyData} {f : List Addr} (h : Ow w F H n v (.list ds) f) (sb : Sub F H) : ∃ a xs, v = .ref a ∧ H a = some (.lst xs) ∧ xs.length = ds.length ∧
    ∀ (i : Nat) (d : PyData), ds[i]? = some d → n ≤ 1 ∨ isCont d = false → ∃ x, xs[i]? = some x ∧ Fz w F x d := by
  cases n with
  | zero =>
    obtain ⟨⟨a, xs, rfl, q, t⟩, _⟩ := h
    exact ⟨a, xs, rfl, sb _ _ q, t.length, fun i d e _ => t.get e⟩
  | succ n =>
    obtain ⟨a, xs, g, rfl, q, r, _⟩ := h
    refine ⟨a, xs, rfl, q, r.length, fun i d e k => ?_⟩
    have gen : ∀ (xs : List V) (ds : List PyData) (g : List Addr) (i : Nat), OwAll (Ow w F H n) xs ds g → ds[i]? = some d → ∃ x, xs[i]? = some x ∧ Fz w F x d := by
      intro xs
      induction xs with
      | nil => intro ds g i r e; cases ds with
        | nil => simp at e
        | cons => exact r.elim
      | cons x xs ih => intro ds g i r e; cases ds with
        | nil => exact r.elim
        | cons d0 ds =>
          obtain ⟨f1, g1, r1, r2, _⟩ := r
          cases i with
          | zero =>
            simp at e; subst e
            exact ⟨x, rfl, ow_atom r1 (k.imp (fun h => by omega) id)⟩
          | succ i =>
            obtain ⟨y, h1, h2⟩ := ih ds g1 i r2 (by simpa using e)
            exact ⟨y, by simpa using h1, h2⟩
    exact gen xs ds g i r e
theorem owAll_get {R : V → PyData → List Addr → Prop} : ∀ {xs : List V} {ds : List PyData} {g : List Addr} {i : Nat} {d : PyData}, OwAll R xs ds g → ds[i]? = some d → ∃ x f, xs[i]? = some x ∧ R x d f
  | [], [], _, _, _, _, e => by simp at e
  | [], _ :: _, _, _, _, r, _ => r.elim
  | _ :: _, [], _, _, _, r, _ => r.elim
  | x :: xs, d0 :: ds, g, 0, d, ⟨f1, g1, r1, r2, _⟩, e => by
    simp at e; subst e
    exact ⟨x, f1, rfl, r1⟩
  | x :: xs, d0 :: ds, g, i + 1, d, ⟨f1, g1, r1, r2, _⟩, e => by
    obtain ⟨y, f, h1, h2⟩ := owAll_get (i := i) r2 (by simpa using e)
    exact ⟨y, f, by simpa using h1, h2⟩
/-- a slot's list of lists: the i-th list -/
theorem ow_items2 {n : Nat} {v : V} {ds es : List PyData} {f : List Addr} {i : Nat} (h : Ow w F H n v (.list ds) f) (sb : Sub F H) (e : ds[i]? = some (.list es)) (k : n ≤ 2 ∨ ∀ (j : Nat) (d : PyData), es[j]? = some d → isCont d = false) :
    ∃ a xs b ys, v = .ref a ∧ H a = some (.lst xs) ∧ xs.length = ds.length ∧ xs[i]? = some (.ref b) ∧ H b = some (.lst ys) ∧ ys.length = es.length ∧ ∀ (j : Nat) (d : PyData), es[j]? = some d → ∃ y, ys[j]? = some y ∧ Fz w F y d := by
  have fin : ∀ (m : Nat) (x : V) (g : List Addr), m + 1 ≤ n ∨ m = 0 → Ow w F H m x (.list es) g → ∃ b ys, x = .ref b ∧ H b = some (.lst ys) ∧ ys.length = es.length ∧ ∀ (j : Nat) (d : PyData), es[j]? = some d → ∃ y, ys[j]? = some y ∧ Fz w F y d := fun m x g hm o => by
    obtain ⟨b, ys, h1, h2, h3, h4⟩ := ow_items o sb
    refine ⟨b, ys, h1, h2, h3, fun j d e => h4 j d e ?_⟩
    rcases k with k | k
    · exact .inl (by omega)
    · exact .inr (k j d e)
  cases n with
  | zero =>
    obtain ⟨⟨a, xs, rfl, q, t⟩, _⟩ := h
    obtain ⟨x, hx, fz⟩ := t.get e
    obtain ⟨b, ys, rfl, h2, h3, h4⟩ := fin 0 x [] (.inr rfl) ⟨fz, rfl⟩
    exact ⟨a, xs, b, ys, rfl, sb _ _ q, t.length, hx, h2, h3, h4⟩
  | succ n =>
    obtain ⟨a, xs, g, rfl, q, r, _⟩ := h
    obtain ⟨x, f, hx, o⟩ := owAll_get r e
    obtain ⟨b, ys, rfl, h2, h3, h4⟩ := fin n x f (.inl (Nat.le_refl _)) o
    exact ⟨a, xs, b, ys, rfl, q, r.length, hx, h2, h3, h4⟩
theorem ow_nolist {n : Nat} {v : V} {d : PyData} {f : List Addr} (h : Ow w F H n v d f) (k : isCont d = false) : Fz w F v d := ow_atom h (.inr k)
end
section
variable {Y : Tx} {N : List Str} {c : Sc} {k : Nat} {X : Cx} {G : Ctx} {a b e0 : E} {x y z : Expr} {pos : Pos}
theorem tT_B {w : World} {e : E} {σ : List (Option V)} {H : Hp} {Q : Bool → Hp → Prop} (h : tT G w e σ H Q) : tB (tE G w e) σ H Q := by
  obtain ⟨c, τ, ρ, k, hs, hw, hq⟩ := h
  refine ⟨c, τ, ρ, _, hs, hw, fun d n ρ' v H' hk hs' => ?_⟩
  cases d <;> try exact hk.elim
  obtain ⟨O, q, z⟩ := hs'.take1
  exact ⟨_, z, hq _ _ _ hk hs'.drop⟩
theorem t_val {e : E} (h : PE X x (tE G X.w e)) (he : ∀ whole, isTrue x X.env whole = (do let v ← whole; standAt x.pos; holding [v] (truthy v)) := by intro _; rfl) : PT X x (tT G X.w e) :=
  (pt_val h he).imp fun σ H Q q => tT_B q
theorem e_slot (A : At Y N c k X) {i : Nat} {nm : Str} (h : nmOk N c i nm = true) : PE X (.Name nm pos) (tE G X.w (.slot i)) :=
  (pe_slot A h pos).imp fun σ H Q q => by
    obtain ⟨c', τ, ρ, k', hs, ⟨s, es, hn, hk⟩, hq⟩ := q
    obtain ⟨v, ev, O, f, so, ow, _⟩ := hs.slot es
    exact ⟨v, ev, hq _ _ _ _ _ hk (so.push (Out.fz (ow_atom ow hn) sub_hide))⟩
theorem e_int {n : Int} {j : Nat} : PE X (.Constant (.int n) j pos) (tE G X.w (.int n)) := pe_int.imp fun σ H Q q => by
  obtain ⟨c', τ, ρ, k', hs, hk, hq⟩ := q
  exact hq _ _ _ _ _ hk (hs.atom fun _ => rfl)
theorem e_bool {n : Bool} {j : Nat} : PE X (.Constant (.bool n) j pos) (tE G X.w (.bool n)) := pe_bl.imp fun σ H Q q => by
  obtain ⟨c', τ, ρ, k', hs, hk, hq⟩ := q
  exact hq _ _ _ _ _ hk (hs.atom fun _ => rfl)
theorem e_none {j : Nat} : PE X (.Constant .none j pos) (tE G X.w .none) := pe_non.imp fun σ H Q q => by
  obtain ⟨c', τ, ρ, k', hs, hk, hq⟩ := q
  exact hq _ _ _ _ _ hk (hs.atom fun _ => rfl)
theorem e_str {n : String} {j : Nat} : PE X (.Constant (.str (n : Str)) j pos) (tE G X.w (.str n)) := pe_str.imp fun σ H Q q => by
  obtain ⟨c', τ, ρ, k', hs, hk, hq⟩ := q
  exact hq _ _ _ _ _ hk (hs.atom fun _ => rfl)
theorem e_con {j : Nat} {n : String} {T : Tab} {nm : Str} (A : At Y N c k X) (hg : isGl c nm = true) (hp : plainNm nm = true) (hj : Y.cons[j]? = some n) (hn : (n : Str) = nm) (hG : G.cons = Y.T.cons) : PE X (.Name nm pos) (tE G X.w (.con j)) := by
  subst hn
  refine ⟨fun pins s σ H Q I q => ?_⟩
  obtain ⟨c', τ, ρ, k', hs, ⟨i, ei, hk⟩, hq⟩ := q
  rw [hG] at ei
  obtain ⟨t, ht⟩ := A.cons j n i hj ei
  exact (pe_glob (v := .int i) (gl_of A hg) ht ⟨_, rfl⟩ (plain_of hp).1).run pins s σ H Q I (hq _ _ _ _ _ hk (hs.atom fun _ => rfl))
theorem tm_cons {τ : List Item} {v : V} {vs : List V} {d : PyData} {n : Nat} {ps : List (PyData × Nat)} : τ ++ t1 v d n ++ tm vs ps = τ ++ tm (v :: vs) ((d, n) :: ps) := by
  rw [List.append_assoc]; rfl
theorem l_nil : PA X [] (tL G X.w .nil) := pa_nil.imp fun σ H Q q => by
  obtain ⟨c', τ, ρ, k', hs, hk, hq⟩ := q
  exact hq [] ρ [] H hk rfl (by simpa [tm] using hs)
theorem l_cons {r : E} {xs : List Expr} (ha : PE X x (tE G X.w a)) (hr : PA X xs (tL G X.w r)) (hs : noStar x = true) : PA X (x :: xs) (tL G X.w (.cons a r)) :=
  (pa_cons ha hr (starEach_of hs _ _)).imp fun σ H Q q => by
    obtain ⟨c', τ, ρ, k', hs, hw, hq⟩ := q
    refine ⟨c', τ, ρ, _, hs, hw, fun d n ρ1 v H1 hk1 hs1 => ⟨c', τ ++ t1 v d n, ρ1, _, hs1, hk1, fun ps ρ2 vs H2 hk2 hl hs2 => ?_⟩⟩
    exact hq _ _ (v :: vs) _ hk2 (by simp [hl]) (by rw [← tm_cons]; exact hs2)
theorem e_tup {es : E} {xs : List Expr} {x1 : Nat} (h : PA X xs (tL G X.w es)) : PE X (.Tuple xs x1 pos) (tE G X.w (.tup es)) :=
  (pe_tup h).imp fun σ H Q q => by
    obtain ⟨c', τ, ρ, k', hs, hw, hq⟩ := q
    refine ⟨c', τ, ρ, _, hs, hw, fun ps ρ1 vs H1 hk hl hs1 => ?_⟩
    obtain ⟨O, so, fz⟩ := hs1.take hl
    exact ⟨by rw [hl]; exact hk.1, fun p hp => hq _ _ _ _ _ hk.2 (so.push (Out.tup sub_hide hp fz))⟩
theorem e_lst {es : E} {xs : List Expr} {m : Nat} (h : PA X xs (tL G X.w es)) : PE X (.List xs pos) (tE G X.w (.lst m es)) :=
  (pe_lst h).imp fun σ H Q q => by
    obtain ⟨c', τ, ρ, k', hs, hw, hq⟩ := q
    refine ⟨c', τ, ρ, _, hs, hw, fun ps ρ1 vs H1 hk hl hs1 => ?_⟩
    exact ⟨by rw [hl]; exact hk.1.1, fun p hp => hq _ _ _ _ _ hk.2 (hs1.newList hl hk.1.2 hp)⟩
theorem e_bin {op : BOp} (ha : PE X x (tE G X.w a)) (hb : PE X y (tE G X.w b)) : PE X (.BinOp x (opOf op) y pos) (tE G X.w (.bin op a b)) :=
  (pe_op (op_bin op) ha hb).imp fun σ H Q q => by
    obtain ⟨c', τ, ρ, k', hs, hw, hq⟩ := q
    refine ⟨c', τ, ρ, _, hs, hw, fun d n ρ1 v H1 hk1 hs1 => ⟨c', τ ++ t1 v d n, ρ1, _, hs1, hk1, fun d2 n2 ρ2 v2 H2 hk2 hs2 => ?_⟩⟩
    obtain ⟨O, so, z1, z2⟩ := hs2.take2
    exact ⟨_, d, d2, _, sub_hide, z1, z2, hk2, fun d3 n3 v3 H3 hk3 o => hq _ _ _ _ _ hk3 (so.push o)⟩
theorem e_neg (ha : PE X x (tE G X.w a)) : PE X (.UnaryOp .USub x pos) (tE G X.w (.neg a)) :=
  (pe_un un_neg ha).imp fun σ H Q q => by
    obtain ⟨c', τ, ρ, k', hs, hw, hq⟩ := q
    refine ⟨c', τ, ρ, _, hs, hw, fun d n ρ1 v H1 hk1 hs1 => ?_⟩
    cases d <;> try exact hk1.elim
    obtain ⟨O, so, z1⟩ := hs1.take1
    exact ⟨_, z1, hq _ _ _ _ _ hk1 (so.push (Out.fz rfl sub_hide))⟩
theorem e_not (ha : PE X x (tE G X.w a)) : PE X (.UnaryOp .Not x pos) (tE G X.w (.not a)) :=
  (pe_not ha).imp fun σ H Q q => by
    obtain ⟨c', τ, ρ, k', hs, hw, hq⟩ := q
    refine ⟨c', τ, ρ, _, hs, hw, fun d n ρ1 v H1 hk1 hs1 => ?_⟩
    cases d <;> try exact hk1.elim
    obtain ⟨O, so, z1⟩ := hs1.take1
    exact ⟨_, z1, hq _ _ _ _ _ hk1 (so.push (Out.fz rfl sub_hide))⟩
theorem t_not (ha : PT X x (tT G X.w a)) : PT X (.UnaryOp .Not x pos) (tT G X.w (.not a)) :=
  (pt_not ha).imp fun σ H Q q => by
    obtain ⟨c', τ, ρ, k', hs, hw, hq⟩ := q
    refine ⟨c', τ, ρ, fun t ρ1 => k' (!t) ρ1, hs, ?_, fun t ρ1 H1 hk1 hs1 => hq _ _ _ hk1 hs1⟩
    have gen : ∀ (a : E) (ρ : Env) (K K' : KE), K = K' → wpE G a ρ K → wpE G a ρ K' := fun a ρ K K' e h => e ▸ h
    refine gen a ρ _ _ ?_ hw
    funext d n ρ1
    cases d <;> rfl
theorem e_and {xs : List Expr} (ha : PE X x (tE G X.w a)) (hb : PE X (.BoolOp .And (y :: xs) pos) (tE G X.w b)) : PE X (.BoolOp .And (x :: y :: xs) pos) (tE G X.w (.and a b)) :=
  (pe_and ha hb).imp fun σ H Q q => by
    obtain ⟨c', τ, ρ, k', hs, hw, hq⟩ := q
    refine ⟨c', τ, ρ, _, hs, hw, fun d n ρ1 v H1 hk1 hs1 => ?_⟩
    cases d with
    | bool t =>
      obtain ⟨O, so, z1⟩ := hs1.take1
      refine ⟨t, z1, ?_⟩
      cases t with
      | true => exact ⟨c', τ, ρ1, _, so.sta, hk1, hq⟩
      | false => exact hq _ _ _ _ _ hk1 (so.push (Out.fz rfl sub_hide))
    | _ => exact hk1.elim
theorem e_or {xs : List Expr} (ha : PE X x (tE G X.w a)) (hb : PE X (.BoolOp .Or (y :: xs) pos) (tE G X.w b)) : PE X (.BoolOp .Or (x :: y :: xs) pos) (tE G X.w (.or a b)) :=
  (pe_or ha hb).imp fun σ H Q q => by
    obtain ⟨c', τ, ρ, k', hs, hw, hq⟩ := q
    refine ⟨c', τ, ρ, _, hs, hw, fun d n ρ1 v H1 hk1 hs1 => ?_⟩
    cases d with
    | bool t =>
      obtain ⟨O, so, z1⟩ := hs1.take1
      refine ⟨t, z1, ?_⟩
      cases t with
      | false => exact ⟨c', τ, ρ1, _, so.sta, hk1, hq⟩
      | true => exact hq _ _ _ _ _ hk1 (so.push (Out.fz rfl sub_hide))
    | _ => exact hk1.elim
theorem w_and {xs : List Expr} (ha : PT X x (tT G X.w a)) (hb : PW X (.BoolOp .And (y :: xs) pos) (tT G X.w b)) : PW X (.BoolOp .And (x :: y :: xs) pos) (tT G X.w (.and a b)) :=
  (pw_and ha hb).imp fun σ H Q q => by
    obtain ⟨c', τ, ρ, k', hs, hw, hq⟩ := q
    refine ⟨c', τ, ρ, fun t ρ1 => if t = true then wpT G b ρ1 k' else k' false ρ1, hs, ?_, fun t ρ1 H1 hk1 hs1 => ?_⟩
    · have gen : ∀ (a : E) (ρ : Env) (K K' : KE), K = K' → wpE G a ρ K → wpE G a ρ K' := fun a ρ K K' e h => e ▸ h
      refine gen a ρ _ _ ?_ hw
      funext d n ρ1
      cases d with
      | bool t => cases t <;> rfl
      | _ => rfl
    · cases t with
      | true => exact ⟨c', τ, ρ1, k', hs1, hk1, hq⟩
      | false => exact hq _ _ _ hk1 hs1
theorem w_or {xs : List Expr} (ha : PT X x (tT G X.w a)) (hb : PW X (.BoolOp .Or (y :: xs) pos) (tT G X.w b)) : PW X (.BoolOp .Or (x :: y :: xs) pos) (tT G X.w (.or a b)) :=
  (pw_or ha hb).imp fun σ H Q q => by
    obtain ⟨c', τ, ρ, k', hs, hw, hq⟩ := q
    refine ⟨c', τ, ρ, fun t ρ1 => if t = true then k' true ρ1 else wpT G b ρ1 k', hs, ?_, fun t ρ1 H1 hk1 hs1 => ?_⟩
    · have gen : ∀ (a : E) (ρ : Env) (K K' : KE), K = K' → wpE G a ρ K → wpE G a ρ K' := fun a ρ K K' e h => e ▸ h
      refine gen a ρ _ _ ?_ hw
      funext d n ρ1
      cases d with
      | bool t => cases t <;> rfl
      | _ => rfl
    · cases t with
      | false => exact ⟨c', τ, ρ1, k', hs1, hk1, hq⟩
      | true => exact hq _ _ _ hk1 hs1
theorem t_ite {d : E} (hc : PT X x (tT G X.w d)) (ha : PT X y (tT G X.w a)) (hb : PT X z (tT G X.w b)) : PT X (.IfExp x y z pos) (tT G X.w (.ite d a b)) := by
  refine ⟨fun pins s σ H Q I q => ?_⟩
  obtain ⟨c', τ, ρ, k', hs, hw, hq⟩ := q
  refine isTrue_IfExp (thn (hc.run pins s σ H (fun t H1 => ∃ ρ1, Sta X.w c' σ ρ1 τ H1 ∧ if t = true then wpT G a ρ1 k' else wpT G b ρ1 k') I ⟨c', τ, ρ, fun t ρ1 => if t = true then wpT G a ρ1 k' else wpT G b ρ1 k', hs, ?_, fun t ρ1 H1 hk1 hs1 => ⟨ρ1, hs1, hk1⟩⟩) fun t s1 ⟨H1, I1, ρ1, hs1, q1⟩ => ?_)
  · have gen : ∀ (a : E) (ρ : Env) (K K' : KE), K = K' → wpE G a ρ K → wpE G a ρ K' := fun a ρ K K' e h => e ▸ h
    refine gen d ρ _ _ ?_ hw
    funext d n ρ1
    cases d with
    | bool t => cases t <;> rfl
    | _ => rfl
  · cases t with
    | true => exact ha.run pins s1 σ H1 Q I1 ⟨c', τ, ρ1, k', hs1, q1, hq⟩
    | false => exact hb.run pins s1 σ H1 Q I1 ⟨c', τ, ρ1, k', hs1, q1, hq⟩
theorem e_ite {d : E} (hc : PT X x (tT G X.w d)) (ha : PE X y (tE G X.w a)) (hb : PE X z (tE G X.w b)) : PE X (.IfExp x y z pos) (tE G X.w (.ite d a b)) :=
  (pe_ifExp hc ha hb).imp fun σ H Q q => by
    obtain ⟨c', τ, ρ, k', hs, hw, hq⟩ := q
    refine ⟨c', τ, ρ, fun t ρ1 => if t = true then wpE G a ρ1 k' else wpE G b ρ1 k', hs, ?_, fun t ρ1 H1 hk1 hs1 => ?_⟩
    · have gen : ∀ (a : E) (ρ : Env) (K K' : KE), K = K' → wpE G a ρ K → wpE G a ρ K' := fun a ρ K K' e h => e ▸ h
      refine gen d ρ _ _ ?_ hw
      funext d n ρ1
      cases d with
      | bool t => cases t <;> rfl
      | _ => rfl
    · cases t with
      | true => exact ⟨c', τ, ρ1, k', hs1, hk1, hq⟩
      | false => exact ⟨c', τ, ρ1, k', hs1, hk1, hq⟩
end
end PL
end
section
set_option Elab.async false
set_option linter.all false
set_option maxRecDepth 100000
set_option maxHeartbeats 2000000
/-! PLX3: a tuple turned round by a slice. -/
namespace PL
open L2 PyProof.Rows PySem.Spec PySem HT
section
variable {prog : Program} {w : World} {A : Around} {E : Value → Shared → Prop} {s : Shared}
theorem adj_rev (n : Nat) : Builtin.Slice.sliceAdjust none none (-1) (n : Int) = ((n : Int) - 1, -1) ∧ Builtin.Slice.slicePlaces ((n : Int) - 1) (-1) (-1) = n := by
  refine ⟨by unfold Builtin.Slice.sliceAdjust; simp, ?_⟩
  unfold Builtin.Slice.slicePlaces
  simp
  omega
theorem applied_rev {sl : Addr} {vl vu vs : Value} {n : Nat} {Q : Int × Int × Nat → Shared → Prop} (hs : s.heap.IsSliceOf sl vl vu vs) (pl : IsPart vl none) (pu : IsPart vu none) (ps : IsPart vs (some (-1))) (h : Q ((n : Int) - 1, -1, n) s) :
    wpAny (model prog w) A (Builtin.Slice.sliceApplied (.ref sl) (pure (n : Int))) Q E s := by
  obtain ⟨o1, h1, h2, h3⟩ := id hs
  unfold Builtin.Slice.sliceApplied Builtin.Slice.sliceFields
  refine wpAny_bind (wpAny_bind (wpAny_field h1 h3 (x := vl) rfl (wpAny_bind (wpAny_field h1 h3 (x := vu) rfl (wpAny_bind (wpAny_field h1 h3 (x := vs) rfl (wpAny_pure ?_)))))))
  refine wpAny_bind (slicePart_ ps ?_)
  show wpAny _ _ (if ((-1 : Int) == 0) = true then _ else _) _ _ s
  rw [if_neg (by decide)]
  refine wpAny_bind (slicePart_ pl (wpAny_bind (slicePart_ pu (wpAny_bind (wpAny_pure ?_)))))
  show wpAny _ _ (match Builtin.Slice.sliceAdjust none none (-1) (n : Int) with | (lo, hi) => pure (lo, (-1 : Int), Builtin.Slice.slicePlaces lo hi (-1))) _ _ s
  rw [(adj_rev n).1]
  show wpAny _ _ (pure ((n : Int) - 1, (-1 : Int), Builtin.Slice.slicePlaces ((n : Int) - 1) (-1) (-1))) _ _ s
  rw [(adj_rev n).2]
  exact wpAny_pure h
theorem pick_rev (xs : Array Value) : ((List.range xs.size).filterMap fun (m : Nat) => xs[(((xs.size : Nat) : Int) - 1 + (m : Int) * (-1)).toNat]?).toArray = xs.toList.reverse.toArray := by
  have e : (fun (m : Nat) => xs[(((xs.size : Nat) : Int) - 1 + (m : Int) * (-1)).toNat]?) = (fun i : Nat => xs[i]?) ∘ fun m : Nat => (((xs.size : Nat) : Int) - 1 + (m : Int) * (-1)).toNat := rfl
  rw [e, ← List.filterMap_map]
  have e2 : (List.range xs.size).map (fun m : Nat => (((xs.size : Nat) : Int) - 1 + (m : Int) * (-1)).toNat) = (List.range xs.size).reverse := by
    refine List.ext_getElem (by simp) fun i h1 h2 => ?_
    rw [List.length_map, List.length_range] at h1
    rw [List.getElem_map, List.getElem_reverse, List.getElem_range, List.getElem_range, List.length_range]
    omega
  rw [e2, List.filterMap_reverse, PySem.W.krv_all]
theorem getItem_rev {t sl : Addr} {items : Array Value} {vl vu vs : Value} {Q : Value → Shared → Prop} (ht : IsTup s.heap t items) (hs : s.heap.IsSliceOf sl vl vu vs) (pl : IsPart vl none) (pu : IsPart vu none) (ps : IsPart vs (some (-1)))
    (h : Q (.ref s.heap.objs.size) { s with heap := s.heap.push { cls := .type "tuple", data := .seq items.toList.reverse.toArray } }) (hsz : items.size ≤ sizeLine) : wpAny (model prog w) A (getItem (.ref t) (.ref sl)) Q E s := by
  have fit : sizeOk (.seq items.toList.reverse.toArray) := by
    show items.toList.reverse.toArray.size ≤ sizeLine
    rw [List.size_toArray, List.length_reverse, Array.length_toList]; exact hsz
  obtain ⟨o1, h1, h2, h3⟩ := id hs
  have ty : s.TypeIs (.ref sl) "slice" := ⟨o1, h1, h2⟩
  unfold getItem
  try with_reducible refine wpAny_holding ?_
  first | refine wpAny_bind (wpAny_pure ?_) | skip
  refine wpAny_bind (wpAny_sequenceKey ht.typeIs (by decide) ?_)
  refine wpAny_bind (wpAny_callSpecial?_slot (name := Str.ofString "__getitem__") ht.typeIs PyProof.Rows.slot_tuple_getitem (wpAny_call_entry PyProof.Rows.slot_tuple_getitem ht.typeIs entry_tuple_getitem ?_ (args_tuple_getitem _ _)))
  show wpAny _ _ (Builtin.Tuple.tupleItemsOf (.ref t) >>= _) _ _ s
  refine wpAny_bind (tupleItemsOf_ ht ?_)
  refine wpAny_bind (wpAny_typeOf ty ?_)
  rw [if_pos (by decide)]
  refine wpAny_bind (applied_rev hs pl pu ps ?_)
  have no : ¬ (((((items.size : Nat) : Int) - 1) == 0 && ((-1 : Int) == 1) && (items.size == items.size)) = true) := by
    rw [show ((-1 : Int) == 1) = false from rfl, Bool.and_false, Bool.false_and]
    exact Bool.false_ne_true
  show wpAny _ _ (if ((((items.size : Nat) : Int) - 1) == 0 && ((-1 : Int) == 1) && (items.size == items.size)) = true then _ else _) _ _ s
  rw [if_neg no, pick_rev]
  first
    | exact wpAny_bind (m := Builtin.Tuple.tupleExact _) (wpAny_newObj_type (wpAny_pure ⟨_, rfl, wpAny_pure h⟩) fit)
    | exact wpAny_bind (m := Builtin.Tuple.tupleExact _) (wpAny_newObj_type (wpAny_bind (wpAny_pure (wpAny_pure ⟨_, rfl, wpAny_pure h⟩))) fit)
    | exact wpAny_bind (wpAny_bind (m := Builtin.Tuple.tupleExact _) (wpAny_newObj_type (wpAny_pure (wpAny_pure ⟨_, rfl, wpAny_pure h⟩)) fit))
    | exact wpAny_bind (wpAny_bind (m := Builtin.Tuple.tupleExact _) (wpAny_newObj_type (wpAny_pure ⟨_, rfl, wpAny_pure h⟩) fit))
end
section
variable {X : Cx} {e : Expr} {te : TE} {kk : Nat} {p1 p2 p3 pos : Pos}
/-- x[::-1] of a list or a tuple -/
def tRevA (K : PySem.W.Frag) (te : TE) : TE := fun σ H Q => te σ H fun x H1 => ∃ a xs, x = .ref a ∧ ((SqL K H1 a xs ∧ ∀ p, H1 p = none → Q (.ref p) (upd H1 p (.lst xs.reverse))) ∨ (SqT K H1 a xs ∧ ∀ p, H1 p = none → Q (.ref p) (upd H1 p (.tup xs.reverse))))
theorem pe_revA (he : PE X e te) : PE X (.Subscript e (.Slice none none (some (.UnaryOp .USub (.Constant (.int 1) kk p1) p2)) p3) pos) (tRevA X.K te) := by
  refine ⟨fun pins s σ H Q I h => ?_⟩
  refine Subscript_ (thn (he.run pins s σ H _ I h) fun v0 t1 ⟨x, H1, I1, r1, a, xs, ex, q⟩ => ?_)
  subst ex
  cases r1
  have step : PO X (some (.UnaryOp .USub (.Constant (.int 1) kk p1) p2)) (tPart (tUn (rU fun i => .int (-i)) (tC (.int 1)))) := po_some (pe_un un_neg pe_int)
  refine wpAny_Slice (thn (po_none.run pins t1 σ H1 (fun o G => o = none ∧ G = H1) I1 ⟨rfl, rfl⟩) fun vl t2 ⟨l, H2, I2, pl, el, e2⟩ => ?_)
  cases el; cases e2
  refine thn (po_none.run pins t2 σ H1 (fun o G => o = none ∧ G = H1) I2 ⟨rfl, rfl⟩) fun vu t3 ⟨u, H3, I3, pu, eu, e3⟩ => ?_
  cases eu; cases e3
  refine thn (step.run pins t3 σ H1 (fun o G => o = some (-1) ∧ G = H1) I3 ⟨1, rfl, -1, rfl, rfl, rfl⟩) fun vs t4 ⟨o, H4, I4, ps, eo, e4⟩ => ?_
  cases eo; cases e4
  have I5 : L2.Inv X pins σ H1 { t4 with heap := t4.heap.push { cls := .type "slice", data := .fields #[vl, vu, vs] } } := I4.kept (t' := t4.toks) fun b ob z => Heap.get?_push_of_some _ z
  show wpAny (model X.prog X.w) X.A (subscriptTail e (.Slice none none (some (.UnaryOp .USub (.Constant (.int 1) kk p1) p2)) p3) (.ref a) (.ref t4.heap.objs.size)) (EP X pins σ Q) X.xe { t4 with heap := t4.heap.push { cls := .type "slice", data := .fields #[vl, vu, vs] } }
  rcases q with ⟨hx, q⟩ | ⟨hx, q⟩
  · obtain ⟨its, r, ht, hz⟩ := I5.list hx
    have hlen := r.length
    refine tail_any (ops := [.ref a, .ref t4.heap.objs.size]) ht.isList.typeIs (PySem.slot_list_getitem.lookup) ?_ (by with_unfolding_all rfl)
    refine wpAny_getItem_list_slice ht.isList (Heap.IsSliceOf.new _ vl vu vs) pl pu ps (by decide) ?_ (by rw [List.size_toArray]; omega)
    rw [PySem.W.krv_pick]
    exact ⟨.ref _, _, I5.laid (t' := t4.toks) (o := .lst xs.reverse) (fun b ob z => Heap.get?_push_of_some _ z) (Nat.le_refl _) ⟨by rw [List.length_reverse]; exact hz, _, 0, r.reverse, Heap.get?_push_size _ rfl⟩, rfl, q _ (I5.hok.fresh (Nat.le_refl _))⟩
  · obtain ⟨its, r, ht, hz⟩ := I5.tuple hx
    have hlen := r.length
    refine tail_any (ops := [.ref a, .ref t4.heap.objs.size]) ht.typeIs (PyProof.Rows.slot_tuple_getitem.lookup) ?_ (by with_unfolding_all rfl)
    refine getItem_rev ht (Heap.IsSliceOf.new _ vl vu vs) pl pu ps ?_ (by rw [List.size_toArray]; omega)
    exact ⟨.ref _, _, I5.laid (t' := t4.toks) (o := .tup xs.reverse) (fun b ob z => Heap.get?_push_of_some _ z) (Nat.le_refl _) ⟨by rw [List.length_reverse]; exact hz, _, r.reverse, IsTup.new _ _⟩, rfl, q _ (I5.hok.fresh (Nat.le_refl _))⟩
end
end PL
end
section
set_option Elab.async false
set_option linter.all false
set_option maxRecDepth 100000
set_option maxHeartbeats 2000000
/-! PL14: expressions, rule by rule (2). -/
namespace PL
open L2 PyProof.Rows PySem.Spec PySem
theorem cmpP_0 {op : COp} {x y : PyData} {k : Bool → Prop} (h : cmpP op x y k) : cmpP0 op x y k := by
  cases op <;> first | exact h | (cases y <;> first | exact h | (cases x <;> exact h.elim))
theorem idxP_0 {x y : PyData} {k : PyData → Prop} (h : idxP x y k) : idxP0 x y fun d n => n = 0 ∧ k d := by
  cases x <;> cases y <;> first | exact h.elim | (obtain ⟨d, e, hk⟩ := h; exact ⟨d, e, rfl, hk⟩)
section
variable {Y : Tx} {N : List Str} {c : Sc} {k : Nat} {X : Cx} {G : Ctx} {a b e0 : E} {x y z : Expr} {pos p1 : Pos} {i : Nat} {nm : Str}
theorem At.hu (A : At Y N c k X) : X.A.units + 100 < cLine := by have := A.room.un; omega
theorem q_cmp {w : World} {op : COp} {a b : E} {σ : List (Option V)} {H : Hp} {Q : VK} (h : tE G w (.cmp op a b) σ H Q) : tOp (rDC w (cmpP0 op)) (tE G w a) (tE G w b) σ H Q := by
  obtain ⟨c', τ, ρ, k', hs, hw, hq⟩ := h
  refine ⟨c', τ, ρ, _, hs, hw, fun d n ρ1 v H1 hk1 hs1 => ⟨c', τ ++ t1 v d n, ρ1, _, hs1, hk1, fun d2 n2 ρ2 v2 H2 hk2 hs2 => ?_⟩⟩
  obtain ⟨O, so, z1, z2⟩ := hs2.take2
  exact ⟨_, d, d2, _, sub_hide, z1, z2, cmpP_0 hk2, fun t ht => hq _ _ _ _ _ ht (so.push (Out.fz rfl sub_hide))⟩
theorem e_cmp (A : At Y N c k X) {op : COp} (ha : PE X x (tE G X.w a)) (hb : PE X y (tE G X.w b)) (hs : notSet y = true) : PE X (.Compare x [copOf op] [y] pos) (tE G X.w (.cmp op a b)) :=
  (pe_cmpR (op_cmp0 op A.hu) ha hb (noMark_of hs _)).imp fun σ H Q q => q_cmp q
theorem t_of {w : World} {e : E} {t : TE} (h : ∀ σ H Q, tE G w e σ H Q → t σ H Q) {σ : List (Option V)} {H : Hp} {Q : Bool → Hp → Prop} (q : tT G w e σ H Q) : tTest t σ H Q := h σ H _ (tT_B q)
theorem t_cmp (A : At Y N c k X) {op : COp} (ha : PE X x (tE G X.w a)) (hb : PE X y (tE G X.w b)) (hs : notSet y = true) : PT X (.Compare x [copOf op] [y] pos) (tT G X.w (.cmp op a b)) :=
  (pt_cmpR (op_cmp0 op A.hu) ha hb (noMark_of hs _)).imp fun σ H Q q => t_of (fun _ _ _ => q_cmp) q
/-- a slot looked at, its datum frozen for the while -/
theorem Sta.look {w : World} {c : Fr} {σ : List (Option V)} {ρ : Env} {τ : List Item} {H : Hp} {s : Slot} (h : Sta w c σ ρ τ H) (e : ρ[i]? = some (some s)) : ∃ v, σ[i]? = some (some v) ∧ Fz w H v s.d := by
  obtain ⟨v, ev, O, f, so, ow, _⟩ := h.slot e
  exact ⟨v, ev, Ow.fz sub_hide _ _ _ _ ow fun _ _ _ z => z⟩
theorem q_cmpS {w : World} {op : COp} {a : E} {σ : List (Option V)} {H : Hp} {Q : VK} (h : tE G w (.cmpS op a i) σ H Q) : tOp (rDC w (cmpP0 op)) (tE G w a) (tVar i) σ H Q := by
  obtain ⟨c', τ, ρ, k', hs, hw, hq⟩ := h
  refine ⟨c', τ, ρ, _, hs, hw, fun d n ρ1 v H1 hk1 hs1 => ?_⟩
  obtain ⟨s, es, hk⟩ := hk1
  obtain ⟨O, so, z1⟩ := hs1.take1
  obtain ⟨u, eu, zu⟩ := hs1.look es
  exact ⟨u, eu, H1, d, s.d, _, Sub.refl, Fz.mono sub_hide _ _ z1, zu, cmpP_0 hk, fun t ht => hq _ _ _ _ _ ht (so.push (Out.fz rfl sub_hide))⟩
theorem e_cmpS (A : At Y N c k X) {op : COp} (ha : PE X x (tE G X.w a)) (hn : nmOk N c i nm = true) : PE X (.Compare x [copOf op] [.Name nm p1] pos) (tE G X.w (.cmpS op a i)) :=
  (pe_cmpR (op_cmp0 op A.hu) ha (pe_slot A hn p1) (noMark_of rfl _)).imp fun σ H Q q => q_cmpS q
theorem t_cmpS (A : At Y N c k X) {op : COp} (ha : PE X x (tE G X.w a)) (hn : nmOk N c i nm = true) : PT X (.Compare x [copOf op] [.Name nm p1] pos) (tT G X.w (.cmpS op a i)) :=
  (pt_cmpR (op_cmp0 op A.hu) ha (pe_slot A hn p1) (noMark_of rfl _)).imp fun σ H Q q => t_of (fun _ _ _ => q_cmpS) q
theorem q_cmpSl {w : World} {op : COp} {b : E} {σ : List (Option V)} {H : Hp} {Q : VK} (h : tE G w (.cmpSl op i b) σ H Q) : tOp (rDC w (cmpP0 op)) (tVar i) (tE G w b) σ H Q := by
  obtain ⟨c', τ, ρ, k', hs, ⟨s0, es0, hw⟩, hq⟩ := h
  obtain ⟨v0, ev0, _⟩ := hs.look es0
  refine ⟨v0, ev0, c', τ, ρ, _, hs, hw, fun d n ρ1 v H1 hk1 hs1 => ?_⟩
  obtain ⟨s, es, hk⟩ := hk1
  obtain ⟨O, so, z1⟩ := hs1.take1
  obtain ⟨u, eu, zu⟩ := hs1.look es
  rw [ev0] at eu; cases eu
  exact ⟨H1, s.d, d, _, Sub.refl, zu, Fz.mono sub_hide _ _ z1, cmpP_0 hk, fun t ht => hq _ _ _ _ _ ht (so.push (Out.fz rfl sub_hide))⟩
theorem e_cmpSl (A : At Y N c k X) {op : COp} (hn : nmOk N c i nm = true) (hb : PE X y (tE G X.w b)) (hs : notSet y = true) : PE X (.Compare (.Name nm p1) [copOf op] [y] pos) (tE G X.w (.cmpSl op i b)) :=
  (pe_cmpR (op_cmp0 op A.hu) (pe_slot A hn p1) hb (noMark_of hs _)).imp fun σ H Q q => q_cmpSl q
theorem t_cmpSl (A : At Y N c k X) {op : COp} (hn : nmOk N c i nm = true) (hb : PE X y (tE G X.w b)) (hs : notSet y = true) : PT X (.Compare (.Name nm p1) [copOf op] [y] pos) (tT G X.w (.cmpSl op i b)) :=
  (pt_cmpR (op_cmp0 op A.hu) (pe_slot A hn p1) hb (noMark_of hs _)).imp fun σ H Q q => t_of (fun _ _ _ => q_cmpSl) q
theorem q_chain {w : World} {o1 o2 : COp} {a b d : E} {σ : List (Option V)} {H : Hp} {Q : VK} (h : tE G w (.chain o1 o2 a b d) σ H Q) : tChain (rDC w (cmpP0 o1)) (rDC w (cmpP0 o2)) (tE G w a) (tE G w b) (tE G w d) σ H Q := by
  obtain ⟨c', τ, ρ, k', hs, hw, hq⟩ := h
  refine ⟨c', τ, ρ, _, hs, hw, fun d n ρ1 v H1 hk1 hs1 => ⟨c', τ ++ t1 v d n, ρ1, _, hs1, hk1, fun d2 n2 ρ2 v2 H2 hk2 hs2 => ?_⟩⟩
  obtain ⟨O, so, z1, z2⟩ := hs2.take2
  refine ⟨_, d, d2, _, sub_hide, z1, z2, cmpP_0 hk2, fun t ht => ⟨t, rfl, ?_⟩⟩
  cases t with
  | false => exact hq _ _ _ _ _ ht (so.push (Out.fz rfl sub_hide))
  | true =>
    have hs3 : Sta w c' σ ρ2 (τ ++ t1 v2 d2 0) H2 := so.push (Out.fz z2 sub_hide)
    refine ⟨c', τ ++ t1 v2 d2 0, ρ2, _, hs3, ht, fun d3 n3 ρ3 v3 H3 hk3 hs4 => ?_⟩
    obtain ⟨O, so, z1, z2⟩ := hs4.take2
    exact ⟨_, d2, d3, _, sub_hide, z1, z2, cmpP_0 hk3, fun t ht => hq _ _ _ _ _ ht (so.push (Out.fz rfl sub_hide))⟩
theorem marks2 {o1 o2 : CmpOp} (h1 : notSet y = true) (h2 : notSet z = true) : lastMarks [o1, o2] [y, z] = false := by
  cases z <;> first | exact absurd h2 Bool.false_ne_true | (cases o2 <;> rfl)
theorem e_chain (A : At Y N c k X) {o1 o2 : COp} {d : E} (ha : PE X x (tE G X.w a)) (hb : PE X y (tE G X.w b)) (hc : PE X z (tE G X.w d)) (h1 : notSet y = true) (h2 : notSet z = true) : PE X (.Compare x [copOf o1, copOf o2] [y, z] pos) (tE G X.w (.chain o1 o2 a b d)) :=
  (pe_chain (op_cmp0 o1 A.hu) (op_cmp0 o2 A.hu) ha hb hc (marks2 h1 h2)).imp fun σ H Q q => q_chain q
theorem t_chain (A : At Y N c k X) {o1 o2 : COp} {d : E} (ha : PE X x (tE G X.w a)) (hb : PE X y (tE G X.w b)) (hc : PE X z (tE G X.w d)) (h1 : notSet y = true) (h2 : notSet z = true) : PT X (.Compare x [copOf o1, copOf o2] [y, z] pos) (tT G X.w (.chain o1 o2 a b d)) :=
  (pt_chain (op_cmp0 o1 A.hu) (op_cmp0 o2 A.hu) ha hb hc (marks2 h1 h2)).imp fun σ H Q q => t_of (fun _ _ _ => q_chain) q
theorem e_idx (ha : PE X x (tE G X.w a)) (hb : PE X y (tE G X.w b)) (hs : notSlice y = true) : PE X (.Subscript x y pos) (tE G X.w (.idx a b)) :=
  (pe_ix ix_data0 ha hb (plainIx_of hs)).imp fun σ H Q q => by
    obtain ⟨c', τ, ρ, k', hs, hw, hq⟩ := q
    refine ⟨c', τ, ρ, _, hs, hw, fun d n ρ1 v H1 hk1 hs1 => ⟨c', τ ++ t1 v d n, ρ1, _, hs1, hk1, fun d2 n2 ρ2 v2 H2 hk2 hs2 => ?_⟩⟩
    obtain ⟨O, so, z1, z2⟩ := hs2.take2
    refine ⟨_, d, d2, _, sub_hide, z1, z2, idxP_0 hk2, fun d3 n3 v3 H3 hk3 o => ?_⟩
    obtain ⟨rfl, hk3⟩ := hk3
    exact hq _ _ _ _ _ hk3 (so.push o)
theorem e_idxS (A : At Y N c k X) (hn : nmOk N c i nm = true) (hb : PE X y (tE G X.w b)) (hs : notSlice y = true) : PE X (.Subscript (.Name nm p1) y pos) (tE G X.w (.idxS i b)) :=
  (pe_ix (IxR.or ix_list ix_tup) (pe_slot A hn p1) hb (plainIx_of hs)).imp fun σ H Q q => by
    obtain ⟨c', τ, ρ, k', hs, ⟨s0, es0, hw⟩, hq⟩ := q
    obtain ⟨v0, ev0, _⟩ := hs.look es0
    refine ⟨v0, ev0, c', τ, ρ, _, hs, hw, fun d n ρ1 v H1 hk1 hs1 => ?_⟩
    obtain ⟨s, es, hk⟩ := hk1
    obtain ⟨O, so, z1⟩ := hs1.take1
    obtain ⟨u, eu, O2, f2, so2, ow, _⟩ := (so.sta).slot es
    rw [ev0] at eu; cases eu
    obtain ⟨d0, nl, t0, l0⟩ := s
    cases d0 with
    | list ds =>
      cases d <;> try exact hk.elim
      obtain ⟨d2, e, hn2, hk2⟩ := hk
      obtain ⟨a, xs, rfl, ha, hl, it⟩ := ow_items ow sub_hide
      unfold L2.atI at e
      cases ej : ixN ds.length _ with
      | none => rw [ej] at e; cases e
      | some j =>
        rw [ej] at e
        obtain ⟨x, hx, hz⟩ := it j d2 e hn2
        refine .inl ⟨a, xs, _, x, rfl, z1, SqL.of ha, ?_, hq _ _ _ _ _ hk2 (so2.push (Out.fz hz sub_hide))⟩
        unfold L2.atI
        rw [hl, ej]; exact hx
    | tuple ds =>
      cases d <;> try exact hk.elim
      obtain ⟨d2, e, hn2, hk2⟩ := hk
      obtain ⟨a, xs, rfl, ha, t⟩ := ow_nolist ow rfl
      obtain ⟨z, e2, hz⟩ := t.atI e
      exact .inr ⟨a, xs, _, z, rfl, z1, SqT.of (hide_some.mp ha).2, e2, hq _ _ _ _ _ hk2 (so2.push (Out.fz hz sub_hide))⟩
    | _ => exact hk.elim
theorem o_none : PO X none (tO G X.w .nil) := po_none.imp fun σ H Q q => by
  obtain ⟨c', τ, ρ, k', hs, hk, hq⟩ := q
  exact hq _ _ _ hk hs
theorem o_some (ha : PE X x (tE G X.w a)) : PO X (some x) (tO G X.w (.cons a .nil)) := (po_some ha).imp fun σ H Q q => by
  obtain ⟨c', τ, ρ, k', hs, hw, hq⟩ := q
  refine ⟨c', τ, ρ, _, hs, hw, fun d n ρ1 v H1 hk1 hs1 => ?_⟩
  cases d <;> try exact hk1.elim
  obtain ⟨O, so, z1⟩ := hs1.take1
  exact ⟨_, z1, hq _ _ _ hk1 so.sta⟩
theorem e_slc {l h : Option Expr} {lo hi : E} (ha : PE X x (tE G X.w a)) (hl : PO X l (tO G X.w lo)) (hh : PO X h (tO G X.w hi)) : PE X (.Subscript x (.Slice l h none p1) pos) (tE G X.w (.slc a lo hi)) :=
  (pe_slice sl_data ha hl hh).imp fun σ H Q q => by
    obtain ⟨c', τ, ρ, k', hs, hw, hq⟩ := q
    refine ⟨c', τ, ρ, _, hs, hw, fun d n ρ1 v H1 hk1 hs1 => ⟨c', _, ρ1, _, hs1, hk1, fun lo ρ2 H2 hk2 hs2 => ⟨c', _, ρ2, _, hs2, hk2, fun hi ρ3 H3 hk3 hs3 => ?_⟩⟩⟩
    obtain ⟨O, so, z1⟩ := hs3.take1
    exact ⟨_, d, _, sub_hide, z1, hk3, fun d3 n3 v3 H3 hk3 o => hq _ _ _ _ _ hk3 (so.push o)⟩
theorem cut_get {ds : List PyData} {lo hi : Option Int} {j : Nat} {d : PyData} (h : (cutD ds lo hi)[j]? = some d) : ds[HT.sIx ds.length 0 lo + j]? = some d := by
  unfold cutD at h
  rw [List.getElem?_take] at h
  split at h
  · rw [List.getElem?_drop] at h; exact h
  · cases h
theorem cutV_get {xs : List V} {lo hi : Option Int} {j : Nat} (h : j < (cutV xs lo hi).length) : (cutV xs lo hi)[j]? = xs[HT.sIx xs.length 0 lo + j]? := by
  unfold cutV at h ⊢
  rw [List.getElem?_take]
  rw [if_pos (by rw [List.length_take] at h; omega), List.getElem?_drop]
theorem cut_len {ds : List PyData} {xs : List V} {lo hi : Option Int} (h : xs.length = ds.length) : (cutV xs lo hi).length = (cutD ds lo hi).length := by
  unfold cutV cutD
  rw [h]; simp [h]
theorem flat_it {ds : List PyData} (h : flatN 1 (.list ds) = true) {j : Nat} {d : PyData} (e : ds[j]? = some d) : isCont d = false := by
  have h : ds.all (flatN 0) = true := h
  have := List.all_eq_true.mp h d (List.mem_of_getElem? e)
  cases d <;> first | rfl | exact absurd this Bool.false_ne_true
theorem e_slcS (A : At Y N c k X) {l h : Option Expr} {lo hi : E} {p5 : Pos} (hn : nmOk N c i nm = true) (hl : PO X l (tO G X.w lo)) (hh : PO X h (tO G X.w hi)) : PE X (.Subscript (.Name nm p5) (.Slice l h none p1) pos) (tE G X.w (.slcS i lo hi)) :=
  (pe_slice (SlR.or sl_list sl_data) (pe_slot A hn p5) hl hh).imp fun σ H Q q => by
    obtain ⟨c', τ, ρ, k', hs, ⟨s0, es0, hw⟩, hq⟩ := q
    obtain ⟨v0, ev0, _⟩ := hs.look es0
    refine ⟨v0, ev0, c', _, ρ, _, hs, hw, fun lo ρ2 H2 hk2 hs2 => ⟨c', _, ρ2, _, hs2, hk2, fun hi ρ3 H3 hk3 hs3 => ?_⟩⟩
    obtain ⟨s, es, hk⟩ := hk3
    obtain ⟨u, eu, O2, f2, so2, ow, _⟩ := hs3.slot es
    rw [ev0] at eu; cases eu
    obtain ⟨d0, nl, t0, l0⟩ := s
    cases d0 with
    | list ds =>
      obtain ⟨hn2, hk2⟩ := (show _ ∧ _ from hk)
      obtain ⟨a, xs, rfl, ha, hl, it⟩ := ow_items ow sub_hide
      refine .inl ⟨a, xs, rfl, SqL.of ha, fun p hp => hq _ _ _ _ _ hk2 (so2.push (Out.lst sub_hide hp ?_))⟩
      refine FzAll.of_get (cut_len hl) fun j d e => ?_
      have hj : j < (cutV xs lo hi).length := by rw [cut_len hl]; exact (List.getElem?_eq_some_iff.mp e).1
      rw [cutV_get hj, hl]
      exact it _ d (cut_get e) (hn2.imp id fun h => flat_it h e)
    | tuple ds =>
      refine .inr ⟨_, .tuple ds, _, sub_hide, ow_nolist ow rfl, hk, fun d3 n3 v3 H3 hk3 o => ?_⟩
      exact hq _ _ _ _ _ hk3.2 (so2.push o)
    | _ => exact hk.elim
theorem e_rev {kk : Nat} {p2 p3 p4 : Pos} (ha : PE X x (tE G X.w a)) : PE X (.Subscript x (.Slice none none (some (.UnaryOp .USub (.Constant (.int 1) kk p1) p2)) p3) pos) (tE G X.w (.rev a)) :=
  (pe_revA ha).imp fun σ H Q q => by
    obtain ⟨c', τ, ρ, k', hs, hw, hq⟩ := q
    refine ⟨c', τ, ρ, _, hs, hw, fun d n ρ1 v H1 hk1 hs1 => ?_⟩
    cases d <;> try exact hk1.elim
    · obtain ⟨O, so, a, xs, rfl, ha, t⟩ := hs1.take1
      exact ⟨a, xs, rfl, .inl ⟨SqL.of (hide_some.mp ha).2, fun p hp => hq _ _ _ _ _ hk1 (so.push (Out.lst sub_hide hp t.reverse))⟩⟩
    · obtain ⟨O, so, a, xs, rfl, ha, t⟩ := hs1.take1
      exact ⟨a, xs, rfl, .inr ⟨SqT.of (hide_some.mp ha).2, fun p hp => hq _ _ _ _ _ hk1 (so.push (Out.tup sub_hide hp t.reverse))⟩⟩
theorem e_revS (A : At Y N c k X) {kk : Nat} {p2 p3 p4 p5 : Pos} (hn : nmOk N c i nm = true) : PE X (.Subscript (.Name nm p5) (.Slice none none (some (.UnaryOp .USub (.Constant (.int 1) kk p1) p2)) p3) pos) (tE G X.w (.revS i)) :=
  (pe_revA (pe_slot A hn p5)).imp fun σ H Q q => by
    obtain ⟨c', τ, ρ, k', hs, ⟨s, es, hk⟩, hq⟩ := q
    obtain ⟨u, eu, O2, f2, so2, ow, _⟩ := hs.slot es
    obtain ⟨d0, nl, t0, l0⟩ := s
    cases d0 with
    | list ds =>
      obtain ⟨hn2, hk2⟩ := (show _ ∧ _ from hk)
      obtain ⟨a, xs, rfl, ha, hl, it⟩ := ow_items ow sub_hide
      refine ⟨_, eu, a, xs, rfl, .inl ⟨SqL.of ha, fun p hp => hq _ _ _ _ _ hk2 (so2.push (Out.lst sub_hide hp ?_))⟩⟩
      have fz : FzAll X.w (hide (c'.B ++ O2) H) xs ds := FzAll.of_get hl fun j d e => it j d e (hn2.imp id fun h => flat_it (ds := ds.reverse) h (j := ds.length - 1 - j) (by
        have hj := (List.getElem?_eq_some_iff.mp e).1
        rw [List.getElem?_reverse (by omega), show ds.length - 1 - (ds.length - 1 - j) = j by omega]; exact e))
      exact fz.reverse
    | tuple ds =>
      obtain ⟨_, hk2⟩ := (show _ ∧ _ from hk)
      obtain ⟨a, xs, rfl, ha, t⟩ := ow_nolist ow rfl
      exact ⟨_, eu, a, xs, rfl, .inr ⟨SqT.of (hide_some.mp ha).2, fun p hp => hq _ _ _ _ _ hk2 (so2.push (Out.tup sub_hide hp t.reverse))⟩⟩
    | _ => exact hk.elim
end
end PL
end
section
set_option Elab.async false
set_option linter.all false
set_option maxRecDepth 100000
set_option maxHeartbeats 300000
/-! PLX6: dict displays. -/
namespace PL
open L2 PyProof.Rows PySem.Spec PySem
def emD : Obj := { cls := .type "dict", data := .dict #[] }
theorem DRaw.empty {w : World} : DRaw w emD [] [] [] := ⟨⟨#[], 0, rfl, .nil, .nil, .inl ⟨[], rfl, .nil, rfl⟩⟩, Nat.zero_le _⟩
theorem dho_ok {P : Program} {w : World} {H : Hp} {h : Heap} {a : Addr} {o : Obj} (e : h.get? a = some o) : ObjOk P w H h a (dHO o a) := ⟨e, ⟨o, e⟩, fun h1 h2 q k => k _ q⟩
/-- entries of a dict with plain keys -/
theorem raw_K {P : Program} {w : World} : ∀ {el : List DictEntry} {rs : List (Key × Value)}, Pairs (mixKind P w) el rs → (∀ e ∈ el, ∃ k, (mixKind P w).is k e.key = true ∧ e.hash = (mixKind P w).hash k) →
    Vals ((rs.map (·.1)).map kV) (el.map (·.key)) ∧ el.map (·.hash) = (rs.map (·.1)).map (keyH w) ∧ el.map (·.val) = rs.map (·.2)
  | _, _, .nil, _ => ⟨.nil, rfl, rfl⟩
  | _, _, .cons (e := e) (kv := kv) h1 h2 t, hk => by
    obtain ⟨g1, g2, g3⟩ := raw_K t fun e he => hk e (List.mem_cons_of_mem _ he)
    obtain ⟨k, q1, q2⟩ := hk e List.mem_cons_self
    have ek : k = kv.1 := (mixKind P w).inj _ _ _ q1 h1
    subst ek
    refine ⟨.cons ?_ g1, ?_, by rw [List.map_cons, List.map_cons, h2, g3]⟩
    · rcases keyIs_shape h1 with ⟨i, t, e1, e2⟩ | ⟨x, t, e1, e2⟩
      · show RelV (kV kv.1) e.key
        rw [e1, e2]; exact ⟨t, rfl⟩
      · show RelV (kV kv.1) e.key
        rw [e1, e2]; exact ⟨t, rfl⟩
    · rw [List.map_cons, List.map_cons, List.map_cons, g2, q2]; rfl
theorem kv_vals : ∀ {kvs : List (Key × V)} {rs : List (Key × Value)}, KV kvs rs → kvs.map (·.1) = rs.map (·.1) ∧ Vals (kvs.map (·.2)) (rs.map (·.2))
  | _, _, .nil => ⟨rfl, .nil⟩
  | _, _, .cons h t => by
    obtain ⟨g1, g2⟩ := kv_vals t
    exact ⟨by rw [List.map_cons, List.map_cons, h.1, g1], .cons h.2 g2⟩
theorem draw_K {P : Program} {w : World} {h : Heap} {a : Addr} {rs : List (Key × Value)} {kvs : List (Key × V)} (d : h.DictOf (mixKind P w) a rs) (r : KV kvs rs) (hz : kvs.length ≤ sizeLine) :
    ∃ o, h.get? a = some o ∧ DRaw w o ((kvs.map (·.1)).map kV) (kvs.map (·.2)) ((kvs.map (·.1)).map kD) := by
  obtain ⟨o, es, ep, g, ex, ed, hk, hp, nd⟩ := d
  obtain ⟨cls, dd, data, sl⟩ := o
  obtain ⟨x1, x2, x3⟩ := ex
  simp only at x1 x2 x3 ed
  subst x1 x2 x3 ed
  obtain ⟨g1, g2, g3⟩ := raw_K hp fun e he => hk e (Array.mem_toList_iff.mp he)
  obtain ⟨v1, v2⟩ := kv_vals r
  refine ⟨_, g, ⟨es, ep, rfl, ?_, ?_, .inl ⟨kvs.map (·.1), rfl, ?_, ?_⟩⟩, by rw [List.length_map, List.length_map]; exact hz⟩
  · rw [v1]; exact g1
  · rw [g3]; exact v2
  · rw [v1]; exact nd
  · rw [v1]; exact g2
theorem draw_nil {w : World} {o : Obj} {ks vs : List V} (d : DRaw w o ks vs []) : ∃ (es : Array DictEntry) (ep : Nat), o = { cls := .type "dict", data := .dict es ep } ∧ es.toList = [] := by
  obtain ⟨es, ep, eo, _, _, dk⟩ := d.ex
  refine ⟨es, ep, eo, List.length_eq_zero_iff.mp ?_⟩
  rcases dk with ⟨kk, h1, _, h3⟩ | ⟨tt, h1, _, h3⟩
  · cases kk with
    | nil => have := congrArg List.length h3; simpa using this
    | cons => cases h1
  · cases tt with
    | nil => have := congrArg List.length h3; simpa using this
    | cons => cases h1
theorem dictOf_nil {P : Program} {w : World} {h : Heap} {a : Addr} {o : Obj} {ks vs : List V} (d : DRaw w o ks vs []) (e : h.get? a = some o) : h.DictOf (mixKind P w) a [] := by
  obtain ⟨es, ep, eo, e2⟩ := draw_nil d
  subst eo
  refine ⟨_, es, ep, e, ⟨rfl, rfl, rfl⟩, rfl, fun en he => ?_, by rw [e2]; exact .nil, .nil⟩
  have := Array.mem_toList_iff.mpr he
  rw [e2] at this
  cases this
theorem kv_one {k : Key} {v : V} {rs : List (Key × Value)} (r : KV [(k, v)] rs) : ∃ u, rs = [(k, u)] ∧ RelV v u := by
  cases r with
  | cons h t =>
    cases t
    rename_i q
    obtain ⟨q1, q2⟩ := q
    obtain ⟨h1, h2⟩ := h
    have h1 : k = q1 := h1
    subst h1
    exact ⟨q2, rfl, h2⟩
theorem merged_one (k : Key) (u : Value) : merged [] [(k, u)] = [(k, u)] := rfl
section
variable {w : World} {c : Fr} {σ : List (Option V)} {ρ ρ' : Env} {τ : List Item} {H H' F F' : Hp} {O : List Addr}
theorem Out.dict {p : Addr} {o : Obj} {ks vs : List V} {kvs : List (PyData × PyData)} (s : Sub F H) (hp : H p = none) (hs : (p == sysModules) = false) (dr : DRaw w o ks vs (kvs.map (·.1))) (fk : FzAll w F ks (kvs.map (·.1))) (fv : FzAll w F vs (kvs.map (·.2))) :
    Out w F H (.ref p) (.dict kvs) 1 (upd H p (dHO o p)) := by
  have hF : F p = none := by
    cases q : F p with
    | none => rfl
    | some o => have := s _ _ q; rw [hp] at this; cases this
  exact ⟨sub_upd hp, F, [p], .refl, s.trans (sub_upd hp), fun a o q => .inl q, by simp, fun a ha => by rw [List.mem_singleton.mp ha]; exact ⟨hp, hF⟩, p, o, ks, vs, [], rfl, upd_same, hs, dr, fk, OwAll.ofFz fv, rfl⟩
/-- the last temporary a dict: what stands there -/
theorem StaO.dictAt {a : Addr} {kvs : List (PyData × PyData)} (h : StaO w c σ ρ (τ ++ t1 (.ref a) (.dict kvs) 1) H O) :
    ∃ f g o ks vs, O = f ++ a :: g ∧ ItsR w (hide (c.B ++ O) H) H (zs σ ρ ++ τ) f ∧ H a = some (dHO o a) ∧ (a == sysModules) = false ∧ DRaw w o ks vs (kvs.map (·.1)) := by
  have q := h.fits.its
  rw [← List.append_assoc] at q
  obtain ⟨f, g, i1, ⟨f1, g1, r, e1, e2⟩, e⟩ := q.unappend
  have e1 : g1 = [] := e1
  subst e1
  obtain ⟨b, o, ks, vs, g2, ev, ha, hs, dr, fk, ov, ef⟩ := r
  cases ev
  rw [List.append_nil] at e2
  subst e2
  subst ef
  exact ⟨f, g2, o, ks, vs, e, i1, ha, hs, dr⟩
/-- it is written anew, of frozen things -/
theorem StaO.redict {a : Addr} {o' : Obj} {ks vs : List V} {kvs kvs' : List (PyData × PyData)} (h : StaO w c σ ρ (τ ++ t1 (.ref a) (.dict kvs) 1) H O) (dr : DRaw w o' ks vs (kvs'.map (·.1))) (fk : FzAll w (hide (c.B ++ O) H) ks (kvs'.map (·.1))) (fv : FzAll w (hide (c.B ++ O) H) vs (kvs'.map (·.2))) :
    Sta w c σ ρ (τ ++ t1 (.ref a) (.dict kvs') 1) (upd H a (dHO o' a)) := by
  obtain ⟨f, g, o, ks0, vs0, eO, i1, ha, hs, _⟩ := h.dictAt
  obtain ⟨q, h2, h3⟩ := h
  have nd := q.nd
  rw [eO] at nd
  have naf : a ∉ f := fun z => nodup_dis nd z List.mem_cons_self
  have sb : Sub (hide (c.B ++ O) H) (hide (c.B ++ (f ++ [a])) (upd H a (dHO o' a))) := fun b ob z => by
    obtain ⟨z1, z2⟩ := hide_some.mp z
    have nb : b ≠ a := fun e => z1 (by rw [e, eO]; simp)
    refine hide_some.mpr ⟨fun z3 => z1 ?_, by rw [upd_ne nb]; exact z2⟩
    rw [eO]
    simp only [List.mem_append, List.mem_cons, List.not_mem_nil, or_false] at z3 ⊢
    rcases z3 with z3 | z3 | z3
    · exact .inl z3
    · exact .inr (.inl z3)
    · exact .inr (.inr (.inl z3))
  have hO : ∀ b ∈ f ++ [a], b ∈ O := fun b hb => by
    rw [eO]
    simp only [List.mem_append, List.mem_cons, List.not_mem_nil, or_false] at hb ⊢
    rcases hb with hb | hb
    · exact .inl hb
    · exact .inr (.inl hb)
  refine ⟨⟨f ++ [a], ?_, ?_, fun b hb => q.dis b (hO b hb), fun b hb => ?_, fun b ob e hn => ?_, fun b hb => q.new b (hO b hb)⟩, h2, h3⟩
  · have m1 : ItsR w (hide (c.B ++ (f ++ [a])) (upd H a (dHO o' a))) (upd H a (dHO o' a)) (zs σ ρ ++ τ) f := i1.mono sb fun b hb ob e => by rw [upd_ne (show b ≠ a from fun z => naf (z ▸ hb))]; exact e
    have m2 : ItsR w (hide (c.B ++ (f ++ [a])) (upd H a (dHO o' a))) (upd H a (dHO o' a)) (t1 (.ref a) (.dict kvs') 1) [a] :=
      ⟨[a], [], ⟨a, o', ks, vs, [], rfl, upd_same, hs, dr, FzAll.mono sb _ _ fk, OwAll.ofFz (FzAll.mono sb _ _ fv), rfl⟩, rfl, rfl⟩
    have m3 := m1.append m2
    rw [List.append_assoc] at m3
    exact m3
  · refine List.nodup_append.mpr ⟨nodup_left nd, by simp, fun x hx y hy e => ?_⟩
    rw [List.mem_singleton] at hy
    exact naf (by rw [← hy, ← e]; exact hx)
  · by_cases z : b = a
    · subst z; rw [upd_same]; simp
    · rw [upd_ne z]; exact q.bar b hb
  · have ne : b ≠ a := fun z => by
      rcases q.new a (hO a (by simp)) with z1 | z1
      · exact hn (z ▸ z1)
      · rw [z, z1] at e; cases e
    rw [upd_ne ne]
    exact q.keep b ob e hn
end
section
variable {Y : Tx} {N : List Str} {c : Sc} {k : Nat} {X : Cx} {G : Ctx} {a b : E} {x y : Expr} {pos : Pos}
theorem sta_o {w : World} {c : Fr} {σ : List (Option V)} {ρ : Env} {τ : List Item} {H : Hp} (h : Sta w c σ ρ τ H) : ∃ O, StaO w c σ ρ τ H O := let ⟨⟨O, q⟩, h2, h3⟩ := h; ⟨O, q, h2, h3⟩
theorem no_sys {pins : List (Addr × Obj)} {σ : List (Option V)} {H : Hp} {s : Shared} (I : L2.Inv X pins σ H s) : (s.heap.objs.size == sysModules) = false := beq_eq_false_iff_ne.mpr (Nat.ne_of_gt I.big)
theorem e_dnil : PE X (.Dict [] [] pos) (tE G X.w (.dnil)) := by
  refine ⟨fun pins s σ H Q I q => ?_⟩
  obtain ⟨c', τ, ρ, k', hs, hk, hq⟩ := q
  obtain ⟨O, so⟩ := sta_o hs
  have hn := I.hok.fresh (Nat.le_refl s.heap.objs.size)
  have I1 := I.laid (a := s.heap.objs.size) (o := dHO emD s.heap.objs.size) (h' := s.heap.push emD) (t' := s.toks) (fun _ _ q => Heap.get?_push_of_some _ q) (Nat.le_refl _) (dho_ok (Heap.get?_push_size _ rfl))
  have hs1 := so.push (Out.dict (kvs := []) sub_hide hn (no_sys I) DRaw.empty trivial trivial)
  have hend := hq _ _ _ _ _ hk hs1
  exact wpAny_Dict_empty ⟨.ref s.heap.objs.size, _, I1, rfl, hend⟩
theorem e_dsp (ha : PE X x (tE G X.w a)) (hb : PE X y (tE G X.w b)) : PE X (.Dict [some x] [y] pos) (tE G X.w (.dsp a b)) := by
  refine ⟨fun pins s σ H Q I q => ?_⟩
  obtain ⟨c', τ, ρ, k', hs, hw, hq⟩ := q
  obtain ⟨O, so⟩ := sta_o hs
  have hn := I.hok.fresh (Nat.le_refl s.heap.objs.size)
  have I1 := I.laid (a := s.heap.objs.size) (o := dHO emD s.heap.objs.size) (h' := s.heap.push emD) (t' := s.toks) (fun _ _ q => Heap.get?_push_of_some _ q) (Nat.le_refl _) (dho_ok (Heap.get?_push_size _ rfl))
  have hs1 := so.push (Out.dict (kvs := []) sub_hide hn (no_sys I) DRaw.empty trivial trivial)
  have tp : tPairs [(tE G X.w a, tE G X.w b)] σ (upd H s.heap.objs.size (dHO emD s.heap.objs.size)) fun ps H2 => ∃ (k : Key) (v2 : V) (d2 : PyData) (ρ2 : PL.Env) (O2 : List Addr),
      ps = [(kV k, v2)] ∧ StaO X.w c' σ ρ2 (τ ++ t1 (.ref s.heap.objs.size) (.dict []) 1) H2 O2 ∧ Fz X.w (hide (c'.B ++ O2) H2) (kV k) (kD k) ∧ Fz X.w (hide (c'.B ++ O2) H2) v2 d2 ∧ k' (.dict [(kD k, d2)]) 1 ρ2 := by
    refine ⟨c', _, ρ, _, hs1, hw, fun d n ρ1 v H1 hk1 hs2 => ⟨c', _, ρ1, _, hs2, hk1, fun d2 n2 ρ2 v2 H2 hk2 hs3 => ?_⟩⟩
    obtain ⟨e1, hk⟩ := hk2
    obtain ⟨O2, so2, z1, z2⟩ := hs3.take2
    obtain ⟨k0, e0⟩ := Option.isSome_iff_exists.mp e1
    have e1 := kD_kOf e0
    subst e1
    have ev := fz_kD z1
    subst ev
    exact ⟨k0, v2, d2, ρ2, O2, rfl, so2, z1, z2, hk⟩
  refine wpAny_Dict_walk (knd := mixKind X.prog X.w) rfl rfl (by simp) (by simp) (thn ((pps_cons ha hb pps_nil).run pins _ σ _ _ I1 tp) fun ws s2 ⟨ps, H2, I2, rel, k0, v2, d2, ρ2, O2, ep, so2, z1, z2, hk⟩ => ?_)
  obtain ⟨rs, cr, rk⟩ := carries_of (P := X.prog) (w := X.w) (kvs := [(k0, v2)]) (by rw [ep] at rel; exact rel)
  obtain ⟨f, g, o, ks, vs, eO, _, hp, hsm, dr⟩ := so2.dictAt
  refine ⟨rs, cr, dictOf_nil dr (raw_at I2 hp), fun h' dd' hsb => ?_⟩
  obtain ⟨u2, ers, ru⟩ := kv_one rk
  rw [ers, merged_one] at dd'
  obtain ⟨o', g', dr'⟩ := draw_K (kvs := [(k0, v2)]) dd' (.cons ⟨rfl, ru⟩ .nil) (by show 1 ≤ sizeLine; decide)
  have hs4 := so2.redict (kvs' := [(kD k0, d2)]) dr' ⟨z1, trivial⟩ ⟨z2, trivial⟩
  exact ⟨.ref s.heap.objs.size, _, d_write I2 (ext_mut hp) hsb ⟨o', g'⟩ (dho_ok g'), rfl, hq _ _ _ _ _ hk hs4⟩
end
end PL
end
section
set_option Elab.async false
set_option linter.all false
set_option maxRecDepth 100000
set_option maxHeartbeats 2000000
/-! PL15: built-in functions, calls. -/
namespace PL
open L2 PyProof.Rows PySem.Spec PySem
theorem Out.flat {w : World} {F0 F H H' : Hp} {v : V} {d : PyData} {n : Nat} (s0 : Sub F0 F) (sF : Sub F H) (t : TSub F F0) (o : Out w F H v d n H') (fl : flatN n d = true) : Out w F0 H v d n H' := by
  obtain ⟨s, F', fp, s1, s2, s3, nd, fr, ow⟩ := o
  let F2 : Hp := fun a => match F0 a with
    | some o => some o
    | none => match F' a with | some (.tup xs) => some (.tup xs) | _ => none
  have e0 : ∀ a o, F0 a = some o → F2 a = some o := fun a o q => by show (match F0 a with | some o => some o | none => _) = _; rw [q]
  have e2 : ∀ a o, F2 a = some o → F0 a = some o ∨ (F0 a = none ∧ ∃ xs, o = .tup xs ∧ F' a = some (.tup xs)) := fun a o q => by
    have q : (match F0 a with | some o => some o | none => match F' a with | some (.tup xs) => some (.tup xs) | _ => none) = some o := q
    cases q0 : F0 a with
    | some o' => rw [q0] at q; left; exact q
    | none =>
      rw [q0] at q
      right
      refine ⟨rfl, ?_⟩
      simp only at q
      split at q
      · rename_i xs e; cases q; exact ⟨xs, rfl, e⟩
      · cases q
  refine ⟨s, F2, fp, e0, fun a o q => ?_, fun a o q => ?_, nd, fun a ha => ?_, ?_⟩
  · rcases e2 a o q with h | ⟨_, xs, rfl, h⟩
    · exact s _ _ (sF _ _ (s0 _ _ h))
    · exact s2 _ _ h
  · rcases e2 a o q with h | ⟨h0, xs, rfl, h⟩
    · exact .inl h
    · rcases s3 a _ h with h' | h'
      · exact .inl (t a xs h')
      · exact .inr h'
  · obtain ⟨f1, f2⟩ := fr a ha
    refine ⟨f1, ?_⟩
    cases q : F2 a with
    | none => rfl
    | some o =>
      exfalso
      rcases e2 a o q with h | ⟨_, xs, rfl, h⟩
      · have := sF _ _ (s0 _ _ h); rw [f1] at this; cases this
      · rw [f2] at h; cases h
  · refine Ow.tsub (fun a xs q => ?_) n v d fp fl ow
    cases q0 : F0 a with
    | some o' =>
      have := s1 _ _ (s0 _ _ q0)
      rw [q] at this; cases this
      exact e0 _ _ q0
    | none =>
      show (match F0 a with | some o => some o | none => match F' a with | some (.tup xs) => some (.tup xs) | _ => none) = _
      rw [q0, q]
section
variable {Y : Tx} {N : List Str} {c : Sc} {k : Nat} {X : Cx} {G : Ctx} {a b e0 : E} {x y z : Expr} {pos p1 p2 : Pos} {i : Nat} {nm ny : Str}
theorem free_of (A : At Y N c k X) {n : String} (h : freeOk Y c nm n = true) : nm = (n : Str) ∧ Gl X nm ∧ X.mg nm = none ∧ (nm == ("__debug__" : Str)) = false ∧ nm ≠ "__name__" := by
  unfold freeOk at h
  simp only [Bool.and_eq_true, decide_eq_true_eq] at h
  obtain ⟨⟨⟨h1, h2⟩, h3⟩, h4⟩ := h
  refine ⟨h1, gl_of A h3, ?_, (plain_of h4).1, (plain_of h4).2.2⟩
  subst h1
  exact A.free n h2
theorem q_fn {w : World} {f : BF} {es : E} {σ : List (Option V)} {H : Hp} {Q : VK} (h : tE G w (.fn f es) σ H Q) : tCB (RF w f) (tL G w es) σ H Q := by
  obtain ⟨c', τ, ρ, k', hs, hw, hq⟩ := h
  refine ⟨c', τ, ρ, _, hs, hw, fun ps ρ1 vs H1 hk hl hs1 => ?_⟩
  obtain ⟨O, so, fz⟩ := hs1.take hl
  exact ⟨_, ps.map (·.1), _, sub_hide, fz, hk, fun d n v H' hk' o => hq _ _ _ _ _ hk' (so.push o)⟩
theorem q_fnS {w : World} {f : BF} {σ : List (Option V)} {H : Hp} {Q : VK} (h : tE G w (.fnS f i) σ H Q) : tCB (RF w f) (tCons (tVar i) tNil) σ H Q := by
  obtain ⟨c', τ, ρ, k', hs, ⟨s, es, hk⟩, hq⟩ := h
  obtain ⟨v, ev, O, fp, so, ow, hf⟩ := hs.slot es
  refine ⟨v, ev, ?_⟩
  let F : Hp := hide (c'.B ++ O.filter (fun a => decide (a ∉ fp))) H
  have sF : Sub (hide (c'.B ++ O) H) F := hide_sub Sub.refl fun a ha hn => absurd (by
    rcases List.mem_append.mp ha with z | z
    · exact List.mem_append_left _ z
    · exact List.mem_append_right _ (List.mem_filter.mp z).1) hn
  have fz : Fz w F v s.d := Ow.fz sF _ _ _ _ ow fun a ha o q => hide_some.mpr ⟨fun z => by
    rcases List.mem_append.mp z with z | z
    · exact so.fits.dis a (hf a ha) z
    · have := (List.mem_filter.mp z).2
      simp at this; exact this ha, q⟩
  have t : TSub F (hide (c'.B ++ O) H) := fun a xs q => by
    obtain ⟨q1, q2⟩ := hide_some.mp q
    refine hide_some.mpr ⟨fun z => ?_, q2⟩
    rcases List.mem_append.mp z with z | z
    · exact q1 (List.mem_append_left _ z)
    · exact (so.fits.its.cont a z).tup q2
  exact ⟨F, [s.d], _, sub_hide, ⟨fz, trivial⟩, hk, fun d n v H' hk' o => hq _ _ _ _ _ hk'.2 (so.push (o.flat sF sub_hide t hk'.1))⟩
inductive FnV (X : Cx) (f : BF) (n : Str) : Prop
  | blt (id : String) (hv : bootBuiltins n = some (.builtin id)) (hc : CallR X (.builtin id) (RF X.w f))
  | ty (T : String) (hv : bootBuiltins n = some (.type T)) (hc : CallR X (.type T) (RF X.w f))
theorem fnV (A : At Y N c k X) {f : BF} (h : okFn f = true) : FnV X f (bfName f : Str) := by
  cases f with
  | len => exact .blt "len" (by decide +kernel) cr_len
  | abs => exact .blt "abs" (by decide +kernel) cr_abs
  | int => exact .ty "int" (by decide +kernel) cr_int
  | str => exact .ty "str" (by decide +kernel) cr_str
  | repr => exact .blt "repr" (by decide +kernel) (cr_repr A.hu A.gd)
  | min => exact .blt "min" (by decide +kernel) (cr_minD A.calm A.hu)
  | max => exact .blt "max" (by decide +kernel) (cr_maxD A.calm A.hu)
  | sum => exact .blt "sum" (by decide +kernel) (cr_sumD A.calm)
  | any => exact .blt "any" (by decide +kernel) (cr_anyD A.calm)
  | all => exact .blt "all" (by decide +kernel) (cr_allD A.calm)
  | sorted => exact .blt "sorted" (by decide +kernel) (cr_sortedL A.hu)
  | list => exact .ty "list" (by decide +kernel) cr_listD
  | tuple => exact .ty "tuple" (by decide +kernel) cr_tupleD
  | _ => exact absurd h Bool.false_ne_true
theorem pe_fn (A : At Y N c k X) {f : BF} {es : List Expr} {t : TA} (hf : okFn f = true) (hx : freeOk Y c nm (bfName f) = true) (hst : noStars (x :: es) = true) (hl : PA X (x :: es) t) : PE X (.Call (.Name nm p1) (x :: es) [] pos) (tCB (RF X.w f) t) := by
  obtain ⟨e, hg, hm, hd, hn⟩ := free_of A hx
  obtain ⟨s1, s2⟩ := noStars_cons hst
  cases fnV A hf with
  | blt id hv hc => exact pe_callB hc hg hm (by rw [e]; exact hv) hl hn hd (starEach_of s1 _ _) (back_plain _ _ s2)
  | ty T hv hc => exact pe_callTy hc hg hm (by rw [e]; exact hv) hl hn hd (starEach_of s1 _ _) (back_plain _ _ s2)
theorem e_fn (A : At Y N c k X) {f : BF} {es : E} {xs : List Expr} (hf : okFn f = true) (hx : freeOk Y c nm (bfName f) = true) (hst : noStars (x :: xs) = true) (hl : PA X (x :: xs) (tL G X.w es)) : PE X (.Call (.Name nm p1) (x :: xs) [] pos) (tE G X.w (.fn f es)) :=
  (pe_fn A hf hx hst hl).imp fun σ H Q q => q_fn q
theorem e_fnS (A : At Y N c k X) {f : BF} (hf : okFn f = true) (hx : freeOk Y c nm (bfName f) = true) (hn : nmOk N c i ny = true) : PE X (.Call (.Name nm p1) [.Name ny p2] [] pos) (tE G X.w (.fnS f i)) :=
  (pe_fn A hf hx rfl (pa_cons (pe_slot A hn p2) pa_nil rfl)).imp fun σ H Q q => q_fnS q
/-! ### calls -/
def tA (G : Ctx) (w : World) (e : E) : TA := fun σ H Q => ∃ (c : Fr) (τ : List Item) (ρ : Env) (k : List Arg → Env → Prop), Sta w c σ ρ τ H ∧ wpA G e ρ k ∧
  ∀ as ρ' vs H', k as ρ' → ArgOk σ vs as → Sta w c σ ρ' (τ ++ tmA vs as) H' → Q vs H'
theorem a_nil : PA X [] (tA G X.w .nil) := pa_nil.imp fun σ H Q q => by
  obtain ⟨c', τ, ρ, k', hs, hk, hq⟩ := q
  exact hq [] ρ [] H hk trivial (by simpa [tmA] using hs)
theorem a_val {r : E} {xs : List Expr} (h1 : ∀ i, a ≠ .bor i) (h2 : ∀ i, a ≠ .lend i) (ha : PE X x (tE G X.w a)) (hr : PA X xs (tA G X.w r)) (hs : noStar x = true) : PA X (x :: xs) (tA G X.w (.cons a r)) :=
  (pa_cons ha hr (starEach_of hs _ _)).imp fun σ H Q q => by
    obtain ⟨c', τ, ρ, k', hs, hw, hq⟩ := q
    have hw : wpE G a ρ fun d n ρ1 => wpA G r ρ1 fun as ρ2 => k' (.val d n :: as) ρ2 := by
      cases a <;> first | exact hw | exact absurd rfl (h1 _) | exact absurd rfl (h2 _)
    refine ⟨c', τ, ρ, _, hs, hw, fun d n ρ1 v H1 hk1 hs1 => ⟨c', τ ++ t1 v d n, ρ1, _, hs1, hk1, fun as ρ2 vs H2 hk2 hl hs2 => ?_⟩⟩
    exact hq _ _ (v :: vs) _ hk2 hl (by rw [List.append_assoc] at hs2; exact hs2)
theorem a_bor (A : At Y N c k X) {r : E} {xs : List Expr} (hn : nmOk N c i nm = true) (hr : PA X xs (tA G X.w r)) : PA X (.Name nm p1 :: xs) (tA G X.w (.cons (.bor i) r)) :=
  (pa_cons (pe_slot A hn p1) hr rfl).imp fun σ H Q q => by
    obtain ⟨c', τ, ρ, k', hs, ⟨s, es, hw⟩, hq⟩ := q
    obtain ⟨v, ev, _⟩ := hs.look es
    refine ⟨v, ev, c', τ ++ [(some v, none)], ρ, _, hs.ghost, hw, fun as ρ2 vs H2 hk2 hl hs2 => ?_⟩
    exact hq _ _ (v :: vs) _ hk2 ⟨ev, hl⟩ (by rw [List.append_assoc] at hs2; exact hs2)
theorem a_lend (A : At Y N c k X) {r : E} {xs : List Expr} (hn : nmOk N c i nm = true) (hr : PA X xs (tA G X.w r)) : PA X (.Name nm p1 :: xs) (tA G X.w (.cons (.lend i) r)) :=
  (pa_cons (pe_slot A hn p1) hr rfl).imp fun σ H Q q => by
    obtain ⟨c', τ, ρ, k', hs, ⟨s, es, hw⟩, hq⟩ := q
    obtain ⟨v, ev, _⟩ := hs.look es
    refine ⟨v, ev, c', τ ++ [(some v, none)], ρ, _, hs.ghost, hw, fun as ρ2 vs H2 hk2 hl hs2 => ?_⟩
    exact hq _ _ (v :: vs) _ hk2 ⟨ev, hl⟩ (by rw [List.append_assoc] at hs2; exact hs2)
theorem e_call (A : At Y N c k X) {f : Nat} {es : E} {xs : List Expr} {d : FnI} (hg : isGl c nm = true) (hp : plainNm nm = true) (hst : noStars (x :: xs) = true) (hd : Y.T.fns[f]? = some d) (hnm : (d.name : Str) = nm)
    (hl : PA X (x :: xs) (tA (ctx Y.T k noX) X.w es)) : PE X (.Call (.Name nm p1) (x :: xs) [] pos) (tE (ctx Y.T k noX) X.w (.call f es)) := by
  subst hnm
  obtain ⟨ad, hm, hk, F⟩ := (A.fns f d hd).ex
  obtain ⟨s1, s2⟩ := noStars_cons hst
  refine (pe_callG F A.room A.gd (gl_of A hg) hm hk hl (plain_of hp).1 (starEach_of s1 _ _) (back_plain _ _ s2)).imp fun σ H Q q => ?_
  obtain ⟨c', τ, ρ, k', hs, hw, hq⟩ := q
  refine ⟨c', τ, ρ, _, hs, hw, fun as ρ1 vs H1 hk1 ok hs1 => ?_⟩
  obtain ⟨ds, e1, e2, ⟨e3, e4⟩, hc⟩ := hk1
  obtain ⟨B, L, b1, b2, b3, b4, b5, b6⟩ := sta_call hs1 ok e1 e2 e3 e4
  exact ⟨B, ds, L, _, b1, b2, b3, b4, b5, hc, fun d n os v H' fp L' hq' k1 k2 k3 k4 k5 => hq _ _ _ _ _ hq'.2 (b6 d n os v H' fp L' k1 k2 k3 k4 k5 hq'.1)⟩
end
end PL
end
section
set_option Elab.async false
set_option linter.all false
set_option maxRecDepth 100000
set_option maxHeartbeats 2000000
/-! PLX1: isinstance. -/
namespace PL
open L2 PyProof.Rows PySem.Spec PySem
def rIsT (w : World) : List V → Hp → VK → Prop := fun xs H Q => ∃ (F : Hp) (x : V) (d : PyData) (t : TyN), Sub F H ∧ xs = [x, .ty (tyName t)] ∧ Fz w F x d ∧ Q (.bl (isTy t d)) H
def dTy : PyData → String
  | .none => "NoneType" | .bool _ => "bool" | .int _ => "int" | .str _ => "str" | .tuple _ => "tuple" | .list _ => "list" | .dict _ => "dict"
def ansTy (n : String) (t : TyN) : Bool := n == tyName t || (n == "bool" && decide (t = .int))
theorem kit_all : ∀ n ∈ ["NoneType", "bool", "int", "str", "tuple", "list", "dict"], ∀ t ∈ [TyN.int, .bool, .str, .tuple, .list, .dict], kitB n (tyName t) = some (ansTy n t) := by decide +kernel
theorem kit_dTy {K : PySem.W.Frag} (t : TyN) (d : PyData) : PySem.W.kitOne K (.type (dTy d)) (.type (tyName t)) = some (isTy t d) := by
  refine kit_ty ?_
  have e : isTy t d = ansTy (dTy d) t := by
    cases t <;> cases d <;> first | rfl | (show true = _; decide +kernel) | (show false = _; decide +kernel)
  rw [e]
  exact kit_all _ (by cases d <;> simp [dTy]) _ (by cases t <;> simp)
theorem call_isT {X : Cx} : CallR X (.builtin "isinstance") (rIsT X.w) := by
  intro pins s σ H xs us Q I r h
  obtain ⟨F, x, d, t, sb, rfl, hx, q⟩ := h
  have base : ∀ {tv : Value}, TyX X.K H x tv → tv = .type (dTy d) → wpAny (model X.prog X.w) X.A (call (.builtin "isinstance") us) (EP X pins σ Q) X.xe s := fun ty e => by
    subst e
    exact call_isi pins s σ H _ us Q I r ⟨x, .ty (tyName t), _, .type (tyName t), isTy t d, rfl, .ty _, ty, kit_dTy t d, q⟩
  cases d with
  | none => cases (show x = _ from hx); exact base (.base .non) rfl
  | bool b => cases (show x = _ from hx); exact base (.base (.bl b)) rfl
  | int i => cases (show x = _ from hx); exact base (.base (.int i)) rfl
  | str y => cases (show x = _ from hx); exact base (.base (.str y)) rfl
  | tuple ds => obtain ⟨a, ys, rfl, e, _⟩ := hx; exact base (.base (.tup (sb _ _ e))) rfl
  | list ds => obtain ⟨a, ys, rfl, e, _⟩ := hx; exact base (.base (.lst (sb _ _ e))) rfl
  | dict kvs =>
    obtain ⟨a, o, ks, vs, rfl, e, _, dr, _⟩ := hx
    obtain ⟨u1, u2, rfl, r1, r2⟩ := vals2 r
    cases (show u1 = Value.ref a from r1)
    cases (show u2 = Value.type (tyName t) from r2)
    obtain ⟨es, ep, eo, _⟩ := dr.ex
    have g := rd_dict I (sb _ _ e)
    rw [eo] at g
    exact PySem.W.kia_one PySem.W.kitx_dict I.kIn ⟨_, g, rfl⟩ (kit_dTy t (.dict kvs)) (fun z => nomatch z) fun tk => ⟨.bl _, H, I.tok tk, rfl, q⟩
section
variable {Y : Tx} {N : List Str} {c : Sc} {k : Nat} {X : Cx} {G : Ctx} {a : E} {x : Expr} {pos p1 p2 : Pos} {nm nt : Str}
theorem e_isT (A : At Y N c k X) {t : TyN} (hx : freeOk Y c nm "isinstance" = true) (ht : freeOk Y c nt (tyName t) = true) (hst : noStar x = true) (ha : PE X x (tE G X.w a)) : PE X (.Call (.Name nm p1) [x, .Name nt p2] [] pos) (tE G X.w (.isT [t] a)) := by
  obtain ⟨e, hg, hm, hd, hn⟩ := free_of A hx
  obtain ⟨e2, hg2, hm2, hd2, hn2⟩ := free_of A ht
  have st : noStars [x, .Name nt p2] = true := by
    have : noStars [x, .Name nt p2] = (noStar x && true) := by rfl
    rw [this, hst]; rfl
  obtain ⟨s1, s2⟩ := noStars_cons st
  have hty : PE X (.Name nt p2) (tC (V.ty (tyName t))) := pe_bltn hg2 hm2 (u := .type (tyName t)) (by rw [e2]; cases t <;> decide +kernel) rfl hn2 hd2
  refine (pe_callB call_isT hg hm (by rw [e]; decide +kernel) (pa_cons ha (pa_cons hty pa_nil rfl) (starEach_of hst _ _)) hn hd (starEach_of s1 _ _) (back_plain _ _ s2)).imp fun σ H Q q => ?_
  obtain ⟨c', τ, ρ, k', hs, hw, hq⟩ := q
  refine ⟨c', τ, ρ, _, hs, hw, fun d n ρ1 v H1 hk1 hs1 => ?_⟩
  obtain ⟨O, so, z⟩ := hs1.take1
  refine ⟨_, v, d, t, sub_hide, rfl, z, hq (.bool (isTy t d)) 0 ρ1 _ _ (by simpa using hk1) (so.push (Out.fz (d := .bool (isTy t d)) rfl sub_hide))⟩
end
end PL
end
section
set_option Elab.async false
set_option linter.all false
set_option maxRecDepth 100000
set_option maxHeartbeats 3200000
/-! PLS: len(set(texts)), any texts. -/
namespace PL
open L2 PyProof.Rows PySem.Spec PySem
theorem nub_snoc (l : List Str) (x : Str) : nubS (l ++ [x]) = if x ∈ nubS l then nubS l else nubS l ++ [x] := by
  unfold nubS
  rw [List.foldl_append]; rfl
theorem nub_mem (x : Str) : ∀ l : List Str, x ∈ nubS l ↔ x ∈ l := by
  intro l
  have gen : ∀ (l acc : List Str), x ∈ l.foldl (fun acc x => if x ∈ acc then acc else acc ++ [x]) acc ↔ x ∈ acc ∨ x ∈ l := by
    intro l
    induction l with
    | nil => intro acc; simp
    | cons y l ih =>
      intro acc
      rw [List.foldl_cons, ih]
      by_cases hy : y ∈ acc
      · rw [if_pos hy]
        constructor
        · rintro (h | h)
          · exact .inl h
          · exact .inr (List.mem_cons_of_mem _ h)
        · rintro (h | h)
          · exact .inl h
          · rcases List.mem_cons.mp h with rfl | h
            · exact .inl hy
            · exact .inr h
      · rw [if_neg hy, List.mem_append, List.mem_singleton, List.mem_cons, or_assoc]
  unfold nubS
  rw [gen]; simp
theorem nub_len : ∀ (l : List Str), (nubS l).length ≤ l.length := by
  intro l
  have gen : ∀ (l acc : List Str), (l.foldl (fun acc x => if x ∈ acc then acc else acc ++ [x]) acc).length ≤ acc.length + l.length := by
    intro l
    induction l with
    | nil => intro acc; simp
    | cons y l ih =>
      intro acc
      rw [List.foldl_cons]
      refine Nat.le_trans (ih _) ?_
      split
      · simp
      · simp; omega
  have h := gen l []
  rw [List.length_nil, Nat.zero_add] at h
  exact h
section
variable {prog : Program} {w : World} {A : Around} {R : Result → Shared → Prop} {it : Addr} {fp wr : List Addr} {G : Array GenState → Array GenState → Prop} {n : Nat} {P : Nat → Value → Prop} {St : Nat → Shared → Prop}
/-- the set at D has the first i of xs -/
abbrev Has (prog : Program) (w : World) (h : Heap) (D : Addr) (xs : List Str) (i : Nat) : Prop := h.SetOf (PySem.strKind prog w) D (fun z => (xs.take i).any (· == z)) (nubS (xs.take i)).length
theorem Has.next {h : Heap} {D : Addr} {xs : List Str} {i : Nat} {x : Str} (hx : xs[i]? = some x)
    (q : h.SetOf (PySem.strKind prog w) D (fun z => (xs.take i).any (· == z) || decide (z = x)) (if (xs.take i).any (· == x) then (nubS (xs.take i)).length else (nubS (xs.take i)).length + 1)) : Has prog w h D xs (i + 1) := by
  have e : xs.take (i + 1) = xs.take i ++ [x] := by rw [List.take_add_one, hx]; rfl
  refine SetOf_congr q (fun z => ?_) ?_
  · rw [e, List.any_append]
    congr 1
    by_cases h : z = x
    · subst h; simp
    · have : (x == z) = false := by simpa [beq_iff_eq] using fun h' : x = z => h h'.symm
      simp [this, h]
  · rw [e, nub_snoc]
    have m : ((xs.take i).any (· == x)) = decide (x ∈ nubS (xs.take i)) := by
      rw [Bool.eq_iff_iff]
      simp only [List.any_eq_true, beq_iff_eq, decide_eq_true_eq, nub_mem]
      exact ⟨fun ⟨y, hy, e⟩ => e ▸ hy, fun h => ⟨x, h, rfl⟩⟩
    rw [m]
    by_cases h : x ∈ nubS (xs.take i)
    · simp [h]
    · simp [h]
theorem fillS (W : WalksS prog w A.in1 it fp wr G n P St) (D : Addr) (free : D ∉ fp) (xs : List Str) (sz : xs.length = n) (low : n ≤ 4000) (val : ∀ i v, P i v → ∃ t, v = .str (xs.getD i Str.empty) t) :
    ∀ (k i : Nat) (s : Shared), n - i = k → i ≤ n → St i s → Has prog w s.heap D xs i → (∀ s', Moved (D :: wr) G s s' → Has prog w s'.heap D xs n → R (.ok (.ret .none)) s') → codeAny (model prog w) A (.builtin "set.update.loop" ⟨[.ref D, .ref it], []⟩) R s := by
  have notw : D ∉ wr := fun h => free (W.sub _ h)
  have up : ∀ b ∈ wr, b ∈ D :: wr := fun b hb => List.mem_cons_of_mem _ hb
  intro k
  induction k with
  | zero =>
    intro i s hk hi st has fin
    obtain rfl : i = n := by omega
    refine codeAny_builtin F.entry_set_update_loop ?_
    rw [Around.under_plainId F.plain_set_update_loop _]
    show wpAny _ A.in1 (pyNext (.ref it) >>= _) _ _ s
    refine wpAny_bind (W.done s _ _ st fun s' mv => wpAny_pure (fin s' (mv.mono up) ?_))
    obtain ⟨o, es, ep, t, ho, rest⟩ := has
    exact ⟨o, es, ep, t, mv.heap D _ notw ho, rest⟩
  | succ k ih =>
    intro i s hk hi st has fin
    have lt : i < n := by omega
    have hx : xs[i]? = some (xs.getD i Str.empty) := by
      have : i < xs.length := by omega
      rw [List.getD_eq_getElem?_getD, List.getElem?_eq_getElem this]; rfl
    refine codeAny_builtin F.entry_set_update_loop ?_
    rw [Around.under_plainId F.plain_set_update_loop _]
    show wpAny _ A.in1 (pyNext (.ref it) >>= _) _ _ s
    refine wpAny_bind (W.item i s _ _ lt st fun v s' pv st' mv => ?_)
    obtain ⟨t, rfl⟩ := val i v pv
    have has' : Has prog w s'.heap D xs i := by
      obtain ⟨o, es, ep, tb, ho, rest⟩ := has
      exact ⟨o, es, ep, tb, mv.heap D _ notw ho, rest⟩
    show wpAny _ A.in1 (holding [Value.str (xs.getD i Str.empty) t] (setAdd D (.str (xs.getD i Str.empty) t)) >>= _) _ _ s'
    refine wpAny_bind (wpAny_holding ?_)
    unfold setAdd
    refine wpAny_holding (wpAny_bind ((PySem.strKind prog w).pyHash (k := xs.getD i Str.empty) (strKind_is _ _ _ _) ?_))
    have few := nub_len (xs.take i)
    have tk : (xs.take i).length ≤ i := by rw [List.length_take]; omega
    refine wpAny_setAddHashed_of (knd := PySem.strKind prog w) (s := { s' with toks := s'.toks + 1 }) (strKind_is _ _ _ _) rfl has' (by unfold scanBound; omega) fun h' sb has2 => ?_
    refine wpAny_pure ⟨plainId_quiet F.plain_set_update_loop _, ih (i + 1) _ (by omega) lt (W.frame _ s' _ _ st' (Nat.le_succ _) fun b hb o e => ?_) (Has.next hx has2) fun s2 mv2 has3 => fin s2 (Moved.trans W.gtrans ((mv.mono up).then_heap (Nat.le_succ _) fun b o hb e => ?_) mv2) has3⟩
    · rw [sb.2 b (fun h : b = D => free (h ▸ hb))]; exact e
    · rw [sb.2 b (fun h : b = D => hb (h ▸ List.mem_cons_self))]; exact e
end
section
variable {prog : Program} {w : World} {A : Around} {E : Value → Shared → Prop} {s : Shared}
/-- set(a list of texts) -/
theorem set_of_texts {l : Addr} {items : Array Value} {xs : List Str} {Q : Value → Shared → Prop} (quiet : A.handled = none) (isl : s.heap.IsList l items) (txt : StrsAre items.toList xs) (few : xs.length ≤ 4000)
    (fin : ∀ (h' : Heap) (tk : Nat), Has prog w h' s.heap.objs.size xs xs.length → (∀ b o, b < s.heap.objs.size → s.heap.get? b = some o → h'.get? b = some o) → Q (.ref s.heap.objs.size) { s with heap := h', toks := tk }) :
    wpAny (model prog w) A (call (.type "set") [.ref l]) Q E s := by
  have fresh : Obj := { cls := .type "set", dict := none, data := .set #[] 0 (.fresh 0 0 false) }
  obtain ⟨c, tl, hmro⟩ := PySem.F.called_set.mro
  have q1 := PySem.F.called_set.made; have q2 := PySem.F.called_set.sub
  refine wpAny_call (codeAny_of_tree ?_)
  show wpAny _ _ (callAny (.type "set") _) _ _ _
  refine wpAny_pure ⟨Code.quiet_builtin _ (by decide +kernel), codeAny_builtin PySem.F.entry_type_call ?_⟩
  rw [Around.under_plain (weight_type_call_type "set" [.ref l] []) rfl]
  have q3 := PySem.F.called_set.notType; have q4 := PySem.F.called_set.canCreate; have q5 := PySem.F.typeCall_set_1 (.ref l)
  repeat (any_goals (first | assumption | wp_step))
  let nw : Bool → Obj := fun led => { cls := .type "set", dict := none, data := .set #[] 0 (.fresh 0 0 led) }
  refine codeAny_mono (code_set_new_1 (.ref l) (E := E) (Q₁ := fun ob t => ∃ led : Bool, ob = .ref s.heap.objs.size ∧ t = { s with heap := s.heap.push (nw led) }) fun led => ⟨led, rfl, rfl⟩) fun r t hr => ?_
  cases r with
  | error e => exact hr
  | ok fl =>
    cases fl with
    | next => exact hr.elim
    | brk => exact hr.elim
    | cont => exact hr.elim
    | ret ob =>
      obtain ⟨led, rfl, rfl⟩ := hr
      have at_ : (s.heap.push (nw led)).get? s.heap.objs.size = some (nw led) := Heap.get?_push_size _ rfl
      have ty : Shared.TypeIs { s with heap := s.heap.push (nw led) } (.ref s.heap.objs.size) "set" := ⟨_, at_, rfl⟩
      have q6 := PySem.F.called_set.init.lookup; have q7 := PySem.F.called_set.init.bind (.ref s.heap.objs.size)
      repeat (any_goals (first | assumption | wp_step))
      refine codeAny_mono (codeAny_call_builtin (R := wants (fun r t => r = .none ∧ ∃ h' tk, t = { s with heap := h', toks := tk } ∧ Has prog w h' s.heap.objs.size xs xs.length ∧ (∀ b o, b < s.heap.objs.size → s.heap.get? b = some o → h'.get? b = some o)) E)
        PySem.F.called_set.init.plain PySem.F.entry_set_init (check_set_init_1 ty ?_)) fun r2 t2 hr2 => ?_
      · obtain ⟨⟨oc, od, odt, osl⟩, hol, hcl, nl, hdl⟩ := isl
        obtain rfl : oc = .type "list" := hcl
        obtain rfl : odt = .seq items nl := hdl
        have hol2 : (s.heap.push (nw led)).get? l = some { cls := .type "list", dict := od, data := .seq items nl, slots := osl } := Heap.get?_push_of_some _ hol
        have q8 := PySem.F.sub_list_set; have q9 := PySem.F.sub_list_frozenset
        have q10 : (Value.type "list" == Value.type "dict") = false := by decide
        have isl2 : (s.heap.push (nw led)).IsList l items := ⟨_, hol2, rfl, nl, rfl⟩
        unfold Builtin.«set.__init__» noKeywords Builtin.Frozenset.updateFrom
        generalize hPI : pyIter = PI
        wp_walk
        subst hPI
        refine wpAny_pyIter_list isl2 (wpAny_bind (wpAny_runValue ?_))
        have below : l < s.heap.objs.size := Heap.lt_size hol
        have size1 : (s.heap.push (nw led)).objs.size = s.heap.objs.size + 1 := Heap.size_push ..
        have calm3 : A.in1.in1.in1.handled = none := by simp [quiet]
        have off : l ≠ (s.heap.push (nw led)).objs.size := by rw [size1]; exact Nat.ne_of_lt (Nat.lt_succ_of_lt below)
        have off2 : s.heap.objs.size ∉ [(s.heap.push (nw led)).objs.size, l] := by
          rw [size1]
          intro z
          rcases List.mem_cons.mp z with z | z
          · exact absurd z (Nat.ne_of_lt (Nat.lt_succ_self _))
          · exact absurd (List.mem_singleton.mp z) (Nat.ne_of_gt below)
        have sz : xs.length = items.size := by rw [← StrsAre.len_eq txt, Array.length_toList]
        refine fillS ((Walks.list calm3 _ l off items).toS) s.heap.objs.size off2 xs sz (by rw [← sz]; exact few) (fun i v hv => SS.strs_at txt i v (by rw [Array.getElem?_toList]; exact hv)) (items.size - 0) 0 _ (by omega) (Nat.zero_le _) ⟨⟨_, Heap.get?_push_size _ rfl, rfl, rfl⟩, (isl2.push _)⟩ ?_ ?_
        · have g2 : ((s.heap.push (nw led)).push { cls := .type "list_iterator", data := .fields #[.ref l, .int 0 0] }).get? s.heap.objs.size = some (nw led) := Heap.get?_push_of_some _ at_
          exact SetOf_congr ((setObjOf_fresh (knd := PySem.strKind prog w) led).setOf g2 (by unfold scanBound; omega)) (fun _ => rfl) rfl
        · intro t' mv hS
          obtain ⟨h', g', d', tk', os'⟩ := t'
          obtain rfl : g' = s.gens := mv.gens
          obtain rfl : d' = s.drawn := mv.drawn
          obtain rfl : os' = s.os := mv.os
          show wpAny _ _ _ _ _ _
          refine wpAny_pure ?_
          show wpAny _ _ (ret Value.none) _ _ _
          refine wpAny_pure ⟨rfl, h', tk', rfl, by rw [sz]; exact hS, fun b o hb e => ?_⟩
          refine mv.heap b o (fun z => ?_) (Heap.get?_push_of_some _ (Heap.get?_push_of_some _ e))
          rcases List.mem_cons.mp z with z | z
          · exact absurd z (Nat.ne_of_lt hb)
          · rw [List.mem_singleton.mp z, size1] at hb; omega
      · cases r2 with
        | error e => exact hr2
        | ok fl2 =>
          cases fl2 with
          | ret r =>
            obtain ⟨rfl, h', tk, rfl, hS, kept⟩ := hr2
            repeat (any_goals (first | assumption | wp_step))
            exact fin _ _ hS kept
          | _ => exact hr2.elim
end
theorem strsOf_map : ∀ {ds : List PyData} {ss : List Str}, strsOf ds = some ss → ds = ss.map .str
  | [], ss, h => by cases h; rfl
  | .str i :: r, ss, h => by
    unfold strsOf at h
    obtain ⟨m, h1, h2⟩ := Option.map_eq_some_iff.mp h
    subst h2
    rw [strsOf_map h1]; rfl
  | .none :: _, _, h => by cases h
  | .bool _ :: _, _, h => by cases h
  | .int _ :: _, _, h => by cases h
  | .list _ :: _, _, h => by cases h
  | .tuple _ :: _, _, h => by cases h
  | .dict _ :: _, _, h => by cases h
theorem FzAll.texts {w : World} {F : Hp} : ∀ {ss : List Str} {xs : List V}, FzAll w F xs (ss.map .str) → xs = ss.map V.str
  | [], [], _ => rfl
  | n :: ns, x :: xs, h => by rw [List.map_cons, FzAll.texts h.2, show x = V.str n from h.1]
  | [], _ :: _, h => h.elim
  | _ :: _, [], h => h.elim
section
variable {Y : Tx} {N : List Str} {c : Sc} {k : Nat} {X : Cx} {G : Ctx} {a : E} {x : Expr} {pos p1 p2 p3 : Pos} {nm ny : Str}
theorem e_lset (A : At Y N c k X) (hx : freeOk Y c nm "len" = true) (hy : freeOk Y c ny "set" = true) (ha : PE X x (tE G X.w a)) (hs : noStar x = true) : PE X (.Call (.Name nm p1) [.Call (.Name ny p2) [x] [] p3] [] pos) (tE G X.w (.lset a)) := by
  obtain ⟨rfl, hg, hm, _, _⟩ := free_of A hx
  obtain ⟨rfl, hg2, hm2, _, _⟩ := free_of A hy
  refine ⟨fun pins s σ H Q I q => ?_⟩
  obtain ⟨c', τ, ρ, k', hs1, hw, hq⟩ := q
  have na := starEach_of hs [] X.env
  refine Call_ (ld_blt I hg hm boot_len ?_)
  refine PyProof.Rows.callWith_builtin1 (PyProof.Rows.args_cons ?_ rfl) rfl rfl
  refine Call_ (ld_blt I hg2 hm2 boot_set ?_)
  refine PyProof.Rows.callWith_type1 (PyProof.Rows.args_cons (thn (ha.run pins s σ H (fun v H1 => ∃ l ss, v = .ref l ∧ SqL X.K H1 l (ss.map V.str) ∧ ss.length ≤ 4000 ∧ Q (.int (nubS ss).length) H1) I ⟨c', τ, ρ, _, hs1, hw, fun d n ρ1 v H1 hk hs2 => ?_⟩) fun v s1 ⟨x, H1, I1, r1, q1⟩ => PyProof.Rows.args_nil ?_) na) na rfl
  · obtain ⟨O, so, z⟩ := hs2.take1
    cases d <;> try exact hk.elim
    obtain ⟨ss, e, few, hk⟩ := hk
    obtain rfl := strsOf_map e
    obtain ⟨l, xs, rfl, hl, t⟩ := z
    obtain rfl := t.texts
    exact ⟨l, ss, rfl, SqL.of (hide_some.mp hl).2, few, hq _ _ _ _ _ hk (so.push (Out.fz (show Fz X.w _ (.int _) (.int _) from rfl) sub_hide))⟩
  · obtain ⟨l, ss, rfl, hl, few, q1⟩ := q1
    cases r1
    obtain ⟨its, r, pl, hz⟩ := I1.list hl
    refine set_of_texts (I1.ok.hd A.calm) pl.isList (xs := ss) (by simpa using Vals.strs r) few fun h' tk hS hk => ?_
    refine PyProof.Rows.args_nil ?_
    obtain ⟨o, es, ep, t, ho, hex, hd, _, _, _, hf, hn⟩ := hS
    have hn' : es.size = (nubS ss).length := by rw [hn, List.take_length]
    have I2 : L2.Inv X pins σ H1 { s1 with heap := h', toks := tk } := I1.kept fun b o e => hk b o (Heap.lt_size e) e
    have few2 := nub_len ss
    exact call_len_set ho hex hd hf (by rw [hn']; omega) ⟨.int (nubS ss).length, H1, I2.tok _, ⟨_, by rw [hn']⟩, q1⟩
end
end PL
end
section
set_option Elab.async false
set_option linter.all false
set_option maxRecDepth 100000
set_option maxHeartbeats 2000000
/-! PL16: what is walked, rule by rule; list comprehensions. -/
namespace PL
open L2 PyProof.Rows PySem.Spec PySem
def tI (w : World) (G : Ctx) (it : E) : TI := fun σ H R => ∃ (c : Fr) (τ : List Item) (ρ : Env) (k : List PyData → Env → Prop), Sta w c σ ρ τ H ∧ wpI G it ρ k ∧
  ∀ items ρ1 J H' τ' c' lk, k items ρ1 → LkR it lk c c' σ ρ1 → LkC lk c' (lkIn it ρ1) → Sta w c' σ (lkIn it ρ1) (τ ++ τ') H' → Wk w J items τ' lk → R J H'
section
variable {w : World} {K : Fg} {F H : Hp} {ad : Addr} {ds : List PyData}
theorem enum_len : ∀ {ds : List PyData} {j : Int}, (enumD j ds).length = ds.length
  | [], _ => rfl
  | d :: ds, j => by show (enumD (j + 1) ds).length + 1 = ds.length + 1; rw [enum_len]
theorem enum_get : ∀ {ds : List PyData} {j : Int} {i : Nat} {e : PyData}, (enumD j ds)[i]? = some e → ∃ d, ds[i]? = some d ∧ e = .tuple [.int (j + i), d]
  | d :: ds, j, 0, e, h => by
    have h : some (PyData.tuple [.int j, d]) = some e := h
    cases h
    exact ⟨d, rfl, by simp⟩
  | d :: ds, j, i + 1, e, h => by
    have h : (enumD (j + 1) ds)[i]? = some e := h
    obtain ⟨x, h1, h2⟩ := enum_get h
    refine ⟨x, h1, ?_⟩
    rw [h2]
    have : j + 1 + (i : Int) = j + ((i + 1 : Nat) : Int) := by omega
    rw [this]
theorem zip_len : ∀ {ds es : List PyData}, (zipD ds es).length = min ds.length es.length
  | [], _ => by simp [zipD]
  | _ :: _, [] => by simp [zipD]
  | d :: ds, e :: es => by
    show (zipD ds es).length + 1 = min (ds.length + 1) (es.length + 1)
    rw [zip_len]; omega
theorem zip_get : ∀ {ds es : List PyData} {i : Nat} {e : PyData}, (zipD ds es)[i]? = some e → ∃ a b, ds[i]? = some a ∧ es[i]? = some b ∧ e = .tuple [a, b]
  | [], _, i, e, h => by simp [zipD] at h
  | _ :: _, [], i, e, h => by simp [zipD] at h
  | d :: ds, e :: es, 0, z, h => by
    have h : some (PyData.tuple [d, e]) = some z := h
    cases h
    exact ⟨d, e, rfl, rfl, rfl⟩
  | d :: ds, e :: es, i + 1, z, h => zip_get (ds := ds) (es := es) h
theorem StaO.has {c : Fr} {σ : List (Option V)} {ρ : Env} {τ τ' : List Item} {H : Hp} {v : V} {d : PyData} (h : Sta w c σ ρ τ H) (k : ∀ t ∈ τ', t ∈ τ) (m : (some v, val d 0) ∈ τ') : ∃ O, StaO w c σ ρ τ H O ∧ Fz w (hide (c.B ++ O) H) v d := h.has (k _ m)
theorem wk_list (lk : Option (Nat × Slot × V)) : Wk w (Itl K ad) ds (t1 (.ref ad) (.list ds) 0) lk := fun c σ ρ τ H hs hm _ => by
  obtain ⟨O, so, a, xs, ea, q, t⟩ := hs.has (hm _ List.mem_cons_self)
  cases ea
  have W := walk_list (K := K) (a := ad) (xs := xs)
  have hq : SqL K H ad xs := SqL.of (hide_some.mp q).2
  refine ⟨fun i hi => W.goes i H (by rw [t.length]; exact hi) hq, by rw [← t.length]; exact W.stops H hq, fun i x H' d hy hd => ?_⟩
  obtain ⟨rfl, hx⟩ := W.yields i H x H' (by rw [t.length]; exact (List.getElem?_eq_some_iff.mp hd).1) hq hy
  obtain ⟨x', hx', hz⟩ := t.get hd
  rw [hx] at hx'; cases hx'
  exact so.push (Out.fz hz sub_hide)
theorem wk_tup (lk : Option (Nat × Slot × V)) : Wk w (Itt K ad) ds (t1 (.ref ad) (.tuple ds) 0) lk := fun c σ ρ τ H hs hm _ => by
  obtain ⟨O, so, a, xs, ea, q, t⟩ := hs.has (hm _ List.mem_cons_self)
  cases ea
  have W := walk_tup (K := K) (a := ad) (xs := xs)
  have hq : SqT K H ad xs := SqT.of (hide_some.mp q).2
  refine ⟨fun i hi => W.goes i H (by rw [t.length]; exact hi) hq, by rw [← t.length]; exact W.stops H hq, fun i x H' d hy hd => ?_⟩
  obtain ⟨rfl, hx⟩ := W.yields i H x H' (by rw [t.length]; exact (List.getElem?_eq_some_iff.mp hd).1) hq hy
  obtain ⟨x', hx', hz⟩ := t.get hd
  rw [hx] at hx'; cases hx'
  exact so.push (Out.fz hz sub_hide)
theorem wk_enum (lk : Option (Nat × Slot × V)) : Wk w (Ite K ad) (enumD 0 ds) (t1 (.ref ad) (.list ds) 0) lk := fun c σ ρ τ H hs hm _ => by
  obtain ⟨O, so, a, xs, ea, q, t⟩ := hs.has (hm _ List.mem_cons_self)
  cases ea
  have W := walk_enum (K := K) (a := ad) (xs := xs)
  have hq : SqL K H ad xs := SqL.of (hide_some.mp q).2
  refine ⟨fun i hi => W.goes i H (by rw [t.length, ← enum_len (j := 0)]; exact hi) hq, by rw [enum_len, ← t.length]; exact W.stops H hq, fun i x H' d hy hd => ?_⟩
  obtain ⟨d0, hd0, rfl⟩ := enum_get hd
  obtain ⟨T, y1, y2, rfl, hT, rfl, e1, e2⟩ := W.yields i H x H' (by rw [t.length]; exact (List.getElem?_eq_some_iff.mp hd0).1) hq hy
  obtain ⟨x', hx', hz⟩ := t.get hd0
  rw [show xs[i]? = some y2 from e2] at hx'; cases hx'
  cases e1
  exact so.push (Out.tup sub_hide hT ⟨by show _ = _; simp, hz, trivial⟩)
theorem wk_enumT (lk : Option (Nat × Slot × V)) : Wk w (ItET K ad) (enumD 0 ds) (t1 (.ref ad) (.tuple ds) 0) lk := fun c σ ρ τ H hs hm _ => by
  obtain ⟨O, so, a, xs, ea, q, t⟩ := hs.has (hm _ List.mem_cons_self)
  cases ea
  have hq : SqT K H ad xs := SqT.of (hide_some.mp q).2
  refine ⟨fun i hi => ⟨xs, xs[i]'(by rw [t.length, ← enum_len (j := 0)]; exact hi), hq, List.getElem?_eq_getElem _⟩, ⟨xs, hq, by rw [enum_len, t.length]; exact Nat.le_refl _⟩, fun i x H' d hy hd => ?_⟩
  obtain ⟨d0, hd0, rfl⟩ := enum_get hd
  obtain ⟨T, y2, rfl, hT, rfl, e2⟩ := hy
  obtain ⟨x', hx', hz⟩ := t.get hd0
  rw [e2 xs hq] at hx'; cases hx'
  exact so.push (Out.tup sub_hide hT ⟨by show _ = _; simp, hz, trivial⟩)
theorem wk_range {lo : Int} {n : Nat} (lk : Option (Nat × Slot × V)) : Wk w (Itr lo n) ((List.range n).map fun (i : Nat) => .int (lo + i)) [] lk := fun c σ ρ τ H hs hm _ => by
  refine ⟨fun i hi => (show i < n by simpa using hi), by show n ≤ _; simp, fun i x H' d hy hd => ?_⟩
  obtain ⟨rfl, rfl⟩ := hy
  have hi : i < n := by have := (List.getElem?_eq_some_iff.mp hd).1; simpa using this
  have : d = .int (lo + i) := by
    rw [List.getElem?_map, List.getElem?_range hi] at hd
    exact (Option.some.inj hd).symm
  subst this
  exact hs.atom fun _ => rfl
theorem Sta.hasAll {c : Fr} {σ : List (Option V)} {ρ : Env} {τ : List Item} {H : Hp} (h : Sta w c σ ρ τ H) : ∃ O, StaO w c σ ρ τ H O ∧ ∀ v d, (some v, val d 0) ∈ τ → Fz w (hide (c.B ++ O) H) v d := by
  obtain ⟨⟨O, q⟩, h2, h3⟩ := h
  obtain ⟨f, g, i1, i2, e⟩ := q.its.unappend
  refine ⟨O, ⟨q, h2, h3⟩, fun v d m => ?_⟩
  obtain ⟨i, hi⟩ := List.mem_iff_getElem?.mp m
  obtain ⟨fj, r, _⟩ := i2.get hi
  exact r.1
theorem wk_zip {bd : Addr} {es : List PyData} (lk : Option (Nat × Slot × V)) : Wk w (Itz K ad bd) (zipD ds es) (t1 (.ref ad) (.list ds) 0 ++ t1 (.ref bd) (.list es) 0) lk := fun c σ ρ τ H hs hm _ => by
  obtain ⟨O, so, all⟩ := hs.hasAll
  obtain ⟨a, xs, ea, q, t⟩ := all (.ref ad) (.list ds) (hm _ (by simp))
  obtain ⟨b, ys, eb, q2, t2⟩ := all (.ref bd) (.list es) (hm _ (by simp))
  cases ea; cases eb
  have h1 : SqL K H ad xs := SqL.of (hide_some.mp q).2
  have h2 : SqL K H bd ys := SqL.of (hide_some.mp q2).2
  refine ⟨fun i hi => ?_, ⟨xs, ys, h1, h2, by rw [zip_len, t.length, t2.length]; omega⟩, fun i x H' d hy hd => ?_⟩
  · rw [zip_len] at hi
    exact ⟨xs, ys, xs[i]'(by rw [t.length]; omega), ys[i]'(by rw [t2.length]; omega), h1, h2, List.getElem?_eq_getElem _, List.getElem?_eq_getElem _⟩
  · obtain ⟨d1, d2, e1, e2, rfl⟩ := zip_get hd
    obtain ⟨T, x1, x2, rfl, hT, rfl, k1, k2⟩ := hy
    obtain ⟨z1, hz1, f1⟩ := t.get e1
    obtain ⟨z2, hz2, f2⟩ := t2.get e2
    rw [k1 xs h1] at hz1; cases hz1
    rw [k2 ys h2] at hz2; cases hz2
    exact so.push (Out.tup sub_hide hT ⟨f1, f2, trivial⟩)
theorem wk_zipT {bd : Addr} {es : List PyData} (lk : Option (Nat × Slot × V)) : Wk w (RZ.ItzT K ad bd) (zipD ds es) (t1 (.ref ad) (.tuple ds) 0 ++ t1 (.ref bd) (.tuple es) 0) lk := fun c σ ρ τ H hs hm _ => by
  obtain ⟨O, so, all⟩ := hs.hasAll
  obtain ⟨a, xs, ea, q, t⟩ := all (.ref ad) (.tuple ds) (hm _ (by simp))
  obtain ⟨b, ys, eb, q2, t2⟩ := all (.ref bd) (.tuple es) (hm _ (by simp))
  cases ea; cases eb
  have h1 : SqT K H ad xs := SqT.of (hide_some.mp q).2
  have h2 : SqT K H bd ys := SqT.of (hide_some.mp q2).2
  refine ⟨fun i hi => ?_, ⟨xs, ys, h1, h2, by rw [zip_len, t.length, t2.length]; omega⟩, fun i x H' d hy hd => ?_⟩
  · rw [zip_len] at hi
    exact ⟨xs, ys, xs[i]'(by rw [t.length]; omega), ys[i]'(by rw [t2.length]; omega), h1, h2, List.getElem?_eq_getElem _, List.getElem?_eq_getElem _⟩
  · obtain ⟨d1, d2, e1, e2, rfl⟩ := zip_get hd
    obtain ⟨T, x1, x2, rfl, hT, rfl, k1, k2⟩ := hy
    obtain ⟨z1, hz1, f1⟩ := t.get e1
    obtain ⟨z2, hz2, f2⟩ := t2.get e2
    rw [k1 xs h1] at hz1; cases hz1
    rw [k2 ys h2] at hz2; cases hz2
    exact so.push (Out.tup sub_hide hT ⟨f1, f2, trivial⟩)
/-- a locked slot within the loop -/
theorem Sta.locked {c : Fr} {σ : List (Option V)} {ρ : Env} {τ : List Item} {H : Hp} {i : Nat} {s : Slot} {v : V} (h : Sta w c σ ρ τ H) (k : LkC (some (i, s, v)) c ρ) : ∃ O f, StaO w c σ ρ τ H O ∧ Ow w (hide (c.B ++ O) H) H s.n v s.d f := by
  obtain ⟨k1, k2⟩ := k
  obtain ⟨u, eu, O, f, so, ow, _⟩ := h.slot k1
  have := (h.pins _ k2).1
  rw [eu] at this; cases this
  exact ⟨O, f, so, ow⟩
theorem wk_its {i : Nat} {s : Slot} (e : s.d = .list ds) (hn : s.n = 1 ∨ (0 < s.n ∧ ds.all (fun d => !isCont d) = true)) : Wk w (Itl K ad) ds [] (some (i, s, .ref ad)) := fun c σ ρ τ H hs hm hk => by
  obtain ⟨O, f, so, ow⟩ := hs.locked hk
  rw [e] at ow
  obtain ⟨a, xs, ea, q, hl, it⟩ := ow_items ow sub_hide
  cases ea
  have W := walk_list (K := K) (a := ad) (xs := xs)
  have hq : SqL K H ad xs := SqL.of q
  refine ⟨fun i hi => W.goes i H (by rw [hl]; exact hi) hq, by rw [← hl]; exact W.stops H hq, fun i x H' d hy hd => ?_⟩
  obtain ⟨rfl, hx⟩ := W.yields i H x H' (by rw [hl]; exact (List.getElem?_eq_some_iff.mp hd).1) hq hy
  obtain ⟨x', hx', hz⟩ := it i d hd (hn.imp (fun h => by omega) fun h => by have := List.all_eq_true.mp h.2 d (List.mem_of_getElem? hd); simpa using this)
  rw [hx] at hx'; cases hx'
  exact so.push (Out.fz hz sub_hide)
theorem wk_enmS {i : Nat} {s : Slot} (e : s.d = .list ds) (hn : s.n = 1) : Wk w (Ite K ad) (enumD 0 ds) [] (some (i, s, .ref ad)) := fun c σ ρ τ H hs hm hk => by
  obtain ⟨O, f, so, ow⟩ := hs.locked hk
  rw [e] at ow
  obtain ⟨a, xs, ea, q, hl, it⟩ := ow_items ow sub_hide
  cases ea
  have W := walk_enum (K := K) (a := ad) (xs := xs)
  have hq : SqL K H ad xs := SqL.of q
  refine ⟨fun i hi => W.goes i H (by rw [hl, ← enum_len (j := 0)]; exact hi) hq, by rw [enum_len, ← hl]; exact W.stops H hq, fun i x H' d hy hd => ?_⟩
  obtain ⟨d0, hd0, rfl⟩ := enum_get hd
  obtain ⟨T, y1, y2, rfl, hT, rfl, e1, e2⟩ := W.yields i H x H' (by rw [hl]; exact (List.getElem?_eq_some_iff.mp hd0).1) hq hy
  obtain ⟨x', hx', hz⟩ := it i d0 hd0 (.inl (by omega))
  rw [show xs[i]? = some y2 from e2] at hx'; cases hx'
  cases e1
  exact so.push (Out.tup sub_hide hT ⟨by show _ = _; simp, hz, trivial⟩)
end
section
variable {Y : Tx} {N : List Str} {c : Sc} {k : Nat} {X : Cx} {G : Ctx} {a b e0 : E} {x y z tg : Expr} {pos p1 p2 : Pos} {i : Nat} {nm ny : Str}
theorem i_itv (ha : PE X x (tE G X.w a)) : PI X tg x (tI X.w G (.itv a)) := ⟨fun pins s σ H R I q => by
  obtain ⟨c', τ, ρ, k', hs, hw, hq⟩ := q
  refine thn (ha.run pins s σ H (fun v H1 => ∃ a xs, v = .ref a ∧ ((SqL X.K H1 a xs ∧ R (Itl X.K a) H1) ∨ (SqT X.K H1 a xs ∧ R (Itt X.K a) H1))) I ⟨c', τ, ρ, _, hs, hw, fun d n ρ1 v H1 hk hs1 => ?_⟩) fun u s1 ⟨v, H1, I1, ru, ad, xs, ev, q1⟩ => ?_
  · have hs2 := hs1.frzT
    cases d <;> try exact hk.elim
    · obtain ⟨O, so, ad, xs, rfl, ha, t⟩ := hs2.peek
      exact ⟨ad, xs, rfl, .inl ⟨SqL.of (hide_some.mp ha).2, hq _ ρ1 _ _ _ c' none hk ⟨rfl, rfl⟩ trivial hs2 (wk_list none)⟩⟩
    · obtain ⟨O, so, ad, xs, rfl, ha, t⟩ := hs2.peek
      exact ⟨ad, xs, rfl, .inr ⟨SqT.of (hide_some.mp ha).2, hq _ ρ1 _ _ _ c' none hk ⟨rfl, rfl⟩ trivial hs2 (wk_tup none)⟩⟩
  · subst ev
    cases ru
    rcases q1 with ⟨h1, h2⟩ | ⟨h1, h2⟩
    · exact it_list I1 h1 h2
    · exact it_tuple I1 h1 h2⟩
theorem i_its (A : At Y N c k X) (hn : nmOk N c i nm = true) : PI X tg (.Name nm p1) (tI X.w G (.its i)) := ⟨fun pins s σ H R I q => by
  obtain ⟨c', τ, ρ, k', hs, ⟨sl, es, hk⟩, hq⟩ := q
  obtain ⟨v, ev, O, f, so, ow, _⟩ := hs.slot es
  obtain ⟨d0, nl, t0, l0⟩ := sl
  cases d0 <;> try exact hk.elim
  rename_i ds
  obtain ⟨hn1, hk⟩ := (show _ ∧ _ from hk)
  obtain ⟨ad, xs, rfl, ha, hl, it⟩ := ow_items ow sub_hide
  obtain ⟨c1, lk, r1, r2, hs1⟩ := hs.lock (it := .its i) fun j e => by cases e; exact ⟨_, es⟩
  have elk : lk = some (i, ⟨.list ds, nl, t0, l0⟩, .ref ad) := by
    obtain ⟨s', v', e1, e2, e3, _⟩ := (show ∃ s v, lk = some (i, s, v) ∧ ρ[i]? = some (some s) ∧ σ[i]? = some (some v) ∧ _ from r1)
    rw [es] at e2; cases e2
    rw [ev] at e3; cases e3
    exact e1
  subst elk
  refine thn ((pe_slot A hn p1).run pins s σ H (fun v H1 => v = .ref ad ∧ H1 = H) I ⟨_, ev, rfl, rfl⟩) fun u s1 ⟨v, H1, I1, ru, e1, e2⟩ => ?_
  subst e1; subst e2
  cases ru
  exact it_list I1 (SqL.of ha) (hq _ ρ _ _ [] c1 _ hk r1 r2 (by rw [List.append_nil]; exact hs1) (wk_its rfl hn1))⟩
theorem i_rng (A : At Y N c k X) (hx : freeOk Y c nm "range" = true) (ha : PE X x (tE G X.w a)) (hs : noStar x = true) : PI X tg (.Call (.Name nm p1) [x] [] pos) (tI X.w G (.rng a)) := by
  obtain ⟨e, hg, hm, hd, hn⟩ := free_of A hx
  subst e
  refine (pi_range1 hg hm (l_cons ha l_nil hs) (starEach_of hs _ _)).imp fun σ H R q => ?_
  obtain ⟨c', τ, ρ, k', hs, hw, hq⟩ := q
  refine ⟨c', τ, ρ, _, hs, (show wpL G (.cons a .nil) ρ (fun ps ρ1 => match ps with | [(.int j, _)] => (-(2 ^ 62) ≤ j ∧ j < 2 ^ 62) ∧ k' (rangeD 0 j) ρ1 | _ => False) from ?_), fun ps ρ1 vs H1 hk hl hs1 => ?_⟩
  · have gen : ∀ (a : E) (ρ : Env) (K K' : KE), K = K' → wpE G a ρ K → wpE G a ρ K' := fun a ρ K K' e h => e ▸ h
    refine gen a ρ _ _ ?_ hw
    funext d n ρ1
    cases d <;> rfl
  · match ps, hk with
    | [(.int j, n)], ⟨⟨j1, j2⟩, hk⟩ =>
      obtain ⟨O, so, fz⟩ := hs1.take hl
      obtain ⟨v, rfl, hv⟩ := fz1 (ds := []) fz
      refine ⟨j, by rw [show v = .int j from hv], j1, j2, ?_⟩
      refine hq _ ρ1 _ _ [] c' none hk ⟨rfl, rfl⟩ trivial (by rw [List.append_nil]; exact so.sta) ?_
      have e : (j - 0).toNat = j.toNat := by rw [Int.sub_zero]
      unfold rangeD
      rw [e]
      exact wk_range none
theorem i_rng2 (A : At Y N c k X) (hx : freeOk Y c nm "range" = true) (ha : PE X x (tE G X.w a)) (hb : PE X y (tE G X.w b)) (hs : noStar x = true) (hs2 : noStar y = true) : PI X tg (.Call (.Name nm p1) [x, y] [] pos) (tI X.w G (.rng2 a b)) := by
  obtain ⟨e, hg, hm, hd, hn⟩ := free_of A hx
  subst e
  refine (pi_range2 hg hm (l_cons ha (l_cons hb l_nil hs2) hs) (by rw [starEach_of hs, starEach_of hs2]; rfl) (by rw [starEach_of hs2]; rfl)).imp fun σ H R q => ?_
  obtain ⟨c', τ, ρ, k', hs, hw, hq⟩ := q
  refine ⟨c', τ, ρ, _, hs, (show wpL G (.cons a (.cons b .nil)) ρ (fun ps ρ1 => match ps with | [(.int i, _), (.int j, _)] => (-(2 ^ 62) ≤ i ∧ i < 2 ^ 62 ∧ -(2 ^ 62) ≤ j ∧ j < 2 ^ 62) ∧ k' (rangeD i j) ρ1 | _ => False) from ?_), fun ps ρ1 vs H1 hk hl hs1 => ?_⟩
  · have gen : ∀ (a : E) (ρ : Env) (K K' : KE), K = K' → wpE G a ρ K → wpE G a ρ K' := fun a ρ K K' e h => e ▸ h
    refine gen a ρ _ _ ?_ hw
    funext d n ρ1
    refine congrArg (wpE G b ρ1) ?_
    funext d2 n2 ρ2
    cases d <;> cases d2 <;> rfl
  · match ps, hk with
    | [(.int i, n), (.int j, m)], ⟨hij, hk⟩ =>
      obtain ⟨O, so, fz⟩ := hs1.take hl
      obtain ⟨v, u, rfl, hv, hu⟩ := fz2 fz
      refine ⟨i, j, by rw [show v = .int i from hv, show u = .int j from hu], hij, ?_⟩
      exact hq _ ρ1 _ _ [] c' none hk ⟨rfl, rfl⟩ trivial (by rw [List.append_nil]; exact so.sta) (wk_range none)
theorem i_enm {elts : List Expr} {kk : Nat} {tpos : Pos} (A : At Y N c k X) (hx : freeOk Y c nm "enumerate" = true) (ha : PE X x (tE G X.w a)) (hs : noStar x = true) : PI X (.Tuple elts kk tpos) (.Call (.Name nm p1) [x] [] pos) (tI X.w G (.enm a)) := by
  obtain ⟨e, hg, hm, hd, hn⟩ := free_of A hx
  subst e
  refine (pi_enumA hg hm (pa_cons ha pa_nil (starEach_of hs _ _)) hs).imp fun σ H R q => ?_
  obtain ⟨c', τ, ρ, k', hs, hw, hq⟩ := q
  refine ⟨c', τ, ρ, _, hs, hw, fun d n ρ1 v H1 hk hs1 => ?_⟩
  have hs2 := hs1.frzT
  cases d <;> try exact hk.elim
  · obtain ⟨O, so, ad, xs, rfl, ha, t⟩ := hs2.peek
    exact ⟨ad, xs, rfl, .inl ⟨SqL.of (hide_some.mp ha).2, hq _ ρ1 _ _ _ c' none hk ⟨rfl, rfl⟩ trivial hs2 (wk_enum none)⟩⟩
  · obtain ⟨O, so, ad, xs, rfl, ha, t⟩ := hs2.peek
    exact ⟨ad, xs, rfl, .inr ⟨SqT.of (hide_some.mp ha).2, hq _ ρ1 _ _ _ c' none hk ⟨rfl, rfl⟩ trivial hs2 (wk_enumT none)⟩⟩
theorem i_enmS {elts : List Expr} {kk : Nat} {tpos : Pos} (A : At Y N c k X) (hx : freeOk Y c nm "enumerate" = true) (hn : nmOk N c i ny = true) : PI X (.Tuple elts kk tpos) (.Call (.Name nm p1) [.Name ny p2] [] pos) (tI X.w G (.enmS i)) := by
  obtain ⟨e, hg, hm, hd, hn'⟩ := free_of A hx
  subst e
  refine (pi_enumA hg hm (pa_cons (pe_slot A hn p2) pa_nil rfl) rfl).imp fun σ H R q => ?_
  obtain ⟨c', τ, ρ, k', hs, ⟨sl, es, hk⟩, hq⟩ := q
  obtain ⟨v, ev, O, f, so, ow, _⟩ := hs.slot es
  obtain ⟨d0, nl, t0, l0⟩ := sl
  cases d0 <;> try exact hk.elim
  rename_i ds
  obtain ⟨hn1, hk⟩ := (show _ ∧ _ from hk)
  obtain ⟨ad, xs, rfl, ha, hl, it⟩ := ow_items ow sub_hide
  obtain ⟨c1, lk, r1, r2, hs1⟩ := hs.lock (it := .enmS i) fun j e => by cases e; exact ⟨_, es⟩
  have elk : lk = some (i, ⟨.list ds, nl, t0, l0⟩, .ref ad) := by
    obtain ⟨s', v', e1, e2, e3, _⟩ := (show ∃ s v, lk = some (i, s, v) ∧ ρ[i]? = some (some s) ∧ σ[i]? = some (some v) ∧ _ from r1)
    rw [es] at e2; cases e2
    rw [ev] at e3; cases e3
    exact e1
  subst elk
  exact ⟨_, ev, ad, xs, rfl, .inl ⟨SqL.of ha, hq _ ρ _ _ [] c1 _ hk r1 r2 (by rw [List.append_nil]; exact hs1) (wk_enmS rfl hn1)⟩⟩
theorem i_zp {elts : List Expr} {kk : Nat} {tpos : Pos} (A : At Y N c k X) (hx : freeOk Y c nm "zip" = true) (ha : PE X x (tE G X.w a)) (hb : PE X y (tE G X.w b)) (hs : noStar x = true) (hs2 : noStar y = true) : PI X (.Tuple elts kk tpos) (.Call (.Name nm p1) [x, y] [] pos) (tI X.w G (.zp a b)) := by
  obtain ⟨e, hg, hm, hd, hn⟩ := free_of A hx
  subst e
  refine (RZ.pi_zipA hg hm (pa_cons ha (pa_cons hb pa_nil (starEach_of hs2 _ _)) (starEach_of hs _ _)) (starEach_of hs _ _) (back_plain _ _ (by show (noStar y && true) = true; rw [hs2]; rfl))).imp fun σ H R q => ?_
  obtain ⟨c', τ, ρ, k', hs, hw, hq⟩ := q
  refine ⟨c', τ, ρ, _, hs, hw, fun d n ρ1 v H1 hk hs1 => ⟨c', _, ρ1, _, hs1.frzT, hk, fun d2 n2 ρ2 v2 H2 hk2 hs2 => ?_⟩⟩
  have hs3 := hs2.frzT
  obtain ⟨O, so, all⟩ := hs3.hasAll
  have hs4 : Sta X.w c' σ ρ2 (τ ++ (t1 v d 0 ++ t1 v2 d2 0)) H2 := by rw [← List.append_assoc]; exact hs3
  cases d <;> cases d2 <;> try exact hk2.elim
  · rename_i ds es
    obtain ⟨a1, xs, rfl, h1, t1⟩ := all v (.list ds) (by simp)
    obtain ⟨a2, ys, rfl, h2, t2⟩ := all v2 (.list es) (by simp)
    exact ⟨a1, a2, xs, ys, rfl, .inl ⟨SqL.of (hide_some.mp h1).2, SqL.of (hide_some.mp h2).2, hq _ ρ2 _ _ _ c' none hk2 ⟨rfl, rfl⟩ trivial hs4 (wk_zip none)⟩⟩
  · rename_i ds es
    obtain ⟨a1, xs, rfl, h1, t1⟩ := all v (.tuple ds) (by simp)
    obtain ⟨a2, ys, rfl, h2, t2⟩ := all v2 (.tuple es) (by simp)
    exact ⟨a1, a2, xs, ys, rfl, .inr ⟨SqT.of (hide_some.mp h1).2, SqT.of (hide_some.mp h2).2, hq _ ρ2 _ _ _ c' none hk2 ⟨rfl, rfl⟩ trivial hs4 (wk_zipT none)⟩⟩
end
end PL
end
section
set_option Elab.async false
set_option linter.all false
set_option maxRecDepth 100000
set_option maxHeartbeats 2000000
/-! PL17: list comprehensions. -/
namespace PL
open L2 PyProof.Rows PySem.Spec PySem
section
variable {Y : Tx} {N : List Str} {c : Sc} {k : Nat} {X : Cx} {G : Ctx}
theorem At.blk (A : At Y N c k X) (s : Shared) (H : Hp) (scope : Scope) (C : Addr) (cl : List (Str × Addr)) (fp : List Addr) : At Y N (c.blk scope) k (X.blk s H scope (compEnvC scope cl C X.env) fp) where
  names := A.names
  nd := A.nd
  scope := by
    show relS scope X.env.scope = relS scope c.sc
    rw [A.scope]
  fn := rfl
  calm := A.calm
  room := A.room
  gd := A.gd
  xe := rfl
  cons := A.cons
  free := A.free
  fns := A.fns
theorem LkR.lkc {it : E} {lk : Option (Nat × Slot × V)} {c c' : Fr} {σ : List (Option V)} {ρ1 ρ2 : Env} (r : LkR it lk c c' σ ρ1) (h : lkIs it ρ1 ρ2) : LkC lk c' ρ2 := by
  unfold LkR at r
  unfold lkIs at h
  cases e : lockOf it with
  | none => rw [e] at r; obtain ⟨rfl, _⟩ := r; trivial
  | some i =>
    rw [e] at r h
    obtain ⟨s, v, rfl, es, ev, rfl, hp⟩ := r
    obtain ⟨s', es', e2⟩ := h
    rw [es] at es'; cases es'
    exact ⟨e2, List.mem_cons_self⟩
theorem lkOut_is {it : E} {ρ0 ρ2 : Env} {k : Env → Prop} (h : lkOut it ρ0 ρ2 k) : lkIs it ρ0 ρ2 := by
  unfold lkOut at h
  unfold lkIs
  cases e : lockOf it with
  | none => trivial
  | some i => rw [e] at h; obtain ⟨s, a, b, _⟩ := h; exact ⟨s, a, b⟩
def tF (G : Ctx) (w : World) (e : E) : TT := fun σ H Q => ∃ (c : Fr) (τ : List Item) (ρ : Env) (k : Bool → Env → Prop), Sta w c σ ρ τ H ∧ wpC G e ρ k ∧ ∀ b ρ' H', k b ρ' → Sta w c σ ρ' τ H' → Q b H'
theorem f_nil : PTs X [] (tF G X.w .nil) := ⟨fun pins s σ H Q I q => pts_nil.run pins s σ H Q I (by
  obtain ⟨c', τ, ρ, k', hs, hk, hq⟩ := q
  exact hq _ _ _ hk hs)⟩
theorem f_one {a : E} {x : Expr} (h : PT X x (tT G X.w a)) : PTs X [x] (tF G X.w (.cons a .nil)) := ⟨fun pins s σ H Q I q => (pts_one h).run pins s σ H Q I (by
  obtain ⟨c', τ, ρ, k', hs, hk, hq⟩ := q
  exact ⟨c', τ, ρ, k', hs, hk, hq⟩)⟩
theorem wipe_eq {σ σ2 : List (Option V)} {vs tv : List Nat} (hl : σ2.length = (wipe σ vs).length) (ho : ∀ i, i ∉ tv → σ2[i]? = (wipe σ vs)[i]?) (sub : ∀ i ∈ tv, i ∈ vs) : wipe σ2 vs = wipe σ vs := by
  have wn : ∀ (vs : List Nat) (σ : List (Option V)) (i : Nat), i ∈ vs → i < σ.length → (wipe σ vs)[i]? = some none := by
    intro vs
    induction vs with
    | nil => intro σ i h; cases h
    | cons v vs ih =>
      intro σ i h hi
      unfold wipe
      by_cases e : i = v
      · subst e
        rw [List.getElem?_set_self (by rw [wipe_length]; exact hi)]
      · rw [List.getElem?_set_ne (Ne.symm e)]
        exact ih σ i ((List.mem_cons.mp h).resolve_left e) hi
  apply List.ext_getElem?
  intro i
  rw [wipe_length] at hl
  by_cases hi : i < σ.length
  · by_cases hv : i ∈ vs
    · rw [wn vs σ2 i hv (by rw [hl]; exact hi), wn vs σ i hv hi]
    · rw [wipe_keep hv]
      exact ho i fun z => hv (sub i z)
  · rw [List.getElem?_eq_none (by rw [wipe_length, hl]; omega), List.getElem?_eq_none (by rw [wipe_length]; omega)]
theorem q_lc {w : World} {m : Nat} {elt it ifs : E} {tg : Tg} {vs : List Nat} {σ : List (Option V)} {H : Hp} {Q : VK} (htg : (tgVars tg).all (fun v => decide (v ∈ vs)) = true) (q : tE G w (.lc m elt tg it ifs vs) σ H Q) :
    tLc (tI w G it) (tG w tg) (tF G w ifs) (tE G w elt) vs σ H Q := by
  obtain ⟨c0, τ, ρ, k', hs, hw, hq⟩ := q
  refine ⟨c0, τ, ρ, _, hs, hw, fun items ρ1 J H1 τ' c1 lk hk r1 r2 hs1 W D hD => ?_⟩
  obtain ⟨okf, fold⟩ := hk
  generalize hstep : (fun (x : PyData) (acc : List PyData) (ρ2 : Env) (k2 : List PyData → Env → Prop) => lkIs it ρ1 ρ2 ∧ bindT tg x ρ2 fun ρ3 => wpC G ifs ρ3 fun b ρ4 => if b = true
        then wpE G elt ρ4 fun d n ρ5 => (okOwn m n d ∧ acc.length < sizeLine ∧ okForget vs ρ5) ∧ k2 (acc ++ [d]) (forgetS vs ρ5)
        else okForget vs ρ4 ∧ k2 acc (forgetS vs ρ4)) = step at fold
  let P : Nat → Hp → Prop := fun i H => ∃ acc ρ0, Sta w c1 (wipe σ vs) (forgetS vs ρ0) ((τ ++ τ') ++ t1 (.ref D) (.list acc) (m + 1)) H ∧ lcFold step (items.drop i) acc (forgetS vs ρ0) fun acc ρ6 => lkOut it ρ1 ρ6 fun ρ7 => k' (.list acc) (m + 1) ρ7
  have p0 : P 0 (upd H1 D (.lst [])) := ⟨[], lkIn it ρ1, by
    have h0 := (hs1.forget okf).wiped
    have h1 : Sta w c1 (wipe σ vs) (forgetS vs (lkIn it ρ1)) ((τ ++ τ') ++ tm [] []) H1 := by
      show Sta _ _ _ _ ((τ ++ τ') ++ []) _
      rw [List.append_nil]; exact h0
    exact h1.newList (vs := []) (ps := []) (m := m) rfl (fun q hq => by cases hq) hD, by rw [List.drop_zero]; exact fold⟩
  refine ⟨fun i n H => n = items.length - i ∧ i ≤ items.length ∧ P i H, ⟨items.length, by simp, Nat.zero_le _, p0⟩, ?_⟩
  rintro i n H2 ⟨rfl, hi2, acc, ρ0, hs2, fo⟩
  have hmem : ∀ t ∈ τ', t ∈ (τ ++ τ') ++ t1 (.ref D) (.list acc) (m + 1) := fun t ht => by simp [ht]
  by_cases hlt : i < items.length
  · rw [List.drop_eq_getElem_cons hlt] at fo
    have fo : step items[i] acc (forgetS vs ρ0) fun acc' ρ' => lcFold step (items.drop (i + 1)) acc' ρ' fun acc ρ6 => lkOut it ρ1 ρ6 fun ρ7 => k' (.list acc) (m + 1) ρ7 := fo
    rw [← hstep] at fo
    obtain ⟨li, fo⟩ := fo
    rw [hstep] at fo
    obtain ⟨w1, _, w3⟩ := W c1 (wipe σ vs) (forgetS vs ρ0) _ H2 hs2 hmem (r1.lkc li)
    refine .inr ⟨w1 i hlt, P (i + 1), fun H' p => ⟨items.length - (i + 1), by omega, rfl, hlt, p⟩, fun x H' hy => ?_⟩
    have hs3 := w3 i x H' _ hy (List.getElem?_eq_getElem hlt)
    refine ⟨c1, _, _, _, 0, _, hs3, fo, fun ρ3 σ2 hk3 hl ho hs4 => ?_⟩
    have ew := wipe_eq hl ho fun j hj => by have := List.all_eq_true.mp htg j hj; simpa using this
    refine ⟨ew, c1, _, ρ3, _, hs4, hk3, fun b ρ4 H4 hk4 hs5 => ?_⟩
    cases b with
    | true =>
      refine ⟨c1, _, ρ4, _, hs5, hk4, fun d nn ρ5 y H5 hk5 hs6 => ?_⟩
      obtain ⟨⟨o1, o2, o3⟩, hk5⟩ := hk5
      obtain ⟨accV, a1, a2, a3⟩ := hs6.snoc
      refine ⟨accV, a1, by rw [a2]; exact o2, acc ++ [d], ρ5, ?_, hk5⟩
      rw [← ew]
      exact ((a3 o1).forget o3).wiped
    | false =>
      obtain ⟨o3, hk4⟩ := hk4
      refine ⟨acc, ρ4, ?_, hk4⟩
      rw [← ew]
      exact (hs5.forget o3).wiped
  · have e : i = items.length := by omega
    subst e
    rw [List.drop_length] at fo
    have fo : lkOut it ρ1 (forgetS vs ρ0) fun ρ7 => k' (.list acc) (m + 1) ρ7 := fo
    obtain ⟨_, w2, _⟩ := W c1 (wipe σ vs) (forgetS vs ρ0) _ H2 hs2 hmem (r1.lkc (lkOut_is fo))
    refine .inl ⟨w2, ?_⟩
    obtain ⟨ρ', hk', hs7⟩ := (hs2.unwiped).unlock r1 fo
    exact hq _ _ _ _ _ hk' hs7.mid
theorem e_lc (A : At Y N c k X) {m : Nat} {elt it ifs : E} {tg : Tg} {vs : List Nat} {scope : Scope} {xe xt xi : Expr} {xfs : List Expr} {pos : Pos} (hb : blkOk N c scope vs = true) (htg : (tgVars tg).all (fun v => decide (v ∈ vs)) = true)
    (hi : PI X xt xi (tI X.w G it)) (hg : trG N (c.blk scope) tg xt = true)
    (ht : ∀ (s : Shared) (H : Hp) (C : Addr) (cl : List (Str × Addr)) (fp : List Addr), PTs (X.blk s H scope (compEnvC scope cl C X.env) fp) xfs (tF G X.w ifs))
    (he : ∀ (s : Shared) (H : Hp) (C : Addr) (cl : List (Str × Addr)) (fp : List Addr), PE (X.blk s H scope (compEnvC scope cl C X.env) fp) xe (tE G X.w elt))
    (hs : ∀ x, foldedSetIterable xi X.env x = pure x) : PE X (.ListComp xe [⟨xt, xi, xfs, 0⟩] scope pos) (tE G X.w (.lc m elt tg it ifs vs)) := by
  unfold blkOk at hb
  simp only [Bool.and_eq_true, decide_eq_true_eq] at hb
  obtain ⟨hb1, hb2⟩ := hb
  refine (pe_lc (own := ownOf N vs) (g := tG X.w tg) A.calm (by rw [A.names]; exact A.nd) hi (by rw [A.names, A.scope]; exact blkOk_by hb1) (fun s H C cl fp => sG tg (c.blk scope) xt hg (A.blk s H scope C cl fp)) ht he hs).imp fun σ H Q q => by rw [hb2]; exact q_lc htg q
end
end PL
end
section
set_option Elab.async false
set_option linter.all false
set_option maxRecDepth 100000
set_option maxHeartbeats 4000000
/-! PL18: expressions that pass the check. -/
namespace PL
open L2 PyProof.Rows PySem.Spec PySem
structure SE (G : Ctx) (X : Cx) (ex : Expr) (e : E) : Prop where
  pe : PE X ex (tE G X.w e)
  pt : PT X ex (tT G X.w e)
  pw : ∀ op vs p, ex = .BoolOp op vs p → PW X ex (tT G X.w e)
section
variable {Y : Tx} {N : List Str} {k : Nat} {X : Cx} {G : Ctx}
theorem SE.val {ex : Expr} {e : E} (h : PE X ex (tE G X.w e)) (he : ∀ whole, isTrue ex X.env whole = (do let v ← whole; standAt ex.pos; holding [v] (truthy v)) := by intro _; rfl) (nb : ∀ op vs p, ex ≠ .BoolOp op vs p := by intro _ _ _ h; cases h) : SE G X ex e :=
  ⟨h, t_val h he, fun op vs p e => absurd e (nb op vs p)⟩
theorem SE.mk2 {ex : Expr} {e : E} (h : PE X ex (tE G X.w e)) (t : PT X ex (tT G X.w e)) (nb : ∀ op vs p, ex ≠ .BoolOp op vs p := by intro _ _ _ h; cases h) : SE G X ex e :=
  ⟨h, t, fun op vs p e => absurd e (nb op vs p)⟩
theorem SE.bool {op : BoolOp} {vs : List Expr} {p : Pos} {e : E} (h : PE X (.BoolOp op vs p) (tE G X.w e)) (t : PW X (.BoolOp op vs p) (tT G X.w e)) : SE G X (.BoolOp op vs p) e := ⟨h, t.pt, fun _ _ _ _ => t⟩
theorem isInt_of {j : Int} {y : Expr} (h : isInt j y = true) : ∃ k p, y = .Constant (.int j) k p := by
  unfold isInt at h
  split at h
  · rw [of_decide_eq_true h]; exact ⟨_, _, rfl⟩
  · exact absurd h Bool.false_ne_true
/-- x[j][z[m]:] -/
theorem e_cut {c : Sc} {ex : Expr} {i : Nat} {b lo hi : E} (A : At Y N c k X) (h : trCut N c i b lo hi ex = true) : SE G X ex (.slc2S i b lo hi) := by
  unfold trCut at h
  split at h
  · rename_i j i2 m x p1 y p2 z p4 u p6 p7 p8
    simp only [Bool.and_eq_true] at h
    obtain ⟨⟨⟨h1, h2⟩, hn⟩, hn2⟩ := h
    obtain ⟨_, _, rfl⟩ := isInt_of h1
    obtain ⟨_, _, rfl⟩ := isInt_of h2
    refine .val ((pe_slice sl_list (pe_ix ix_list (pe_slot A hn _) pe_int (plainIx_of rfl)) (po_some (pe_ix ix_list (pe_slot A hn2 _) pe_int (plainIx_of rfl))) po_none).imp fun σ H Q q => ?_)
    obtain ⟨c', τ, ρ, k', hs, ⟨s, s2, ds, es, ds2, q0, e1, e2, d1, a1, d2, a2, hf, hk⟩, hq⟩ := q
    obtain ⟨v, ev, O, f, so, ow, _⟩ := hs.slot e1
    obtain ⟨v2, ev2, O2, f2, so2, ow2, _⟩ := hs.slot e2
    rw [d1] at ow
    rw [d2] at ow2
    obtain ⟨j1, g1, g2⟩ : ∃ j1, ixN ds.length j = some j1 ∧ ds[j1]? = some (.list es) := by
      unfold L2.atI at a1
      cases ej : ixN ds.length j with
      | none => rw [ej] at a1; cases a1
      | some j1 => rw [ej] at a1; exact ⟨j1, rfl, a1⟩
    obtain ⟨j2, g3, g4⟩ : ∃ j2, ixN ds2.length m = some j2 ∧ ds2[j2]? = some (.int q0) := by
      unfold L2.atI at a2
      cases ej : ixN ds2.length m with
      | none => rw [ej] at a2; cases a2
      | some j1 => rw [ej] at a2; exact ⟨j1, rfl, a2⟩
    obtain ⟨a, xs, b, ys, rfl, r1, r2, r3, r4, r5, r6⟩ := ow_items2 ow sub_hide g2 (hf.imp id fun h j d e => flat_it h e)
    obtain ⟨a', xs', rfl, t1, t2, t3⟩ := ow_items ow2 sub_hide
    obtain ⟨x2, t4, t5⟩ := t3 j2 _ g4 (.inr rfl)
    have t5 : x2 = V.int q0 := t5
    subst t5
    refine ⟨_, ev, a, xs, j, .ref b, rfl, rfl, SqL.of r1, by unfold L2.atI; rw [r2, g1]; exact r3, ?_⟩
    refine ⟨_, ev2, a', xs', m, V.int q0, rfl, rfl, SqL.of t1, by unfold L2.atI; rw [t2, g3]; exact t4, q0, rfl, ?_⟩
    refine ⟨b, ys, rfl, SqL.of r4, fun p hp => hq _ _ _ _ _ hk (so.push (Out.lst sub_hide hp ?_))⟩
    refine FzAll.of_get (cut_len r5) fun j d e => ?_
    have hj : j < (cutV ys (some q0) none).length := by rw [cut_len r5]; exact (List.getElem?_eq_some_iff.mp e).1
    rw [cutV_get hj, r5]
    exact r6 _ d (cut_get e)
  · exact absurd h Bool.false_ne_true
theorem and2 {a b : Bool} (h : (a && b) = true) : a = true ∧ b = true := by simpa using h
mutual
theorem sE : ∀ (e : E) (c : Sc) (X : Cx) (ex : Expr), trE Y N c e ex = true → At Y N c k X → SE (ctx Y.T k noX) X ex e
  | .slot i, c, X, ex, h, A => by
    cases ex with
    | Name x p => exact .val (e_slot A h)
    | _ => exact absurd h Bool.false_ne_true
  | .int n, c, X, ex, h, A => by
    cases ex with
    | Constant v j p =>
      cases v with
      | int m => have e : n = m := by simpa [trE] using h
                 subst e; exact .val e_int
      | _ => exact absurd h Bool.false_ne_true
    | _ => exact absurd h Bool.false_ne_true
  | .bool n, c, X, ex, h, A => by
    cases ex with
    | Constant v j p =>
      cases v with
      | bool m => have e : n = m := by simpa [trE] using h
                  subst e; exact .val e_bool
      | _ => exact absurd h Bool.false_ne_true
    | _ => exact absurd h Bool.false_ne_true
  | .none, c, X, ex, h, A => by
    cases ex with
    | Constant v j p =>
      cases v with
      | none => exact .val e_none
      | _ => exact absurd h Bool.false_ne_true
    | _ => exact absurd h Bool.false_ne_true
  | .str n, c, X, ex, h, A => by
    cases ex with
    | Constant v j p =>
      cases v with
      | str m => have e : (n : Str) = m := by simpa [trE] using h
                 subst e; exact .val e_str
      | _ => exact absurd h Bool.false_ne_true
    | _ => exact absurd h Bool.false_ne_true
  | .con j, c, X, ex, h, A => by
    cases ex with
    | Name x p =>
      obtain ⟨h1, h2⟩ := and2 (show ((isGl c x && plainNm x) && (match Y.cons[j]? with | some n => decide ((n : Str) = x) | none => false)) = true from h)
      obtain ⟨h3, h4⟩ := and2 h1
      cases e : Y.cons[j]? with
      | none => rw [e] at h2; exact absurd h2 Bool.false_ne_true
      | some n =>
        rw [e] at h2
        exact .val (e_con (T := Y.T) A h3 h4 e (of_decide_eq_true h2) rfl)
    | _ => exact absurd h Bool.false_ne_true
  | .tup es, c, X, ex, h, A => by
    cases ex with
    | Tuple l x p => exact .val (e_tup (sL es c X l h A))
    | _ => exact absurd h Bool.false_ne_true
  | .lst m es, c, X, ex, h, A => by
    cases ex with
    | List l p => exact .val (e_lst (sL es c X l h A))
    | _ => exact absurd h Bool.false_ne_true
  | .bin op a b, c, X, ex, h, A => by
    cases ex with
    | BinOp l o r p =>
      obtain ⟨h1, h2⟩ := and2 (show ((decide (opOf op = o) && trE Y N c a l) && trE Y N c b r) = true from h)
      obtain ⟨h3, h4⟩ := and2 h1
      have e := of_decide_eq_true h3
      subst e
      exact .val (e_bin (sE a c X l h4 A).pe (sE b c X r h2 A).pe)
    | _ => exact absurd h Bool.false_ne_true
  | .neg a, c, X, ex, h, A => by
    cases ex with
    | UnaryOp o x p =>
      cases o with
      | USub => exact .val (e_neg (sE a c X x h A).pe)
      | _ => exact absurd h Bool.false_ne_true
    | _ => exact absurd h Bool.false_ne_true
  | .not a, c, X, ex, h, A => by
    cases ex with
    | UnaryOp o x p =>
      cases o with
      | Not => exact .mk2 (e_not (sE a c X x h A).pe) (t_not (sE a c X x h A).pt)
      | _ => exact absurd h Bool.false_ne_true
    | _ => exact absurd h Bool.false_ne_true
  | .and a b, c, X, ex, h, A => by
    cases ex with
    | BoolOp o l p =>
      cases o with
      | And =>
        cases l with
        | nil => exact absurd h Bool.false_ne_true
        | cons x l => cases l with
          | nil => exact absurd h Bool.false_ne_true
          | cons y l => cases l with
            | nil =>
              obtain ⟨h1, h2⟩ := and2 (show (trE Y N c a x && trE Y N c b y) = true from h)
              have Ha := sE a c X x h1 A
              have Hb := sE b c X y h2 A
              exact .bool (e_and Ha.pe (pe_one Hb.pe)) (w_and Ha.pt (pw_and1 Hb.pt))
            | cons z l =>
              obtain ⟨h1, h2⟩ := and2 (show (trE Y N c a x && trE Y N c b (.BoolOp .And (y :: z :: l) p)) = true from h)
              have Ha := sE a c X x h1 A
              have Hb := sE b c X _ h2 A
              exact .bool (e_and Ha.pe Hb.pe) (w_and Ha.pt (Hb.pw _ _ _ rfl))
      | Or => exact absurd h Bool.false_ne_true
    | _ => exact absurd h Bool.false_ne_true
  | .or a b, c, X, ex, h, A => by
    cases ex with
    | BoolOp o l p =>
      cases o with
      | Or =>
        cases l with
        | nil => exact absurd h Bool.false_ne_true
        | cons x l => cases l with
          | nil => exact absurd h Bool.false_ne_true
          | cons y l => cases l with
            | nil =>
              obtain ⟨h1, h2⟩ := and2 (show (trE Y N c a x && trE Y N c b y) = true from h)
              have Ha := sE a c X x h1 A
              have Hb := sE b c X y h2 A
              exact .bool (e_or Ha.pe (pe_one Hb.pe)) (w_or Ha.pt (pw_or1 Hb.pt))
            | cons z l =>
              obtain ⟨h1, h2⟩ := and2 (show (trE Y N c a x && trE Y N c b (.BoolOp .Or (y :: z :: l) p)) = true from h)
              have Ha := sE a c X x h1 A
              have Hb := sE b c X _ h2 A
              exact .bool (e_or Ha.pe Hb.pe) (w_or Ha.pt (Hb.pw _ _ _ rfl))
      | And => exact absurd h Bool.false_ne_true
    | _ => exact absurd h Bool.false_ne_true
  | .cmp op a b, c, X, ex, h, A => by
    cases ex with
    | Compare l ops rs p =>
      cases ops with
      | nil => exact absurd h Bool.false_ne_true
      | cons o ops => cases ops with
        | cons => exact absurd h Bool.false_ne_true
        | nil => cases rs with
          | nil => exact absurd h Bool.false_ne_true
          | cons r rs => cases rs with
            | cons => exact absurd h Bool.false_ne_true
            | nil =>
              obtain ⟨h1, h2⟩ := and2 (show (((decide (copOf op = o) && notSet r) && trE Y N c a l) && trE Y N c b r) = true from h)
              obtain ⟨h3, h4⟩ := and2 h1
              obtain ⟨h5, h6⟩ := and2 h3
              have e := of_decide_eq_true h5
              subst e
              have Ha := (sE a c X l h4 A).pe
              have Hb := (sE b c X r h2 A).pe
              exact .mk2 (e_cmp A Ha Hb h6) (t_cmp A Ha Hb h6)
    | _ => exact absurd h Bool.false_ne_true
  | .cmpS op a i, c, X, ex, h, A => by
    cases ex with
    | Compare l ops rs p =>
      cases ops with
      | nil => exact absurd h Bool.false_ne_true
      | cons o ops => cases ops with
        | cons => exact absurd h Bool.false_ne_true
        | nil => cases rs with
          | nil => exact absurd h Bool.false_ne_true
          | cons r rs => cases r with
            | Name x q => cases rs with
              | cons => exact absurd h Bool.false_ne_true
              | nil =>
                obtain ⟨h1, h2⟩ := and2 (show ((decide (copOf op = o) && trE Y N c a l) && nmOk N c i x) = true from h)
                obtain ⟨h3, h4⟩ := and2 h1
                have e := of_decide_eq_true h3
                subst e
                have Ha := (sE a c X l h4 A).pe
                exact .mk2 (e_cmpS A Ha h2) (t_cmpS A Ha h2)
            | _ => exact absurd h Bool.false_ne_true
    | _ => exact absurd h Bool.false_ne_true
  | .cmpSl op i b, c, X, ex, h, A => by
    cases ex with
    | Compare l ops rs p =>
      cases l with
      | Name x q =>
        cases ops with
        | nil => exact absurd h Bool.false_ne_true
        | cons o ops => cases ops with
          | cons => exact absurd h Bool.false_ne_true
          | nil => cases rs with
            | nil => exact absurd h Bool.false_ne_true
            | cons r rs => cases rs with
              | cons => exact absurd h Bool.false_ne_true
              | nil =>
                obtain ⟨h1, h2⟩ := and2 (show (((decide (copOf op = o) && notSet r) && nmOk N c i x) && trE Y N c b r) = true from h)
                obtain ⟨h3, h4⟩ := and2 h1
                obtain ⟨h5, h6⟩ := and2 h3
                have e := of_decide_eq_true h5
                subst e
                have Hb := (sE b c X r h2 A).pe
                exact .mk2 (e_cmpSl A h4 Hb h6) (t_cmpSl A h4 Hb h6)
      | _ => exact absurd h Bool.false_ne_true
    | _ => exact absurd h Bool.false_ne_true
  | .chain o1 o2 a b d, c, X, ex, h, A => by
    cases ex with
    | Compare l ops rs pos =>
      cases ops with
      | nil => exact absurd h Bool.false_ne_true
      | cons p ops => cases ops with
        | nil => exact absurd h Bool.false_ne_true
        | cons q ops => cases ops with
          | cons => exact absurd h Bool.false_ne_true
          | nil => cases rs with
            | nil => exact absurd h Bool.false_ne_true
            | cons m rs => cases rs with
              | nil => exact absurd h Bool.false_ne_true
              | cons r rs => cases rs with
                | cons => exact absurd h Bool.false_ne_true
                | nil =>
                  obtain ⟨h1, h2⟩ := and2 (show ((((((decide (copOf o1 = p) && decide (copOf o2 = q)) && notSet m) && notSet r) && trE Y N c a l) && trE Y N c b m) && trE Y N c d r) = true from h)
                  obtain ⟨h1, h3⟩ := and2 h1
                  obtain ⟨h1, h4⟩ := and2 h1
                  obtain ⟨h1, h5⟩ := and2 h1
                  obtain ⟨h1, h6⟩ := and2 h1
                  obtain ⟨h1, h7⟩ := and2 h1
                  have e1 := of_decide_eq_true h1
                  have e2 := of_decide_eq_true h7
                  subst e1 e2
                  have Ha := (sE a c X l h4 A).pe
                  have Hb := (sE b c X m h3 A).pe
                  have Hc := (sE d c X r h2 A).pe
                  exact .mk2 (e_chain A Ha Hb Hc h6 h5) (t_chain A Ha Hb Hc h6 h5)
    | _ => exact absurd h Bool.false_ne_true
  | .ite d a b, c, X, ex, h, A => by
    cases ex with
    | IfExp t x y p =>
      obtain ⟨h1, h2⟩ := and2 (show ((trE Y N c d t && trE Y N c a x) && trE Y N c b y) = true from h)
      obtain ⟨h3, h4⟩ := and2 h1
      have Hd := sE d c X t h3 A
      have Ha := sE a c X x h4 A
      have Hb := sE b c X y h2 A
      exact .mk2 (e_ite Hd.pt Ha.pe Hb.pe) (t_ite Hd.pt Ha.pt Hb.pt)
    | _ => exact absurd h Bool.false_ne_true
  | .idx a b, c, X, ex, h, A => by
    cases ex with
    | Subscript x y p =>
      obtain ⟨h1, h2⟩ := and2 (show ((notSlice y && trE Y N c a x) && trE Y N c b y) = true from h)
      obtain ⟨h3, h4⟩ := and2 h1
      exact .val (e_idx (sE a c X x h4 A).pe (sE b c X y h2 A).pe h3)
    | _ => exact absurd h Bool.false_ne_true
  | .idxS i b, c, X, ex, h, A => by
    cases ex with
    | Subscript x y p =>
      cases x with
      | Name x q =>
        obtain ⟨h1, h2⟩ := and2 (show ((notSlice y && nmOk N c i x) && trE Y N c b y) = true from h)
        obtain ⟨h3, h4⟩ := and2 h1
        exact .val (e_idxS A h4 (sE b c X y h2 A).pe h3)
      | _ => exact absurd h Bool.false_ne_true
    | _ => exact absurd h Bool.false_ne_true
  | .slc a lo hi, c, X, ex, h, A => by
    cases ex with
    | Subscript x y p =>
      cases y with
      | Slice l u st q =>
        cases st with
        | some => exact absurd h Bool.false_ne_true
        | none =>
          obtain ⟨h1, h2⟩ := and2 (show ((trE Y N c a x && trO Y N c lo l) && trO Y N c hi u) = true from h)
          obtain ⟨h3, h4⟩ := and2 h1
          exact .val (e_slc (sE a c X x h3 A).pe (sO lo c X l h4 A) (sO hi c X u h2 A))
      | _ => exact absurd h Bool.false_ne_true
    | _ => exact absurd h Bool.false_ne_true
  | .slcS i lo hi, c, X, ex, h, A => by
    cases ex with
    | Subscript x y p =>
      cases x with
      | Name x q0 =>
        cases y with
        | Slice l u st q =>
          cases st with
          | some => exact absurd h Bool.false_ne_true
          | none =>
            obtain ⟨h1, h2⟩ := and2 (show ((nmOk N c i x && trO Y N c lo l) && trO Y N c hi u) = true from h)
            obtain ⟨h3, h4⟩ := and2 h1
            exact .val (e_slcS A h3 (sO lo c X l h4 A) (sO hi c X u h2 A))
        | _ => exact absurd h Bool.false_ne_true
      | _ => exact absurd h Bool.false_ne_true
    | _ => exact absurd h Bool.false_ne_true
  | .rev a, c, X, ex, h, A => by
    cases ex with
    | Subscript x y p =>
      cases y with
      | Slice l u st q =>
        cases l <;> cases u <;> cases st <;> try exact absurd h Bool.false_ne_true
        rename_i st
        cases st with
        | UnaryOp o v q2 =>
          cases o <;> cases v <;> try exact absurd h Bool.false_ne_true
          rename_i cv j q3
          cases cv <;> try exact absurd h Bool.false_ne_true
          rename_i n
          obtain e : n = 1 := by
            match n, h with
            | .ofNat 1, _ => rfl
          subst e
          exact .val (e_rev (p4 := q) (sE a c X x h A).pe)
        | _ => exact absurd h Bool.false_ne_true
      | _ => exact absurd h Bool.false_ne_true
    | _ => exact absurd h Bool.false_ne_true
  | .revS i, c, X, ex, h, A => by
    cases ex with
    | Subscript x y p =>
      cases x with
      | Name x q0 =>
        cases y with
        | Slice l u st q =>
          cases l <;> cases u <;> cases st <;> try exact absurd h Bool.false_ne_true
          rename_i st
          cases st with
          | UnaryOp o v q2 =>
            cases o <;> cases v <;> try exact absurd h Bool.false_ne_true
            rename_i cv j q3
            cases cv <;> try exact absurd h Bool.false_ne_true
            rename_i n
            obtain e : n = 1 := by
              match n, h with
              | .ofNat 1, _ => rfl
            subst e
            exact .val (e_revS A (p4 := q) h)
          | _ => exact absurd h Bool.false_ne_true
        | _ => exact absurd h Bool.false_ne_true
      | _ => exact absurd h Bool.false_ne_true
    | _ => exact absurd h Bool.false_ne_true
  | .fn f es, c, X, ex, h, A => by
    cases ex with
    | Call fx l kw p =>
      cases fx with
      | Name x q =>
        cases l with
        | nil => exact absurd h Bool.false_ne_true
        | cons y l => cases kw with
          | cons => exact absurd h Bool.false_ne_true
          | nil =>
            obtain ⟨h1, h2⟩ := and2 (show (((okFn f && freeOk Y c x (bfName f)) && noStars (y :: l)) && trL Y N c es (y :: l)) = true from h)
            obtain ⟨h3, h4⟩ := and2 h1
            obtain ⟨h5, h6⟩ := and2 h3
            exact .val (e_fn A h5 h6 h4 (sL es c X _ h2 A))
      | _ => exact absurd h Bool.false_ne_true
    | _ => exact absurd h Bool.false_ne_true
  | .fnS f i, c, X, ex, h, A => by
    cases ex with
    | Call fx l kw p =>
      cases fx with
      | Name x q =>
        cases l with
        | nil => exact absurd h Bool.false_ne_true
        | cons y l => cases y with
          | Name y q2 => cases l with
            | cons => exact absurd h Bool.false_ne_true
            | nil => cases kw with
              | cons => exact absurd h Bool.false_ne_true
              | nil =>
                obtain ⟨h1, h2⟩ := and2 (show ((okFn f && freeOk Y c x (bfName f)) && nmOk N c i y) = true from h)
                obtain ⟨h3, h4⟩ := and2 h1
                exact .val (e_fnS A h3 h4 h2)
          | _ => exact absurd h Bool.false_ne_true
      | _ => exact absurd h Bool.false_ne_true
    | _ => exact absurd h Bool.false_ne_true
  | .call f es, c, X, ex, h, A => by
    cases ex with
    | Call fx l kw p =>
      cases fx with
      | Name x q =>
        cases l with
        | nil => exact absurd h Bool.false_ne_true
        | cons y l => cases kw with
          | cons => exact absurd h Bool.false_ne_true
          | nil =>
            obtain ⟨h1, h2⟩ := and2 (show ((((isGl c x && plainNm x) && noStars (y :: l)) && (match Y.T.fns[f]? with | some d => decide ((d.name : Str) = x) | none => false)) && trA Y N c es (y :: l)) = true from h)
            obtain ⟨h3, h4⟩ := and2 h1
            obtain ⟨h5, h6⟩ := and2 h3
            obtain ⟨h7, h8⟩ := and2 h5
            cases e : Y.T.fns[f]? with
            | none => rw [e] at h4; exact absurd h4 Bool.false_ne_true
            | some d =>
              rw [e] at h4
              exact .val (e_call A h7 h8 h6 e (of_decide_eq_true h4) (sA es c X _ h2 A))
      | _ => exact absurd h Bool.false_ne_true
    | _ => exact absurd h Bool.false_ne_true
  | .lc m elt tg it ifs vs, c, X, ex, h, A => by
    cases ex with
    | ListComp xe gens scope p =>
      cases gens with
      | nil => exact absurd h Bool.false_ne_true
      | cons g gens => cases gens with
        | cons g2 gens =>
          obtain ⟨a1, a2, a3, a4⟩ := g
          cases a4 with
          | negSucc n => exact absurd h Bool.false_ne_true
          | ofNat n => cases n <;> exact absurd h Bool.false_ne_true
        | nil =>
          obtain ⟨t, i, fs, as⟩ := g
          cases as with
          | negSucc n => exact absurd h Bool.false_ne_true
          | ofNat n => cases n with
           | succ => exact absurd h Bool.false_ne_true
           | zero =>
            obtain ⟨h1, h2⟩ := and2 (show (((((blkOk N c scope vs && (tgVars tg).all (fun v => decide (v ∈ vs))) && trI Y N c it i t) && trG N (c.blk scope) tg t) && trF Y N (c.blk scope) ifs fs) && trE Y N (c.blk scope) elt xe) = true from h)
            obtain ⟨h1, h3⟩ := and2 h1
            obtain ⟨h1, h4⟩ := and2 h1
            obtain ⟨h1, h5⟩ := and2 h1
            obtain ⟨h1, h6⟩ := and2 h1
            obtain ⟨hi, hu⟩ := sI it c X i t h5 A
            exact .val (e_lc A h1 h6 hi h4 (fun s H C cl fp => sF ifs _ _ _ h3 (A.blk s H scope C cl fp)) (fun s H C cl fp => (sE elt _ _ _ h2 (A.blk s H scope C cl fp)).pe) hu)
    | _ => exact absurd h Bool.false_ne_true
  | .nil, c, X, ex, h, A => absurd h Bool.false_ne_true
  | .cons _ _, c, X, ex, h, A => absurd h Bool.false_ne_true
  | .idx2S _ _ _, c, X, ex, h, A => absurd h Bool.false_ne_true
  | .slc2S i b lo hi, c, X, ex, h, A => e_cut A (show trCut N c i b lo hi ex = true from h)
  | .lset a, c, X, ex, h, A => by
    cases ex with
    | Call fx l kw p =>
      cases fx with
      | Name x q =>
        cases l with
        | nil => exact absurd h Bool.false_ne_true
        | cons y l => cases y with
          | Call fy l2 kw2 p2 =>
            cases fy with
            | Name y q2 =>
              rcases l2 with _ | ⟨e, _ | ⟨_, _⟩⟩ <;> rcases kw2 with _ | ⟨_, _⟩ <;> rcases l with _ | ⟨_, _⟩ <;> rcases kw with _ | ⟨_, _⟩ <;> try exact absurd h Bool.false_ne_true
              obtain ⟨h1, h2⟩ := and2 (show (((freeOk Y c x "len" && freeOk Y c y "set") && noStar e) && trE Y N c a e) = true from h)
              obtain ⟨h1, h3⟩ := and2 h1
              obtain ⟨h1, h4⟩ := and2 h1
              exact .val (e_lset A h1 h4 (sE a c X e h2 A).pe h3)
            | _ => exact absurd h Bool.false_ne_true
          | _ => exact absurd h Bool.false_ne_true
      | _ => exact absurd h Bool.false_ne_true
    | _ => exact absurd h Bool.false_ne_true
  | .isT ts a, c, X, ex, h, A => by
    cases ex with
    | Call fx l kw p =>
      match ts, fx, l, kw, h with
      | [t], .Name x q, [e, .Name y q2], [], h =>
        obtain ⟨h1, h2⟩ := and2 (show (((freeOk Y c x "isinstance" && freeOk Y c y (tyName t)) && noStar e) && trE Y N c a e) = true from h)
        obtain ⟨h1, h3⟩ := and2 h1
        obtain ⟨h1, h4⟩ := and2 h1
        exact .val (e_isT A h1 h4 h3 (sE a c X e h2 A).pe)
    | _ => rcases ts with _ | ⟨_, _ | ⟨_, _⟩⟩ <;> exact absurd h Bool.false_ne_true
  | .get _ _ _, c, X, ex, h, A => absurd h Bool.false_ne_true
  | .getS _ _ _, c, X, ex, h, A => absurd h Bool.false_ne_true
  | .popS _ _, c, X, ex, h, A => absurd h Bool.false_ne_true
  | .bor _, c, X, ex, h, A => absurd h Bool.false_ne_true
  | .lend _, c, X, ex, h, A => absurd h Bool.false_ne_true
  | .lc2 _ _ _ _ _ _ _ _ _, c, X, ex, h, A => absurd h Bool.false_ne_true
  | .dead, c, X, ex, h, A => ⟨⟨fun pins s σ H Q I q => by obtain ⟨_, _, _, _, _, hw, _⟩ := q; exact hw.elim⟩, ⟨fun pins s σ H Q I q => by obtain ⟨_, _, _, _, _, hw, _⟩ := q; exact hw.elim⟩, fun _ _ _ _ => ⟨fun wh pins s σ H Q I q => by obtain ⟨_, _, _, _, _, hw, _⟩ := q; exact hw.elim⟩⟩
  | .dnil, c, X, ex, h, A => by
    cases ex with
    | Dict ks vs p =>
      match ks, vs, h with
      | [], [], _ => exact .val e_dnil
    | _ => exact absurd h Bool.false_ne_true
  | .dsp a b, c, X, ex, h, A => by
    cases ex with
    | Dict ks vs p =>
      match ks, vs, h with
      | [some x], [y], h =>
        obtain ⟨h1, h2⟩ := and2 (show (trE Y N c a x && trE Y N c b y) = true from h)
        exact .val (e_dsp (sE a c X x h1 A).pe (sE b c X y h2 A).pe)
    | _ => exact absurd h Bool.false_ne_true
  | .dc _ _ _ _ _ _ _, c, X, ex, h, A => absurd h Bool.false_ne_true
  | .itv _, c, X, ex, h, A => absurd h Bool.false_ne_true
  | .its _, c, X, ex, h, A => absurd h Bool.false_ne_true
  | .rng _, c, X, ex, h, A => absurd h Bool.false_ne_true
  | .rng2 _ _, c, X, ex, h, A => absurd h Bool.false_ne_true
  | .enm _, c, X, ex, h, A => absurd h Bool.false_ne_true
  | .enmS _, c, X, ex, h, A => absurd h Bool.false_ne_true
  | .zp _ _, c, X, ex, h, A => absurd h Bool.false_ne_true
  | .items _, c, X, ex, h, A => absurd h Bool.false_ne_true
  | .itemsS _, c, X, ex, h, A => absurd h Bool.false_ne_true
  | .vals _, c, X, ex, h, A => absurd h Bool.false_ne_true
  | .valsS _, c, X, ex, h, A => absurd h Bool.false_ne_true
theorem sL : ∀ (e : E) (c : Sc) (X : Cx) (es : List Expr), trL Y N c e es = true → At Y N c k X → PA X es (tL (ctx Y.T k noX) X.w e)
  | .nil, c, X, es, h, A => by
    cases es with
    | nil => exact l_nil
    | cons => exact absurd h Bool.false_ne_true
  | .cons a r, c, X, es, h, A => by
    cases es with
    | nil => exact absurd h Bool.false_ne_true
    | cons x es =>
      obtain ⟨h1, h2⟩ := and2 (show ((noStar x && trE Y N c a x) && trL Y N c r es) = true from h)
      obtain ⟨h3, h4⟩ := and2 h1
      exact l_cons (sE a c X x h4 A).pe (sL r c X es h2 A) h3
  | .slot _, c, X, es, h, A => absurd h Bool.false_ne_true
  | .int _, c, X, es, h, A => absurd h Bool.false_ne_true
  | .bool _, c, X, es, h, A => absurd h Bool.false_ne_true
  | .none, c, X, es, h, A => absurd h Bool.false_ne_true
  | .str _, c, X, es, h, A => absurd h Bool.false_ne_true
  | .con _, c, X, es, h, A => absurd h Bool.false_ne_true
  | .tup _, c, X, es, h, A => absurd h Bool.false_ne_true
  | .lst _ _, c, X, es, h, A => absurd h Bool.false_ne_true
  | .bin _ _ _, c, X, es, h, A => absurd h Bool.false_ne_true
  | .neg _, c, X, es, h, A => absurd h Bool.false_ne_true
  | .not _, c, X, es, h, A => absurd h Bool.false_ne_true
  | .and _ _, c, X, es, h, A => absurd h Bool.false_ne_true
  | .or _ _, c, X, es, h, A => absurd h Bool.false_ne_true
  | .cmp _ _ _, c, X, es, h, A => absurd h Bool.false_ne_true
  | .cmpS _ _ _, c, X, es, h, A => absurd h Bool.false_ne_true
  | .cmpSl _ _ _, c, X, es, h, A => absurd h Bool.false_ne_true
  | .chain _ _ _ _ _, c, X, es, h, A => absurd h Bool.false_ne_true
  | .ite _ _ _, c, X, es, h, A => absurd h Bool.false_ne_true
  | .idx _ _, c, X, es, h, A => absurd h Bool.false_ne_true
  | .idxS _ _, c, X, es, h, A => absurd h Bool.false_ne_true
  | .idx2S _ _ _, c, X, es, h, A => absurd h Bool.false_ne_true
  | .slc _ _ _, c, X, es, h, A => absurd h Bool.false_ne_true
  | .slcS _ _ _, c, X, es, h, A => absurd h Bool.false_ne_true
  | .slc2S _ _ _ _, c, X, es, h, A => absurd h Bool.false_ne_true
  | .rev _, c, X, es, h, A => absurd h Bool.false_ne_true
  | .revS _, c, X, es, h, A => absurd h Bool.false_ne_true
  | .fn _ _, c, X, es, h, A => absurd h Bool.false_ne_true
  | .fnS _ _, c, X, es, h, A => absurd h Bool.false_ne_true
  | .lset _, c, X, es, h, A => absurd h Bool.false_ne_true
  | .isT _ _, c, X, es, h, A => absurd h Bool.false_ne_true
  | .get _ _ _, c, X, es, h, A => absurd h Bool.false_ne_true
  | .getS _ _ _, c, X, es, h, A => absurd h Bool.false_ne_true
  | .popS _ _, c, X, es, h, A => absurd h Bool.false_ne_true
  | .call _ _, c, X, es, h, A => absurd h Bool.false_ne_true
  | .bor _, c, X, es, h, A => absurd h Bool.false_ne_true
  | .lend _, c, X, es, h, A => absurd h Bool.false_ne_true
  | .lc _ _ _ _ _ _, c, X, es, h, A => absurd h Bool.false_ne_true
  | .lc2 _ _ _ _ _ _ _ _ _, c, X, es, h, A => absurd h Bool.false_ne_true
  | .dead, c, X, es, h, A => absurd h Bool.false_ne_true
  | .dsp _ _, c, X, es, h, A => absurd h Bool.false_ne_true
  | .dnil, c, X, es, h, A => absurd h Bool.false_ne_true
  | .dc _ _ _ _ _ _ _, c, X, es, h, A => absurd h Bool.false_ne_true
  | .itv _, c, X, es, h, A => absurd h Bool.false_ne_true
  | .its _, c, X, es, h, A => absurd h Bool.false_ne_true
  | .rng _, c, X, es, h, A => absurd h Bool.false_ne_true
  | .rng2 _ _, c, X, es, h, A => absurd h Bool.false_ne_true
  | .enm _, c, X, es, h, A => absurd h Bool.false_ne_true
  | .enmS _, c, X, es, h, A => absurd h Bool.false_ne_true
  | .zp _ _, c, X, es, h, A => absurd h Bool.false_ne_true
  | .items _, c, X, es, h, A => absurd h Bool.false_ne_true
  | .itemsS _, c, X, es, h, A => absurd h Bool.false_ne_true
  | .vals _, c, X, es, h, A => absurd h Bool.false_ne_true
  | .valsS _, c, X, es, h, A => absurd h Bool.false_ne_true
theorem sO : ∀ (e : E) (c : Sc) (X : Cx) (es : Option Expr), trO Y N c e es = true → At Y N c k X → PO X es (tO (ctx Y.T k noX) X.w e)
  | .nil, c, X, es, h, A => by
    cases es with
    | none => exact o_none
    | some => exact absurd h Bool.false_ne_true
  | .cons a .nil, c, X, es, h, A => by
    cases es with
    | none => exact absurd h Bool.false_ne_true
    | some x => exact o_some (sE a c X x h A).pe
  | .cons _ (.cons _ _), c, X, es, h, A => absurd h Bool.false_ne_true
  | .cons _ (.slot _), c, X, es, h, A => absurd h Bool.false_ne_true
  | .cons _ (.int _), c, X, es, h, A => absurd h Bool.false_ne_true
  | .cons _ (.bool _), c, X, es, h, A => absurd h Bool.false_ne_true
  | .cons _ (.none), c, X, es, h, A => absurd h Bool.false_ne_true
  | .cons _ (.str _), c, X, es, h, A => absurd h Bool.false_ne_true
  | .cons _ (.con _), c, X, es, h, A => absurd h Bool.false_ne_true
  | .cons _ (.tup _), c, X, es, h, A => absurd h Bool.false_ne_true
  | .cons _ (.lst _ _), c, X, es, h, A => absurd h Bool.false_ne_true
  | .cons _ (.bin _ _ _), c, X, es, h, A => absurd h Bool.false_ne_true
  | .cons _ (.neg _), c, X, es, h, A => absurd h Bool.false_ne_true
  | .cons _ (.not _), c, X, es, h, A => absurd h Bool.false_ne_true
  | .cons _ (.and _ _), c, X, es, h, A => absurd h Bool.false_ne_true
  | .cons _ (.or _ _), c, X, es, h, A => absurd h Bool.false_ne_true
  | .cons _ (.cmp _ _ _), c, X, es, h, A => absurd h Bool.false_ne_true
  | .cons _ (.cmpS _ _ _), c, X, es, h, A => absurd h Bool.false_ne_true
  | .cons _ (.cmpSl _ _ _), c, X, es, h, A => absurd h Bool.false_ne_true
  | .cons _ (.chain _ _ _ _ _), c, X, es, h, A => absurd h Bool.false_ne_true
  | .cons _ (.ite _ _ _), c, X, es, h, A => absurd h Bool.false_ne_true
  | .cons _ (.idx _ _), c, X, es, h, A => absurd h Bool.false_ne_true
  | .cons _ (.idxS _ _), c, X, es, h, A => absurd h Bool.false_ne_true
  | .cons _ (.idx2S _ _ _), c, X, es, h, A => absurd h Bool.false_ne_true
  | .cons _ (.slc _ _ _), c, X, es, h, A => absurd h Bool.false_ne_true
  | .cons _ (.slcS _ _ _), c, X, es, h, A => absurd h Bool.false_ne_true
  | .cons _ (.slc2S _ _ _ _), c, X, es, h, A => absurd h Bool.false_ne_true
  | .cons _ (.rev _), c, X, es, h, A => absurd h Bool.false_ne_true
  | .cons _ (.revS _), c, X, es, h, A => absurd h Bool.false_ne_true
  | .cons _ (.fn _ _), c, X, es, h, A => absurd h Bool.false_ne_true
  | .cons _ (.fnS _ _), c, X, es, h, A => absurd h Bool.false_ne_true
  | .cons _ (.lset _), c, X, es, h, A => absurd h Bool.false_ne_true
  | .cons _ (.isT _ _), c, X, es, h, A => absurd h Bool.false_ne_true
  | .cons _ (.get _ _ _), c, X, es, h, A => absurd h Bool.false_ne_true
  | .cons _ (.getS _ _ _), c, X, es, h, A => absurd h Bool.false_ne_true
  | .cons _ (.popS _ _), c, X, es, h, A => absurd h Bool.false_ne_true
  | .cons _ (.call _ _), c, X, es, h, A => absurd h Bool.false_ne_true
  | .cons _ (.bor _), c, X, es, h, A => absurd h Bool.false_ne_true
  | .cons _ (.lend _), c, X, es, h, A => absurd h Bool.false_ne_true
  | .cons _ (.lc _ _ _ _ _ _), c, X, es, h, A => absurd h Bool.false_ne_true
  | .cons _ (.lc2 _ _ _ _ _ _ _ _ _), c, X, es, h, A => absurd h Bool.false_ne_true
  | .cons _ (.dead), c, X, es, h, A => absurd h Bool.false_ne_true
  | .cons _ (.dsp _ _), c, X, es, h, A => absurd h Bool.false_ne_true
  | .cons _ (.dnil), c, X, es, h, A => absurd h Bool.false_ne_true
  | .cons _ (.dc _ _ _ _ _ _ _), c, X, es, h, A => absurd h Bool.false_ne_true
  | .cons _ (.itv _), c, X, es, h, A => absurd h Bool.false_ne_true
  | .cons _ (.its _), c, X, es, h, A => absurd h Bool.false_ne_true
  | .cons _ (.rng _), c, X, es, h, A => absurd h Bool.false_ne_true
  | .cons _ (.rng2 _ _), c, X, es, h, A => absurd h Bool.false_ne_true
  | .cons _ (.enm _), c, X, es, h, A => absurd h Bool.false_ne_true
  | .cons _ (.enmS _), c, X, es, h, A => absurd h Bool.false_ne_true
  | .cons _ (.zp _ _), c, X, es, h, A => absurd h Bool.false_ne_true
  | .cons _ (.items _), c, X, es, h, A => absurd h Bool.false_ne_true
  | .cons _ (.itemsS _), c, X, es, h, A => absurd h Bool.false_ne_true
  | .cons _ (.vals _), c, X, es, h, A => absurd h Bool.false_ne_true
  | .cons _ (.valsS _), c, X, es, h, A => absurd h Bool.false_ne_true
  | .slot _, c, X, es, h, A => absurd h Bool.false_ne_true
  | .int _, c, X, es, h, A => absurd h Bool.false_ne_true
  | .bool _, c, X, es, h, A => absurd h Bool.false_ne_true
  | .none, c, X, es, h, A => absurd h Bool.false_ne_true
  | .str _, c, X, es, h, A => absurd h Bool.false_ne_true
  | .con _, c, X, es, h, A => absurd h Bool.false_ne_true
  | .tup _, c, X, es, h, A => absurd h Bool.false_ne_true
  | .lst _ _, c, X, es, h, A => absurd h Bool.false_ne_true
  | .bin _ _ _, c, X, es, h, A => absurd h Bool.false_ne_true
  | .neg _, c, X, es, h, A => absurd h Bool.false_ne_true
  | .not _, c, X, es, h, A => absurd h Bool.false_ne_true
  | .and _ _, c, X, es, h, A => absurd h Bool.false_ne_true
  | .or _ _, c, X, es, h, A => absurd h Bool.false_ne_true
  | .cmp _ _ _, c, X, es, h, A => absurd h Bool.false_ne_true
  | .cmpS _ _ _, c, X, es, h, A => absurd h Bool.false_ne_true
  | .cmpSl _ _ _, c, X, es, h, A => absurd h Bool.false_ne_true
  | .chain _ _ _ _ _, c, X, es, h, A => absurd h Bool.false_ne_true
  | .ite _ _ _, c, X, es, h, A => absurd h Bool.false_ne_true
  | .idx _ _, c, X, es, h, A => absurd h Bool.false_ne_true
  | .idxS _ _, c, X, es, h, A => absurd h Bool.false_ne_true
  | .idx2S _ _ _, c, X, es, h, A => absurd h Bool.false_ne_true
  | .slc _ _ _, c, X, es, h, A => absurd h Bool.false_ne_true
  | .slcS _ _ _, c, X, es, h, A => absurd h Bool.false_ne_true
  | .slc2S _ _ _ _, c, X, es, h, A => absurd h Bool.false_ne_true
  | .rev _, c, X, es, h, A => absurd h Bool.false_ne_true
  | .revS _, c, X, es, h, A => absurd h Bool.false_ne_true
  | .fn _ _, c, X, es, h, A => absurd h Bool.false_ne_true
  | .fnS _ _, c, X, es, h, A => absurd h Bool.false_ne_true
  | .lset _, c, X, es, h, A => absurd h Bool.false_ne_true
  | .isT _ _, c, X, es, h, A => absurd h Bool.false_ne_true
  | .get _ _ _, c, X, es, h, A => absurd h Bool.false_ne_true
  | .getS _ _ _, c, X, es, h, A => absurd h Bool.false_ne_true
  | .popS _ _, c, X, es, h, A => absurd h Bool.false_ne_true
  | .call _ _, c, X, es, h, A => absurd h Bool.false_ne_true
  | .bor _, c, X, es, h, A => absurd h Bool.false_ne_true
  | .lend _, c, X, es, h, A => absurd h Bool.false_ne_true
  | .lc _ _ _ _ _ _, c, X, es, h, A => absurd h Bool.false_ne_true
  | .lc2 _ _ _ _ _ _ _ _ _, c, X, es, h, A => absurd h Bool.false_ne_true
  | .dead, c, X, es, h, A => absurd h Bool.false_ne_true
  | .dsp _ _, c, X, es, h, A => absurd h Bool.false_ne_true
  | .dnil, c, X, es, h, A => absurd h Bool.false_ne_true
  | .dc _ _ _ _ _ _ _, c, X, es, h, A => absurd h Bool.false_ne_true
  | .itv _, c, X, es, h, A => absurd h Bool.false_ne_true
  | .its _, c, X, es, h, A => absurd h Bool.false_ne_true
  | .rng _, c, X, es, h, A => absurd h Bool.false_ne_true
  | .rng2 _ _, c, X, es, h, A => absurd h Bool.false_ne_true
  | .enm _, c, X, es, h, A => absurd h Bool.false_ne_true
  | .enmS _, c, X, es, h, A => absurd h Bool.false_ne_true
  | .zp _ _, c, X, es, h, A => absurd h Bool.false_ne_true
  | .items _, c, X, es, h, A => absurd h Bool.false_ne_true
  | .itemsS _, c, X, es, h, A => absurd h Bool.false_ne_true
  | .vals _, c, X, es, h, A => absurd h Bool.false_ne_true
  | .valsS _, c, X, es, h, A => absurd h Bool.false_ne_true
theorem sF : ∀ (e : E) (c : Sc) (X : Cx) (es : List Expr), trF Y N c e es = true → At Y N c k X → PTs X es (tF (ctx Y.T k noX) X.w e)
  | .nil, c, X, es, h, A => by
    cases es with
    | nil => exact f_nil
    | cons => exact absurd h Bool.false_ne_true
  | .cons a .nil, c, X, es, h, A => by
    cases es with
    | nil => exact absurd h Bool.false_ne_true
    | cons x es => cases es with
      | nil => exact f_one (sE a c X x h A).pt
      | cons => exact absurd h Bool.false_ne_true
  | .cons _ (.cons _ _), c, X, es, h, A => absurd h Bool.false_ne_true
  | .cons _ (.slot _), c, X, es, h, A => absurd h Bool.false_ne_true
  | .cons _ (.int _), c, X, es, h, A => absurd h Bool.false_ne_true
  | .cons _ (.bool _), c, X, es, h, A => absurd h Bool.false_ne_true
  | .cons _ (.none), c, X, es, h, A => absurd h Bool.false_ne_true
  | .cons _ (.str _), c, X, es, h, A => absurd h Bool.false_ne_true
  | .cons _ (.con _), c, X, es, h, A => absurd h Bool.false_ne_true
  | .cons _ (.tup _), c, X, es, h, A => absurd h Bool.false_ne_true
  | .cons _ (.lst _ _), c, X, es, h, A => absurd h Bool.false_ne_true
  | .cons _ (.bin _ _ _), c, X, es, h, A => absurd h Bool.false_ne_true
  | .cons _ (.neg _), c, X, es, h, A => absurd h Bool.false_ne_true
  | .cons _ (.not _), c, X, es, h, A => absurd h Bool.false_ne_true
  | .cons _ (.and _ _), c, X, es, h, A => absurd h Bool.false_ne_true
  | .cons _ (.or _ _), c, X, es, h, A => absurd h Bool.false_ne_true
  | .cons _ (.cmp _ _ _), c, X, es, h, A => absurd h Bool.false_ne_true
  | .cons _ (.cmpS _ _ _), c, X, es, h, A => absurd h Bool.false_ne_true
  | .cons _ (.cmpSl _ _ _), c, X, es, h, A => absurd h Bool.false_ne_true
  | .cons _ (.chain _ _ _ _ _), c, X, es, h, A => absurd h Bool.false_ne_true
  | .cons _ (.ite _ _ _), c, X, es, h, A => absurd h Bool.false_ne_true
  | .cons _ (.idx _ _), c, X, es, h, A => absurd h Bool.false_ne_true
  | .cons _ (.idxS _ _), c, X, es, h, A => absurd h Bool.false_ne_true
  | .cons _ (.idx2S _ _ _), c, X, es, h, A => absurd h Bool.false_ne_true
  | .cons _ (.slc _ _ _), c, X, es, h, A => absurd h Bool.false_ne_true
  | .cons _ (.slcS _ _ _), c, X, es, h, A => absurd h Bool.false_ne_true
  | .cons _ (.slc2S _ _ _ _), c, X, es, h, A => absurd h Bool.false_ne_true
  | .cons _ (.rev _), c, X, es, h, A => absurd h Bool.false_ne_true
  | .cons _ (.revS _), c, X, es, h, A => absurd h Bool.false_ne_true
  | .cons _ (.fn _ _), c, X, es, h, A => absurd h Bool.false_ne_true
  | .cons _ (.fnS _ _), c, X, es, h, A => absurd h Bool.false_ne_true
  | .cons _ (.lset _), c, X, es, h, A => absurd h Bool.false_ne_true
  | .cons _ (.isT _ _), c, X, es, h, A => absurd h Bool.false_ne_true
  | .cons _ (.get _ _ _), c, X, es, h, A => absurd h Bool.false_ne_true
  | .cons _ (.getS _ _ _), c, X, es, h, A => absurd h Bool.false_ne_true
  | .cons _ (.popS _ _), c, X, es, h, A => absurd h Bool.false_ne_true
  | .cons _ (.call _ _), c, X, es, h, A => absurd h Bool.false_ne_true
  | .cons _ (.bor _), c, X, es, h, A => absurd h Bool.false_ne_true
  | .cons _ (.lend _), c, X, es, h, A => absurd h Bool.false_ne_true
  | .cons _ (.lc _ _ _ _ _ _), c, X, es, h, A => absurd h Bool.false_ne_true
  | .cons _ (.lc2 _ _ _ _ _ _ _ _ _), c, X, es, h, A => absurd h Bool.false_ne_true
  | .cons _ (.dead), c, X, es, h, A => absurd h Bool.false_ne_true
  | .cons _ (.dsp _ _), c, X, es, h, A => absurd h Bool.false_ne_true
  | .cons _ (.dnil), c, X, es, h, A => absurd h Bool.false_ne_true
  | .cons _ (.dc _ _ _ _ _ _ _), c, X, es, h, A => absurd h Bool.false_ne_true
  | .cons _ (.itv _), c, X, es, h, A => absurd h Bool.false_ne_true
  | .cons _ (.its _), c, X, es, h, A => absurd h Bool.false_ne_true
  | .cons _ (.rng _), c, X, es, h, A => absurd h Bool.false_ne_true
  | .cons _ (.rng2 _ _), c, X, es, h, A => absurd h Bool.false_ne_true
  | .cons _ (.enm _), c, X, es, h, A => absurd h Bool.false_ne_true
  | .cons _ (.enmS _), c, X, es, h, A => absurd h Bool.false_ne_true
  | .cons _ (.zp _ _), c, X, es, h, A => absurd h Bool.false_ne_true
  | .cons _ (.items _), c, X, es, h, A => absurd h Bool.false_ne_true
  | .cons _ (.itemsS _), c, X, es, h, A => absurd h Bool.false_ne_true
  | .cons _ (.vals _), c, X, es, h, A => absurd h Bool.false_ne_true
  | .cons _ (.valsS _), c, X, es, h, A => absurd h Bool.false_ne_true
  | .slot _, c, X, es, h, A => absurd h Bool.false_ne_true
  | .int _, c, X, es, h, A => absurd h Bool.false_ne_true
  | .bool _, c, X, es, h, A => absurd h Bool.false_ne_true
  | .none, c, X, es, h, A => absurd h Bool.false_ne_true
  | .str _, c, X, es, h, A => absurd h Bool.false_ne_true
  | .con _, c, X, es, h, A => absurd h Bool.false_ne_true
  | .tup _, c, X, es, h, A => absurd h Bool.false_ne_true
  | .lst _ _, c, X, es, h, A => absurd h Bool.false_ne_true
  | .bin _ _ _, c, X, es, h, A => absurd h Bool.false_ne_true
  | .neg _, c, X, es, h, A => absurd h Bool.false_ne_true
  | .not _, c, X, es, h, A => absurd h Bool.false_ne_true
  | .and _ _, c, X, es, h, A => absurd h Bool.false_ne_true
  | .or _ _, c, X, es, h, A => absurd h Bool.false_ne_true
  | .cmp _ _ _, c, X, es, h, A => absurd h Bool.false_ne_true
  | .cmpS _ _ _, c, X, es, h, A => absurd h Bool.false_ne_true
  | .cmpSl _ _ _, c, X, es, h, A => absurd h Bool.false_ne_true
  | .chain _ _ _ _ _, c, X, es, h, A => absurd h Bool.false_ne_true
  | .ite _ _ _, c, X, es, h, A => absurd h Bool.false_ne_true
  | .idx _ _, c, X, es, h, A => absurd h Bool.false_ne_true
  | .idxS _ _, c, X, es, h, A => absurd h Bool.false_ne_true
  | .idx2S _ _ _, c, X, es, h, A => absurd h Bool.false_ne_true
  | .slc _ _ _, c, X, es, h, A => absurd h Bool.false_ne_true
  | .slcS _ _ _, c, X, es, h, A => absurd h Bool.false_ne_true
  | .slc2S _ _ _ _, c, X, es, h, A => absurd h Bool.false_ne_true
  | .rev _, c, X, es, h, A => absurd h Bool.false_ne_true
  | .revS _, c, X, es, h, A => absurd h Bool.false_ne_true
  | .fn _ _, c, X, es, h, A => absurd h Bool.false_ne_true
  | .fnS _ _, c, X, es, h, A => absurd h Bool.false_ne_true
  | .lset _, c, X, es, h, A => absurd h Bool.false_ne_true
  | .isT _ _, c, X, es, h, A => absurd h Bool.false_ne_true
  | .get _ _ _, c, X, es, h, A => absurd h Bool.false_ne_true
  | .getS _ _ _, c, X, es, h, A => absurd h Bool.false_ne_true
  | .popS _ _, c, X, es, h, A => absurd h Bool.false_ne_true
  | .call _ _, c, X, es, h, A => absurd h Bool.false_ne_true
  | .bor _, c, X, es, h, A => absurd h Bool.false_ne_true
  | .lend _, c, X, es, h, A => absurd h Bool.false_ne_true
  | .lc _ _ _ _ _ _, c, X, es, h, A => absurd h Bool.false_ne_true
  | .lc2 _ _ _ _ _ _ _ _ _, c, X, es, h, A => absurd h Bool.false_ne_true
  | .dead, c, X, es, h, A => absurd h Bool.false_ne_true
  | .dsp _ _, c, X, es, h, A => absurd h Bool.false_ne_true
  | .dnil, c, X, es, h, A => absurd h Bool.false_ne_true
  | .dc _ _ _ _ _ _ _, c, X, es, h, A => absurd h Bool.false_ne_true
  | .itv _, c, X, es, h, A => absurd h Bool.false_ne_true
  | .its _, c, X, es, h, A => absurd h Bool.false_ne_true
  | .rng _, c, X, es, h, A => absurd h Bool.false_ne_true
  | .rng2 _ _, c, X, es, h, A => absurd h Bool.false_ne_true
  | .enm _, c, X, es, h, A => absurd h Bool.false_ne_true
  | .enmS _, c, X, es, h, A => absurd h Bool.false_ne_true
  | .zp _ _, c, X, es, h, A => absurd h Bool.false_ne_true
  | .items _, c, X, es, h, A => absurd h Bool.false_ne_true
  | .itemsS _, c, X, es, h, A => absurd h Bool.false_ne_true
  | .vals _, c, X, es, h, A => absurd h Bool.false_ne_true
  | .valsS _, c, X, es, h, A => absurd h Bool.false_ne_true
theorem sA : ∀ (e : E) (c : Sc) (X : Cx) (es : List Expr), trA Y N c e es = true → At Y N c k X → PA X es (tA (ctx Y.T k noX) X.w e)
  | .nil, c, X, es, h, A => by
    cases es with
    | nil => exact a_nil
    | cons => exact absurd h Bool.false_ne_true
  | .cons (.bor i) r, c, X, es, h, A => by
    cases es with
    | nil => exact absurd h Bool.false_ne_true
    | cons x es => cases x with
      | Name x p =>
        obtain ⟨h1, h2⟩ := and2 (show (nmOk N c i x && trA Y N c r es) = true from h)
        exact a_bor A h1 (sA r c X es h2 A)
      | _ =>
        obtain ⟨h1, h2⟩ := and2 (show ((_ && trE Y N c (.bor i) _) && trA Y N c r es) = true from h)
        obtain ⟨h3, h4⟩ := and2 h1
        exact absurd h4 Bool.false_ne_true
  | .cons (.lend i) r, c, X, es, h, A => by
    cases es with
    | nil => exact absurd h Bool.false_ne_true
    | cons x es => cases x with
      | Name x p =>
        obtain ⟨h1, h2⟩ := and2 (show (nmOk N c i x && trA Y N c r es) = true from h)
        exact a_lend A h1 (sA r c X es h2 A)
      | _ =>
        obtain ⟨h1, h2⟩ := and2 (show ((_ && trE Y N c (.lend i) _) && trA Y N c r es) = true from h)
        obtain ⟨h3, h4⟩ := and2 h1
        exact absurd h4 Bool.false_ne_true
  | .cons (.nil) r, c, X, es, h, A => by
    cases es with
    | nil => exact absurd h Bool.false_ne_true
    | cons x es =>
      obtain ⟨h1, h2⟩ := and2 (show ((noStar x && trE Y N c (.nil) x) && trA Y N c r es) = true from h)
      obtain ⟨h3, h4⟩ := and2 h1
      exact a_val (fun _ => nofun) (fun _ => nofun) (sE (.nil) c X x h4 A).pe (sA r c X es h2 A) h3
  | .cons (.cons u0 u1) r, c, X, es, h, A => by
    cases es with
    | nil => exact absurd h Bool.false_ne_true
    | cons x es =>
      obtain ⟨h1, h2⟩ := and2 (show ((noStar x && trE Y N c (.cons u0 u1) x) && trA Y N c r es) = true from h)
      obtain ⟨h3, h4⟩ := and2 h1
      exact a_val (fun _ => nofun) (fun _ => nofun) (sE (.cons u0 u1) c X x h4 A).pe (sA r c X es h2 A) h3
  | .cons (.slot u0) r, c, X, es, h, A => by
    cases es with
    | nil => exact absurd h Bool.false_ne_true
    | cons x es =>
      obtain ⟨h1, h2⟩ := and2 (show ((noStar x && trE Y N c (.slot u0) x) && trA Y N c r es) = true from h)
      obtain ⟨h3, h4⟩ := and2 h1
      exact a_val (fun _ => nofun) (fun _ => nofun) (sE (.slot u0) c X x h4 A).pe (sA r c X es h2 A) h3
  | .cons (.int u0) r, c, X, es, h, A => by
    cases es with
    | nil => exact absurd h Bool.false_ne_true
    | cons x es =>
      obtain ⟨h1, h2⟩ := and2 (show ((noStar x && trE Y N c (.int u0) x) && trA Y N c r es) = true from h)
      obtain ⟨h3, h4⟩ := and2 h1
      exact a_val (fun _ => nofun) (fun _ => nofun) (sE (.int u0) c X x h4 A).pe (sA r c X es h2 A) h3
  | .cons (.bool u0) r, c, X, es, h, A => by
    cases es with
    | nil => exact absurd h Bool.false_ne_true
    | cons x es =>
      obtain ⟨h1, h2⟩ := and2 (show ((noStar x && trE Y N c (.bool u0) x) && trA Y N c r es) = true from h)
      obtain ⟨h3, h4⟩ := and2 h1
      exact a_val (fun _ => nofun) (fun _ => nofun) (sE (.bool u0) c X x h4 A).pe (sA r c X es h2 A) h3
  | .cons (.none) r, c, X, es, h, A => by
    cases es with
    | nil => exact absurd h Bool.false_ne_true
    | cons x es =>
      obtain ⟨h1, h2⟩ := and2 (show ((noStar x && trE Y N c (.none) x) && trA Y N c r es) = true from h)
      obtain ⟨h3, h4⟩ := and2 h1
      exact a_val (fun _ => nofun) (fun _ => nofun) (sE (.none) c X x h4 A).pe (sA r c X es h2 A) h3
  | .cons (.str u0) r, c, X, es, h, A => by
    cases es with
    | nil => exact absurd h Bool.false_ne_true
    | cons x es =>
      obtain ⟨h1, h2⟩ := and2 (show ((noStar x && trE Y N c (.str u0) x) && trA Y N c r es) = true from h)
      obtain ⟨h3, h4⟩ := and2 h1
      exact a_val (fun _ => nofun) (fun _ => nofun) (sE (.str u0) c X x h4 A).pe (sA r c X es h2 A) h3
  | .cons (.con u0) r, c, X, es, h, A => by
    cases es with
    | nil => exact absurd h Bool.false_ne_true
    | cons x es =>
      obtain ⟨h1, h2⟩ := and2 (show ((noStar x && trE Y N c (.con u0) x) && trA Y N c r es) = true from h)
      obtain ⟨h3, h4⟩ := and2 h1
      exact a_val (fun _ => nofun) (fun _ => nofun) (sE (.con u0) c X x h4 A).pe (sA r c X es h2 A) h3
  | .cons (.tup u0) r, c, X, es, h, A => by
    cases es with
    | nil => exact absurd h Bool.false_ne_true
    | cons x es =>
      obtain ⟨h1, h2⟩ := and2 (show ((noStar x && trE Y N c (.tup u0) x) && trA Y N c r es) = true from h)
      obtain ⟨h3, h4⟩ := and2 h1
      exact a_val (fun _ => nofun) (fun _ => nofun) (sE (.tup u0) c X x h4 A).pe (sA r c X es h2 A) h3
  | .cons (.lst u0 u1) r, c, X, es, h, A => by
    cases es with
    | nil => exact absurd h Bool.false_ne_true
    | cons x es =>
      obtain ⟨h1, h2⟩ := and2 (show ((noStar x && trE Y N c (.lst u0 u1) x) && trA Y N c r es) = true from h)
      obtain ⟨h3, h4⟩ := and2 h1
      exact a_val (fun _ => nofun) (fun _ => nofun) (sE (.lst u0 u1) c X x h4 A).pe (sA r c X es h2 A) h3
  | .cons (.bin u0 u1 u2) r, c, X, es, h, A => by
    cases es with
    | nil => exact absurd h Bool.false_ne_true
    | cons x es =>
      obtain ⟨h1, h2⟩ := and2 (show ((noStar x && trE Y N c (.bin u0 u1 u2) x) && trA Y N c r es) = true from h)
      obtain ⟨h3, h4⟩ := and2 h1
      exact a_val (fun _ => nofun) (fun _ => nofun) (sE (.bin u0 u1 u2) c X x h4 A).pe (sA r c X es h2 A) h3
  | .cons (.neg u0) r, c, X, es, h, A => by
    cases es with
    | nil => exact absurd h Bool.false_ne_true
    | cons x es =>
      obtain ⟨h1, h2⟩ := and2 (show ((noStar x && trE Y N c (.neg u0) x) && trA Y N c r es) = true from h)
      obtain ⟨h3, h4⟩ := and2 h1
      exact a_val (fun _ => nofun) (fun _ => nofun) (sE (.neg u0) c X x h4 A).pe (sA r c X es h2 A) h3
  | .cons (.not u0) r, c, X, es, h, A => by
    cases es with
    | nil => exact absurd h Bool.false_ne_true
    | cons x es =>
      obtain ⟨h1, h2⟩ := and2 (show ((noStar x && trE Y N c (.not u0) x) && trA Y N c r es) = true from h)
      obtain ⟨h3, h4⟩ := and2 h1
      exact a_val (fun _ => nofun) (fun _ => nofun) (sE (.not u0) c X x h4 A).pe (sA r c X es h2 A) h3
  | .cons (.and u0 u1) r, c, X, es, h, A => by
    cases es with
    | nil => exact absurd h Bool.false_ne_true
    | cons x es =>
      obtain ⟨h1, h2⟩ := and2 (show ((noStar x && trE Y N c (.and u0 u1) x) && trA Y N c r es) = true from h)
      obtain ⟨h3, h4⟩ := and2 h1
      exact a_val (fun _ => nofun) (fun _ => nofun) (sE (.and u0 u1) c X x h4 A).pe (sA r c X es h2 A) h3
  | .cons (.or u0 u1) r, c, X, es, h, A => by
    cases es with
    | nil => exact absurd h Bool.false_ne_true
    | cons x es =>
      obtain ⟨h1, h2⟩ := and2 (show ((noStar x && trE Y N c (.or u0 u1) x) && trA Y N c r es) = true from h)
      obtain ⟨h3, h4⟩ := and2 h1
      exact a_val (fun _ => nofun) (fun _ => nofun) (sE (.or u0 u1) c X x h4 A).pe (sA r c X es h2 A) h3
  | .cons (.cmp u0 u1 u2) r, c, X, es, h, A => by
    cases es with
    | nil => exact absurd h Bool.false_ne_true
    | cons x es =>
      obtain ⟨h1, h2⟩ := and2 (show ((noStar x && trE Y N c (.cmp u0 u1 u2) x) && trA Y N c r es) = true from h)
      obtain ⟨h3, h4⟩ := and2 h1
      exact a_val (fun _ => nofun) (fun _ => nofun) (sE (.cmp u0 u1 u2) c X x h4 A).pe (sA r c X es h2 A) h3
  | .cons (.cmpS u0 u1 u2) r, c, X, es, h, A => by
    cases es with
    | nil => exact absurd h Bool.false_ne_true
    | cons x es =>
      obtain ⟨h1, h2⟩ := and2 (show ((noStar x && trE Y N c (.cmpS u0 u1 u2) x) && trA Y N c r es) = true from h)
      obtain ⟨h3, h4⟩ := and2 h1
      exact a_val (fun _ => nofun) (fun _ => nofun) (sE (.cmpS u0 u1 u2) c X x h4 A).pe (sA r c X es h2 A) h3
  | .cons (.cmpSl u0 u1 u2) r, c, X, es, h, A => by
    cases es with
    | nil => exact absurd h Bool.false_ne_true
    | cons x es =>
      obtain ⟨h1, h2⟩ := and2 (show ((noStar x && trE Y N c (.cmpSl u0 u1 u2) x) && trA Y N c r es) = true from h)
      obtain ⟨h3, h4⟩ := and2 h1
      exact a_val (fun _ => nofun) (fun _ => nofun) (sE (.cmpSl u0 u1 u2) c X x h4 A).pe (sA r c X es h2 A) h3
  | .cons (.chain u0 u1 u2 u3 u4) r, c, X, es, h, A => by
    cases es with
    | nil => exact absurd h Bool.false_ne_true
    | cons x es =>
      obtain ⟨h1, h2⟩ := and2 (show ((noStar x && trE Y N c (.chain u0 u1 u2 u3 u4) x) && trA Y N c r es) = true from h)
      obtain ⟨h3, h4⟩ := and2 h1
      exact a_val (fun _ => nofun) (fun _ => nofun) (sE (.chain u0 u1 u2 u3 u4) c X x h4 A).pe (sA r c X es h2 A) h3
  | .cons (.ite u0 u1 u2) r, c, X, es, h, A => by
    cases es with
    | nil => exact absurd h Bool.false_ne_true
    | cons x es =>
      obtain ⟨h1, h2⟩ := and2 (show ((noStar x && trE Y N c (.ite u0 u1 u2) x) && trA Y N c r es) = true from h)
      obtain ⟨h3, h4⟩ := and2 h1
      exact a_val (fun _ => nofun) (fun _ => nofun) (sE (.ite u0 u1 u2) c X x h4 A).pe (sA r c X es h2 A) h3
  | .cons (.idx u0 u1) r, c, X, es, h, A => by
    cases es with
    | nil => exact absurd h Bool.false_ne_true
    | cons x es =>
      obtain ⟨h1, h2⟩ := and2 (show ((noStar x && trE Y N c (.idx u0 u1) x) && trA Y N c r es) = true from h)
      obtain ⟨h3, h4⟩ := and2 h1
      exact a_val (fun _ => nofun) (fun _ => nofun) (sE (.idx u0 u1) c X x h4 A).pe (sA r c X es h2 A) h3
  | .cons (.idxS u0 u1) r, c, X, es, h, A => by
    cases es with
    | nil => exact absurd h Bool.false_ne_true
    | cons x es =>
      obtain ⟨h1, h2⟩ := and2 (show ((noStar x && trE Y N c (.idxS u0 u1) x) && trA Y N c r es) = true from h)
      obtain ⟨h3, h4⟩ := and2 h1
      exact a_val (fun _ => nofun) (fun _ => nofun) (sE (.idxS u0 u1) c X x h4 A).pe (sA r c X es h2 A) h3
  | .cons (.idx2S u0 u1 u2) r, c, X, es, h, A => by
    cases es with
    | nil => exact absurd h Bool.false_ne_true
    | cons x es =>
      obtain ⟨h1, h2⟩ := and2 (show ((noStar x && trE Y N c (.idx2S u0 u1 u2) x) && trA Y N c r es) = true from h)
      obtain ⟨h3, h4⟩ := and2 h1
      exact a_val (fun _ => nofun) (fun _ => nofun) (sE (.idx2S u0 u1 u2) c X x h4 A).pe (sA r c X es h2 A) h3
  | .cons (.slc u0 u1 u2) r, c, X, es, h, A => by
    cases es with
    | nil => exact absurd h Bool.false_ne_true
    | cons x es =>
      obtain ⟨h1, h2⟩ := and2 (show ((noStar x && trE Y N c (.slc u0 u1 u2) x) && trA Y N c r es) = true from h)
      obtain ⟨h3, h4⟩ := and2 h1
      exact a_val (fun _ => nofun) (fun _ => nofun) (sE (.slc u0 u1 u2) c X x h4 A).pe (sA r c X es h2 A) h3
  | .cons (.slcS u0 u1 u2) r, c, X, es, h, A => by
    cases es with
    | nil => exact absurd h Bool.false_ne_true
    | cons x es =>
      obtain ⟨h1, h2⟩ := and2 (show ((noStar x && trE Y N c (.slcS u0 u1 u2) x) && trA Y N c r es) = true from h)
      obtain ⟨h3, h4⟩ := and2 h1
      exact a_val (fun _ => nofun) (fun _ => nofun) (sE (.slcS u0 u1 u2) c X x h4 A).pe (sA r c X es h2 A) h3
  | .cons (.slc2S u0 u1 u2 u3) r, c, X, es, h, A => by
    cases es with
    | nil => exact absurd h Bool.false_ne_true
    | cons x es =>
      obtain ⟨h1, h2⟩ := and2 (show ((noStar x && trE Y N c (.slc2S u0 u1 u2 u3) x) && trA Y N c r es) = true from h)
      obtain ⟨h3, h4⟩ := and2 h1
      exact a_val (fun _ => nofun) (fun _ => nofun) (sE (.slc2S u0 u1 u2 u3) c X x h4 A).pe (sA r c X es h2 A) h3
  | .cons (.rev u0) r, c, X, es, h, A => by
    cases es with
    | nil => exact absurd h Bool.false_ne_true
    | cons x es =>
      obtain ⟨h1, h2⟩ := and2 (show ((noStar x && trE Y N c (.rev u0) x) && trA Y N c r es) = true from h)
      obtain ⟨h3, h4⟩ := and2 h1
      exact a_val (fun _ => nofun) (fun _ => nofun) (sE (.rev u0) c X x h4 A).pe (sA r c X es h2 A) h3
  | .cons (.revS u0) r, c, X, es, h, A => by
    cases es with
    | nil => exact absurd h Bool.false_ne_true
    | cons x es =>
      obtain ⟨h1, h2⟩ := and2 (show ((noStar x && trE Y N c (.revS u0) x) && trA Y N c r es) = true from h)
      obtain ⟨h3, h4⟩ := and2 h1
      exact a_val (fun _ => nofun) (fun _ => nofun) (sE (.revS u0) c X x h4 A).pe (sA r c X es h2 A) h3
  | .cons (.fn u0 u1) r, c, X, es, h, A => by
    cases es with
    | nil => exact absurd h Bool.false_ne_true
    | cons x es =>
      obtain ⟨h1, h2⟩ := and2 (show ((noStar x && trE Y N c (.fn u0 u1) x) && trA Y N c r es) = true from h)
      obtain ⟨h3, h4⟩ := and2 h1
      exact a_val (fun _ => nofun) (fun _ => nofun) (sE (.fn u0 u1) c X x h4 A).pe (sA r c X es h2 A) h3
  | .cons (.fnS u0 u1) r, c, X, es, h, A => by
    cases es with
    | nil => exact absurd h Bool.false_ne_true
    | cons x es =>
      obtain ⟨h1, h2⟩ := and2 (show ((noStar x && trE Y N c (.fnS u0 u1) x) && trA Y N c r es) = true from h)
      obtain ⟨h3, h4⟩ := and2 h1
      exact a_val (fun _ => nofun) (fun _ => nofun) (sE (.fnS u0 u1) c X x h4 A).pe (sA r c X es h2 A) h3
  | .cons (.lset u0) r, c, X, es, h, A => by
    cases es with
    | nil => exact absurd h Bool.false_ne_true
    | cons x es =>
      obtain ⟨h1, h2⟩ := and2 (show ((noStar x && trE Y N c (.lset u0) x) && trA Y N c r es) = true from h)
      obtain ⟨h3, h4⟩ := and2 h1
      exact a_val (fun _ => nofun) (fun _ => nofun) (sE (.lset u0) c X x h4 A).pe (sA r c X es h2 A) h3
  | .cons (.isT u0 u1) r, c, X, es, h, A => by
    cases es with
    | nil => exact absurd h Bool.false_ne_true
    | cons x es =>
      obtain ⟨h1, h2⟩ := and2 (show ((noStar x && trE Y N c (.isT u0 u1) x) && trA Y N c r es) = true from h)
      obtain ⟨h3, h4⟩ := and2 h1
      exact a_val (fun _ => nofun) (fun _ => nofun) (sE (.isT u0 u1) c X x h4 A).pe (sA r c X es h2 A) h3
  | .cons (.get u0 u1 u2) r, c, X, es, h, A => by
    cases es with
    | nil => exact absurd h Bool.false_ne_true
    | cons x es =>
      obtain ⟨h1, h2⟩ := and2 (show ((noStar x && trE Y N c (.get u0 u1 u2) x) && trA Y N c r es) = true from h)
      obtain ⟨h3, h4⟩ := and2 h1
      exact a_val (fun _ => nofun) (fun _ => nofun) (sE (.get u0 u1 u2) c X x h4 A).pe (sA r c X es h2 A) h3
  | .cons (.getS u0 u1 u2) r, c, X, es, h, A => by
    cases es with
    | nil => exact absurd h Bool.false_ne_true
    | cons x es =>
      obtain ⟨h1, h2⟩ := and2 (show ((noStar x && trE Y N c (.getS u0 u1 u2) x) && trA Y N c r es) = true from h)
      obtain ⟨h3, h4⟩ := and2 h1
      exact a_val (fun _ => nofun) (fun _ => nofun) (sE (.getS u0 u1 u2) c X x h4 A).pe (sA r c X es h2 A) h3
  | .cons (.popS u0 u1) r, c, X, es, h, A => by
    cases es with
    | nil => exact absurd h Bool.false_ne_true
    | cons x es =>
      obtain ⟨h1, h2⟩ := and2 (show ((noStar x && trE Y N c (.popS u0 u1) x) && trA Y N c r es) = true from h)
      obtain ⟨h3, h4⟩ := and2 h1
      exact a_val (fun _ => nofun) (fun _ => nofun) (sE (.popS u0 u1) c X x h4 A).pe (sA r c X es h2 A) h3
  | .cons (.call u0 u1) r, c, X, es, h, A => by
    cases es with
    | nil => exact absurd h Bool.false_ne_true
    | cons x es =>
      obtain ⟨h1, h2⟩ := and2 (show ((noStar x && trE Y N c (.call u0 u1) x) && trA Y N c r es) = true from h)
      obtain ⟨h3, h4⟩ := and2 h1
      exact a_val (fun _ => nofun) (fun _ => nofun) (sE (.call u0 u1) c X x h4 A).pe (sA r c X es h2 A) h3
  | .cons (.lc u0 u1 u2 u3 u4 u5) r, c, X, es, h, A => by
    cases es with
    | nil => exact absurd h Bool.false_ne_true
    | cons x es =>
      obtain ⟨h1, h2⟩ := and2 (show ((noStar x && trE Y N c (.lc u0 u1 u2 u3 u4 u5) x) && trA Y N c r es) = true from h)
      obtain ⟨h3, h4⟩ := and2 h1
      exact a_val (fun _ => nofun) (fun _ => nofun) (sE (.lc u0 u1 u2 u3 u4 u5) c X x h4 A).pe (sA r c X es h2 A) h3
  | .cons (.lc2 u0 u1 u2 u3 u4 u5 u6 u7 u8) r, c, X, es, h, A => by
    cases es with
    | nil => exact absurd h Bool.false_ne_true
    | cons x es =>
      obtain ⟨h1, h2⟩ := and2 (show ((noStar x && trE Y N c (.lc2 u0 u1 u2 u3 u4 u5 u6 u7 u8) x) && trA Y N c r es) = true from h)
      obtain ⟨h3, h4⟩ := and2 h1
      exact a_val (fun _ => nofun) (fun _ => nofun) (sE (.lc2 u0 u1 u2 u3 u4 u5 u6 u7 u8) c X x h4 A).pe (sA r c X es h2 A) h3
  | .cons (.dead) r, c, X, es, h, A => by
    cases es with
    | nil => exact absurd h Bool.false_ne_true
    | cons x es =>
      obtain ⟨h1, h2⟩ := and2 (show ((noStar x && trE Y N c (.dead) x) && trA Y N c r es) = true from h)
      obtain ⟨h3, h4⟩ := and2 h1
      exact a_val (fun _ => nofun) (fun _ => nofun) (sE (.dead) c X x h4 A).pe (sA r c X es h2 A) h3
  | .cons (.dsp u0 u1) r, c, X, es, h, A => by
    cases es with
    | nil => exact absurd h Bool.false_ne_true
    | cons x es =>
      obtain ⟨h1, h2⟩ := and2 (show ((noStar x && trE Y N c (.dsp u0 u1) x) && trA Y N c r es) = true from h)
      obtain ⟨h3, h4⟩ := and2 h1
      exact a_val (fun _ => nofun) (fun _ => nofun) (sE (.dsp u0 u1) c X x h4 A).pe (sA r c X es h2 A) h3
  | .cons (.dnil) r, c, X, es, h, A => by
    cases es with
    | nil => exact absurd h Bool.false_ne_true
    | cons x es =>
      obtain ⟨h1, h2⟩ := and2 (show ((noStar x && trE Y N c (.dnil) x) && trA Y N c r es) = true from h)
      obtain ⟨h3, h4⟩ := and2 h1
      exact a_val (fun _ => nofun) (fun _ => nofun) (sE (.dnil) c X x h4 A).pe (sA r c X es h2 A) h3
  | .cons (.dc u0 u1 u2 u3 u4 u5 u6) r, c, X, es, h, A => by
    cases es with
    | nil => exact absurd h Bool.false_ne_true
    | cons x es =>
      obtain ⟨h1, h2⟩ := and2 (show ((noStar x && trE Y N c (.dc u0 u1 u2 u3 u4 u5 u6) x) && trA Y N c r es) = true from h)
      obtain ⟨h3, h4⟩ := and2 h1
      exact a_val (fun _ => nofun) (fun _ => nofun) (sE (.dc u0 u1 u2 u3 u4 u5 u6) c X x h4 A).pe (sA r c X es h2 A) h3
  | .cons (.itv u0) r, c, X, es, h, A => by
    cases es with
    | nil => exact absurd h Bool.false_ne_true
    | cons x es =>
      obtain ⟨h1, h2⟩ := and2 (show ((noStar x && trE Y N c (.itv u0) x) && trA Y N c r es) = true from h)
      obtain ⟨h3, h4⟩ := and2 h1
      exact a_val (fun _ => nofun) (fun _ => nofun) (sE (.itv u0) c X x h4 A).pe (sA r c X es h2 A) h3
  | .cons (.its u0) r, c, X, es, h, A => by
    cases es with
    | nil => exact absurd h Bool.false_ne_true
    | cons x es =>
      obtain ⟨h1, h2⟩ := and2 (show ((noStar x && trE Y N c (.its u0) x) && trA Y N c r es) = true from h)
      obtain ⟨h3, h4⟩ := and2 h1
      exact a_val (fun _ => nofun) (fun _ => nofun) (sE (.its u0) c X x h4 A).pe (sA r c X es h2 A) h3
  | .cons (.rng u0) r, c, X, es, h, A => by
    cases es with
    | nil => exact absurd h Bool.false_ne_true
    | cons x es =>
      obtain ⟨h1, h2⟩ := and2 (show ((noStar x && trE Y N c (.rng u0) x) && trA Y N c r es) = true from h)
      obtain ⟨h3, h4⟩ := and2 h1
      exact a_val (fun _ => nofun) (fun _ => nofun) (sE (.rng u0) c X x h4 A).pe (sA r c X es h2 A) h3
  | .cons (.rng2 u0 u1) r, c, X, es, h, A => by
    cases es with
    | nil => exact absurd h Bool.false_ne_true
    | cons x es =>
      obtain ⟨h1, h2⟩ := and2 (show ((noStar x && trE Y N c (.rng2 u0 u1) x) && trA Y N c r es) = true from h)
      obtain ⟨h3, h4⟩ := and2 h1
      exact a_val (fun _ => nofun) (fun _ => nofun) (sE (.rng2 u0 u1) c X x h4 A).pe (sA r c X es h2 A) h3
  | .cons (.enm u0) r, c, X, es, h, A => by
    cases es with
    | nil => exact absurd h Bool.false_ne_true
    | cons x es =>
      obtain ⟨h1, h2⟩ := and2 (show ((noStar x && trE Y N c (.enm u0) x) && trA Y N c r es) = true from h)
      obtain ⟨h3, h4⟩ := and2 h1
      exact a_val (fun _ => nofun) (fun _ => nofun) (sE (.enm u0) c X x h4 A).pe (sA r c X es h2 A) h3
  | .cons (.enmS u0) r, c, X, es, h, A => by
    cases es with
    | nil => exact absurd h Bool.false_ne_true
    | cons x es =>
      obtain ⟨h1, h2⟩ := and2 (show ((noStar x && trE Y N c (.enmS u0) x) && trA Y N c r es) = true from h)
      obtain ⟨h3, h4⟩ := and2 h1
      exact a_val (fun _ => nofun) (fun _ => nofun) (sE (.enmS u0) c X x h4 A).pe (sA r c X es h2 A) h3
  | .cons (.zp u0 u1) r, c, X, es, h, A => by
    cases es with
    | nil => exact absurd h Bool.false_ne_true
    | cons x es =>
      obtain ⟨h1, h2⟩ := and2 (show ((noStar x && trE Y N c (.zp u0 u1) x) && trA Y N c r es) = true from h)
      obtain ⟨h3, h4⟩ := and2 h1
      exact a_val (fun _ => nofun) (fun _ => nofun) (sE (.zp u0 u1) c X x h4 A).pe (sA r c X es h2 A) h3
  | .cons (.items u0) r, c, X, es, h, A => by
    cases es with
    | nil => exact absurd h Bool.false_ne_true
    | cons x es =>
      obtain ⟨h1, h2⟩ := and2 (show ((noStar x && trE Y N c (.items u0) x) && trA Y N c r es) = true from h)
      obtain ⟨h3, h4⟩ := and2 h1
      exact a_val (fun _ => nofun) (fun _ => nofun) (sE (.items u0) c X x h4 A).pe (sA r c X es h2 A) h3
  | .cons (.itemsS u0) r, c, X, es, h, A => by
    cases es with
    | nil => exact absurd h Bool.false_ne_true
    | cons x es =>
      obtain ⟨h1, h2⟩ := and2 (show ((noStar x && trE Y N c (.itemsS u0) x) && trA Y N c r es) = true from h)
      obtain ⟨h3, h4⟩ := and2 h1
      exact a_val (fun _ => nofun) (fun _ => nofun) (sE (.itemsS u0) c X x h4 A).pe (sA r c X es h2 A) h3
  | .cons (.vals u0) r, c, X, es, h, A => by
    cases es with
    | nil => exact absurd h Bool.false_ne_true
    | cons x es =>
      obtain ⟨h1, h2⟩ := and2 (show ((noStar x && trE Y N c (.vals u0) x) && trA Y N c r es) = true from h)
      obtain ⟨h3, h4⟩ := and2 h1
      exact a_val (fun _ => nofun) (fun _ => nofun) (sE (.vals u0) c X x h4 A).pe (sA r c X es h2 A) h3
  | .cons (.valsS u0) r, c, X, es, h, A => by
    cases es with
    | nil => exact absurd h Bool.false_ne_true
    | cons x es =>
      obtain ⟨h1, h2⟩ := and2 (show ((noStar x && trE Y N c (.valsS u0) x) && trA Y N c r es) = true from h)
      obtain ⟨h3, h4⟩ := and2 h1
      exact a_val (fun _ => nofun) (fun _ => nofun) (sE (.valsS u0) c X x h4 A).pe (sA r c X es h2 A) h3
  | .slot _, c, X, es, h, A => absurd h Bool.false_ne_true
  | .int _, c, X, es, h, A => absurd h Bool.false_ne_true
  | .bool _, c, X, es, h, A => absurd h Bool.false_ne_true
  | .none, c, X, es, h, A => absurd h Bool.false_ne_true
  | .str _, c, X, es, h, A => absurd h Bool.false_ne_true
  | .con _, c, X, es, h, A => absurd h Bool.false_ne_true
  | .tup _, c, X, es, h, A => absurd h Bool.false_ne_true
  | .lst _ _, c, X, es, h, A => absurd h Bool.false_ne_true
  | .bin _ _ _, c, X, es, h, A => absurd h Bool.false_ne_true
  | .neg _, c, X, es, h, A => absurd h Bool.false_ne_true
  | .not _, c, X, es, h, A => absurd h Bool.false_ne_true
  | .and _ _, c, X, es, h, A => absurd h Bool.false_ne_true
  | .or _ _, c, X, es, h, A => absurd h Bool.false_ne_true
  | .cmp _ _ _, c, X, es, h, A => absurd h Bool.false_ne_true
  | .cmpS _ _ _, c, X, es, h, A => absurd h Bool.false_ne_true
  | .cmpSl _ _ _, c, X, es, h, A => absurd h Bool.false_ne_true
  | .chain _ _ _ _ _, c, X, es, h, A => absurd h Bool.false_ne_true
  | .ite _ _ _, c, X, es, h, A => absurd h Bool.false_ne_true
  | .idx _ _, c, X, es, h, A => absurd h Bool.false_ne_true
  | .idxS _ _, c, X, es, h, A => absurd h Bool.false_ne_true
  | .idx2S _ _ _, c, X, es, h, A => absurd h Bool.false_ne_true
  | .slc _ _ _, c, X, es, h, A => absurd h Bool.false_ne_true
  | .slcS _ _ _, c, X, es, h, A => absurd h Bool.false_ne_true
  | .slc2S _ _ _ _, c, X, es, h, A => absurd h Bool.false_ne_true
  | .rev _, c, X, es, h, A => absurd h Bool.false_ne_true
  | .revS _, c, X, es, h, A => absurd h Bool.false_ne_true
  | .fn _ _, c, X, es, h, A => absurd h Bool.false_ne_true
  | .fnS _ _, c, X, es, h, A => absurd h Bool.false_ne_true
  | .lset _, c, X, es, h, A => absurd h Bool.false_ne_true
  | .isT _ _, c, X, es, h, A => absurd h Bool.false_ne_true
  | .get _ _ _, c, X, es, h, A => absurd h Bool.false_ne_true
  | .getS _ _ _, c, X, es, h, A => absurd h Bool.false_ne_true
  | .popS _ _, c, X, es, h, A => absurd h Bool.false_ne_true
  | .call _ _, c, X, es, h, A => absurd h Bool.false_ne_true
  | .bor _, c, X, es, h, A => absurd h Bool.false_ne_true
  | .lend _, c, X, es, h, A => absurd h Bool.false_ne_true
  | .lc _ _ _ _ _ _, c, X, es, h, A => absurd h Bool.false_ne_true
  | .lc2 _ _ _ _ _ _ _ _ _, c, X, es, h, A => absurd h Bool.false_ne_true
  | .dead, c, X, es, h, A => absurd h Bool.false_ne_true
  | .dsp _ _, c, X, es, h, A => absurd h Bool.false_ne_true
  | .dnil, c, X, es, h, A => absurd h Bool.false_ne_true
  | .dc _ _ _ _ _ _ _, c, X, es, h, A => absurd h Bool.false_ne_true
  | .itv _, c, X, es, h, A => absurd h Bool.false_ne_true
  | .its _, c, X, es, h, A => absurd h Bool.false_ne_true
  | .rng _, c, X, es, h, A => absurd h Bool.false_ne_true
  | .rng2 _ _, c, X, es, h, A => absurd h Bool.false_ne_true
  | .enm _, c, X, es, h, A => absurd h Bool.false_ne_true
  | .enmS _, c, X, es, h, A => absurd h Bool.false_ne_true
  | .zp _ _, c, X, es, h, A => absurd h Bool.false_ne_true
  | .items _, c, X, es, h, A => absurd h Bool.false_ne_true
  | .itemsS _, c, X, es, h, A => absurd h Bool.false_ne_true
  | .vals _, c, X, es, h, A => absurd h Bool.false_ne_true
  | .valsS _, c, X, es, h, A => absurd h Bool.false_ne_true
theorem sI : ∀ (e : E) (c : Sc) (X : Cx) (i t : Expr), trI Y N c e i t = true → At Y N c k X → PI X t i (tI X.w (ctx Y.T k noX) e) ∧ ∀ x, foldedSetIterable i X.env x = pure x
  | .itv a, c, X, i, t, h, A => by
    obtain ⟨h1, h2⟩ := and2 (show (notSet i && trE Y N c a i) = true from h)
    exact ⟨i_itv (sE a c X i h2 A).pe, unfolded_of h1 _⟩
  | .its j, c, X, i, t, h, A => by
    cases i with
    | Name x p => exact ⟨i_its A h, fun _ => rfl⟩
    | _ => exact absurd h Bool.false_ne_true
  | .rng a, c, X, i, t, h, A => by
    cases i with
    | Call fx l kw p =>
      cases fx with
      | Name x q =>
        cases l with
        | nil => exact absurd h Bool.false_ne_true
        | cons y l => cases l with
          | cons => exact absurd h Bool.false_ne_true
          | nil => cases kw with
            | cons => exact absurd h Bool.false_ne_true
            | nil =>
              obtain ⟨h1, h2⟩ := and2 (show ((freeOk Y c x "range" && noStar y) && trE Y N c a y) = true from h)
              obtain ⟨h3, h4⟩ := and2 h1
              exact ⟨i_rng A h3 (sE a c X y h2 A).pe h4, fun _ => rfl⟩
      | _ => exact absurd h Bool.false_ne_true
    | _ => exact absurd h Bool.false_ne_true
  | .rng2 a b, c, X, i, t, h, A => by
    cases i with
    | Call fx l kw p =>
      cases fx with
      | Name x q =>
        cases l with
        | nil => exact absurd h Bool.false_ne_true
        | cons y l => cases l with
          | nil => exact absurd h Bool.false_ne_true
          | cons z l => cases l with
            | cons => exact absurd h Bool.false_ne_true
            | nil => cases kw with
              | cons => exact absurd h Bool.false_ne_true
              | nil =>
                obtain ⟨h1, h2⟩ := and2 (show ((((freeOk Y c x "range" && noStar y) && noStar z) && trE Y N c a y) && trE Y N c b z) = true from h)
                obtain ⟨h1, h3⟩ := and2 h1
                obtain ⟨h1, h4⟩ := and2 h1
                obtain ⟨h1, h5⟩ := and2 h1
                exact ⟨i_rng2 A h1 (sE a c X y h3 A).pe (sE b c X z h2 A).pe h5 h4, fun _ => rfl⟩
      | _ => exact absurd h Bool.false_ne_true
    | _ => exact absurd h Bool.false_ne_true
  | .enm a, c, X, i, t, h, A => by
    cases i with
    | Call fx l kw p =>
      cases fx with
      | Name x q =>
        cases l with
        | nil => exact absurd h Bool.false_ne_true
        | cons y l => cases l with
          | cons => exact absurd h Bool.false_ne_true
          | nil => cases kw with
            | cons => exact absurd h Bool.false_ne_true
            | nil => cases t with
              | Tuple =>
                obtain ⟨h1, h2⟩ := and2 (show ((freeOk Y c x "enumerate" && noStar y) && trE Y N c a y) = true from h)
                obtain ⟨h3, h4⟩ := and2 h1
                exact ⟨i_enm A h3 (sE a c X y h2 A).pe h4, fun _ => rfl⟩
              | _ => exact absurd h Bool.false_ne_true
      | _ => exact absurd h Bool.false_ne_true
    | _ => exact absurd h Bool.false_ne_true
  | .enmS j, c, X, i, t, h, A => by
    cases i with
    | Call fx l kw p =>
      cases fx with
      | Name x q =>
        cases l with
        | nil => exact absurd h Bool.false_ne_true
        | cons y l => cases y with
          | Name y q2 => cases l with
            | cons => exact absurd h Bool.false_ne_true
            | nil => cases kw with
              | cons => exact absurd h Bool.false_ne_true
              | nil => cases t with
                | Tuple =>
                  obtain ⟨h1, h2⟩ := and2 (show (freeOk Y c x "enumerate" && nmOk N c j y) = true from h)
                  exact ⟨i_enmS A h1 h2, fun _ => rfl⟩
                | _ => exact absurd h Bool.false_ne_true
          | _ => exact absurd h Bool.false_ne_true
      | _ => exact absurd h Bool.false_ne_true
    | _ => exact absurd h Bool.false_ne_true
  | .zp a b, c, X, i, t, h, A => by
    cases i with
    | Call fx l kw p =>
      cases fx with
      | Name x q =>
        cases l with
        | nil => exact absurd h Bool.false_ne_true
        | cons y l => cases l with
          | nil => exact absurd h Bool.false_ne_true
          | cons z l => cases l with
            | cons => exact absurd h Bool.false_ne_true
            | nil => cases kw with
              | cons => exact absurd h Bool.false_ne_true
              | nil => cases t with
                | Tuple =>
                  obtain ⟨h1, h2⟩ := and2 (show ((((freeOk Y c x "zip" && noStar y) && noStar z) && trE Y N c a y) && trE Y N c b z) = true from h)
                  obtain ⟨h1, h3⟩ := and2 h1
                  obtain ⟨h1, h4⟩ := and2 h1
                  obtain ⟨h1, h5⟩ := and2 h1
                  exact ⟨i_zp A h1 (sE a c X y h3 A).pe (sE b c X z h2 A).pe h5 h4, fun _ => rfl⟩
                | _ => exact absurd h Bool.false_ne_true
      | _ => exact absurd h Bool.false_ne_true
    | _ => exact absurd h Bool.false_ne_true
  | .nil, c, X, i, t, h, A => absurd h Bool.false_ne_true
  | .cons _ _, c, X, i, t, h, A => absurd h Bool.false_ne_true
  | .slot _, c, X, i, t, h, A => absurd h Bool.false_ne_true
  | .int _, c, X, i, t, h, A => absurd h Bool.false_ne_true
  | .bool _, c, X, i, t, h, A => absurd h Bool.false_ne_true
  | .none, c, X, i, t, h, A => absurd h Bool.false_ne_true
  | .str _, c, X, i, t, h, A => absurd h Bool.false_ne_true
  | .con _, c, X, i, t, h, A => absurd h Bool.false_ne_true
  | .tup _, c, X, i, t, h, A => absurd h Bool.false_ne_true
  | .lst _ _, c, X, i, t, h, A => absurd h Bool.false_ne_true
  | .bin _ _ _, c, X, i, t, h, A => absurd h Bool.false_ne_true
  | .neg _, c, X, i, t, h, A => absurd h Bool.false_ne_true
  | .not _, c, X, i, t, h, A => absurd h Bool.false_ne_true
  | .and _ _, c, X, i, t, h, A => absurd h Bool.false_ne_true
  | .or _ _, c, X, i, t, h, A => absurd h Bool.false_ne_true
  | .cmp _ _ _, c, X, i, t, h, A => absurd h Bool.false_ne_true
  | .cmpS _ _ _, c, X, i, t, h, A => absurd h Bool.false_ne_true
  | .cmpSl _ _ _, c, X, i, t, h, A => absurd h Bool.false_ne_true
  | .chain _ _ _ _ _, c, X, i, t, h, A => absurd h Bool.false_ne_true
  | .ite _ _ _, c, X, i, t, h, A => absurd h Bool.false_ne_true
  | .idx _ _, c, X, i, t, h, A => absurd h Bool.false_ne_true
  | .idxS _ _, c, X, i, t, h, A => absurd h Bool.false_ne_true
  | .idx2S _ _ _, c, X, i, t, h, A => absurd h Bool.false_ne_true
  | .slc _ _ _, c, X, i, t, h, A => absurd h Bool.false_ne_true
  | .slcS _ _ _, c, X, i, t, h, A => absurd h Bool.false_ne_true
  | .slc2S _ _ _ _, c, X, i, t, h, A => absurd h Bool.false_ne_true
  | .rev _, c, X, i, t, h, A => absurd h Bool.false_ne_true
  | .revS _, c, X, i, t, h, A => absurd h Bool.false_ne_true
  | .fn _ _, c, X, i, t, h, A => absurd h Bool.false_ne_true
  | .fnS _ _, c, X, i, t, h, A => absurd h Bool.false_ne_true
  | .lset _, c, X, i, t, h, A => absurd h Bool.false_ne_true
  | .isT _ _, c, X, i, t, h, A => absurd h Bool.false_ne_true
  | .get _ _ _, c, X, i, t, h, A => absurd h Bool.false_ne_true
  | .getS _ _ _, c, X, i, t, h, A => absurd h Bool.false_ne_true
  | .popS _ _, c, X, i, t, h, A => absurd h Bool.false_ne_true
  | .call _ _, c, X, i, t, h, A => absurd h Bool.false_ne_true
  | .bor _, c, X, i, t, h, A => absurd h Bool.false_ne_true
  | .lend _, c, X, i, t, h, A => absurd h Bool.false_ne_true
  | .lc _ _ _ _ _ _, c, X, i, t, h, A => absurd h Bool.false_ne_true
  | .lc2 _ _ _ _ _ _ _ _ _, c, X, i, t, h, A => absurd h Bool.false_ne_true
  | .dead, c, X, i, t, h, A => absurd h Bool.false_ne_true
  | .dsp _ _, c, X, i, t, h, A => absurd h Bool.false_ne_true
  | .dnil, c, X, i, t, h, A => absurd h Bool.false_ne_true
  | .dc _ _ _ _ _ _ _, c, X, i, t, h, A => absurd h Bool.false_ne_true
  | .items _, c, X, i, t, h, A => absurd h Bool.false_ne_true
  | .itemsS _, c, X, i, t, h, A => absurd h Bool.false_ne_true
  | .vals _, c, X, i, t, h, A => absurd h Bool.false_ne_true
  | .valsS _, c, X, i, t, h, A => absurd h Bool.false_ne_true
end
end
end PL
end
section
set_option Elab.async false
set_option linter.all false
set_option maxRecDepth 100000
set_option maxHeartbeats 2000000
/-! PL19: a slot's list changed; statements, rule by rule. -/
namespace PL
open L2 PyProof.Rows PySem.Spec PySem
section
variable {w : World} {c : Fr} {σ : List (Option V)} {ρ ρ' : Env} {τ : List Item} {H H' F F' : Hp} {O : List Addr}
theorem Sta.chg {i : Nat} {s : Slot} {ds : List PyData} {y : V} {d : PyData} {n : Nat} (h : Sta w c σ ρ (τ ++ t1 y d n) H) (es : ρ[i]? = some (some s)) (ed : s.d = .list ds) (hn : 0 < s.n) (ok : okOwn (s.n - 1) n d) :
    ∃ a xs, σ[i]? = some (some (.ref a)) ∧ H a = some (.lst xs) ∧ xs.length = ds.length ∧
      ∀ (xs' : List V) (ds' : List PyData), (∀ (R : V → PyData → List Addr → Prop) (g gy : List Addr), OwAll R xs ds g → R y d gy → ∃ g', OwAll R xs' ds' g' ∧ (∀ x ∈ g', x ∈ g ∨ x ∈ gy) ∧ ((g ++ gy).Nodup → g'.Nodup)) →
        Sta w c σ (ρ.set i (some { s with d := .list ds' })) τ (upd H a (.lst xs')) := by
  obtain ⟨s0, m, pr, lk⟩ := s
  cases m with
  | zero => exact absurd hn (by show ¬ 0 < 0; omega)
  | succ m =>
  cases (show s0 = .list ds from ed)
  obtain ⟨v0, fj0, f0, g0, fC0, ev0, _, ow0, _⟩ := h.setD (s' := ⟨.list ds, m + 1, pr, lk⟩) es rfl
  obtain ⟨a, xs, ga, rfl, hq, hO, rfl⟩ := ow0
  refine ⟨a, xs, ev0, hq, hO.length, fun xs' ds' K => ?_⟩
  obtain ⟨v1, fj, f, g, fC, ev, q, ow, its, fin⟩ := h.setD (s' := ⟨.list ds', m + 1, pr, lk⟩) es rfl
  rw [ev0] at ev; cases ev
  obtain ⟨a1, xs1, g1, e1, hq1, hO1, rfl⟩ := ow
  cases e1
  rw [hq] at hq1; cases hq1
  obtain ⟨gy, g2, oy, e2, e3⟩ := its
  have e2 : g2 = [] := e2
  rw [e2, List.append_nil] at e3
  subst e3
  have nd : ((f ++ (a :: g1 ++ fC)) ++ g).Nodup := q.nd
  have ndA : (a :: g1).Nodup := nodup_left (nodup_right (nodup_left nd))
  have nag1 : a ∉ g1 := (List.nodup_cons.mp ndA).1
  have nag : a ∉ g := nodup_dis nd (by simp)
  have nd2 : (g1 ++ g).Nodup := List.nodup_append.mpr ⟨(List.nodup_cons.mp ndA).2, nodup_right nd, fun x hx y hy e => nodup_dis nd (show x ∈ f ++ (a :: g1 ++ fC) by simp [hx]) (e ▸ hy)⟩
  have hHa : upd H a (.lst xs') a = some (.lst xs') := upd_same
  have kp : ∀ b o, H b = some o → b ∉ a :: g1 → upd H a (.lst xs') b = some o := fun b o e hb => by
    rw [upd_ne (show b ≠ a from fun z => hb (by rw [z]; exact List.mem_cons_self))]; exact e
  have nn : ∀ b ∈ a :: g1, upd H a (.lst xs') b ≠ none := fun b hb => by
    by_cases z : b = a
    · subst z; rw [hHa]; simp
    · rw [upd_ne z]
      exact q.here b (by simp only [List.mem_append]; exact .inl (.inr (.inl hb)))
  have ok : okOwn m n d := ok
  by_cases hA : n = m ∨ isCont d = false
  · obtain ⟨g', k1, k2, k3⟩ := K _ g1 g hO1 (ow_lower oy hA)
    have na' : a ∉ g' := fun z => (k2 a z).elim nag1 nag
    refine fin (upd H a (.lst xs')) (a :: g') kp nn (List.nodup_cons.mpr ⟨na', k3 nd2⟩) (fun b hb => ?_) fun F' s1 s2 s3 _ => ?_
    · rcases List.mem_cons.mp hb with rfl | hb
      · exact .inl List.mem_cons_self
      · exact (k2 b hb).elim (fun z => .inl (List.mem_cons_of_mem _ z)) fun z => .inr (.inl z)
    · exact ⟨a, xs', g', rfl, hHa, k1.imp fun x e fx hf r => Ow.mono s1 _ _ _ _ r fun b hb o e => by
        rw [upd_ne (show b ≠ a from fun z => na' (z ▸ hf b hb))]; exact e, rfl⟩
  · have hm : m = 0 := by
      rcases ok with z | z | z
      · exact absurd (.inl z) hA
      · exact z
      · exact absurd (.inr z) hA
    subst hm
    have hz := OwAll.fz hO1
    refine fin (upd H a (.lst xs')) [a] kp nn (by simp) (fun b hb => .inl (by rw [List.mem_singleton.mp hb]; exact List.mem_cons_self)) fun F' s1 s2 s3 s4 => ?_
    have fy : Fz w F' y d := Ow.fz s1 _ _ _ _ oy fun b hb o e => s4 b hb (fun z => nag (by rw [List.mem_singleton] at z; exact z ▸ hb)) o e
    obtain ⟨g', k1, k2, _⟩ := K (Ow w F' (upd H a (.lst xs')) 0) [] [] (OwAll.ofFz (FzAll.mono s1 _ _ hz.1)) ⟨fy, rfl⟩
    have : g' = [] := by
      cases g' with
      | nil => rfl
      | cons x r => exact absurd ((k2 x List.mem_cons_self).elim id id) (by simp)
    subst this
    exact ⟨a, xs', [], rfl, hHa, k1, rfl⟩
/-- a list put behind the slot's list -/
theorem Sta.ext {i : Nat} {s : Slot} {ds es : List PyData} {y : V} {n : Nat} (h : Sta w c σ ρ (τ ++ t1 y (.list es) n) H) (es0 : ρ[i]? = some (some s)) (ed : s.d = .list ds) (hn : s.n = 1) :
    ∃ a b xs zs, σ[i]? = some (some (.ref a)) ∧ y = .ref b ∧ H a = some (.lst xs) ∧ H b = some (.lst zs) ∧ xs.length = ds.length ∧ zs.length = es.length ∧
      Sta w c σ (ρ.set i (some { s with d := .list (ds ++ es) })) τ (upd H a (.lst (xs ++ zs))) := by
  obtain ⟨s0, m, pr, lk⟩ := s
  cases (show m = 1 from hn)
  cases (show s0 = .list ds from ed)
  obtain ⟨O9, so9, b, zs, ey, hb9, hz9⟩ := h.take1
  have hb : H b = some (.lst zs) := sub_hide _ _ hb9
  obtain ⟨v1, fj, f, g, fC, ev, q, ow, its, fin⟩ := h.setD (s' := ⟨.list (ds ++ es), 1, pr, lk⟩) es0 rfl
  obtain ⟨a, xs, g1, rfl, hq, hO1, rfl⟩ := ow
  obtain ⟨gy, g2, oy, e2, e3⟩ := its
  have e2 : g2 = [] := e2
  rw [e2, List.append_nil] at e3
  subst e3
  have nd : ((f ++ (a :: g1 ++ fC)) ++ g).Nodup := q.nd
  have nag : a ∉ g := nodup_dis nd (by simp)
  have hz := OwAll.fz hO1
  refine ⟨a, b, xs, zs, ev, ey, hq, hb, hO1.length, hz9.length, ?_⟩
  have kp : ∀ b o, H b = some o → b ∉ a :: g1 → upd H a (.lst (xs ++ zs)) b = some o := fun b o e hb => by
    rw [upd_ne (show b ≠ a from fun z => hb (by rw [z]; exact List.mem_cons_self))]; exact e
  have nn : ∀ b ∈ a :: g1, upd H a (.lst (xs ++ zs)) b ≠ none := fun b hb => by
    by_cases z : b = a
    · subst z; rw [upd_same]; simp
    · rw [upd_ne z]
      exact q.here b (by simp only [List.mem_append]; exact .inl (.inr (.inl hb)))
  refine fin (upd H a (.lst (xs ++ zs))) [a] kp nn (by simp) (fun b hb => .inl (by rw [List.mem_singleton.mp hb]; exact List.mem_cons_self)) fun F' s1 s2 s3 s4 => ?_
  have fy : Fz w F' y (.list es) := Ow.fz s1 _ _ _ _ oy fun b hb o e => s4 b hb (fun z => nag (by rw [List.mem_singleton] at z; exact z ▸ hb)) o e
  obtain ⟨b', zs', ey', hb', hz'⟩ := fy
  rw [ey] at ey'
  cases ey'
  have nb : b ≠ a := fun z => by
    have := s3 a List.mem_cons_self
    rw [← z, hb'] at this
    cases this
  have hb2 := s2 _ _ hb'
  rw [upd_ne nb, hb] at hb2
  cases hb2
  exact ⟨a, xs ++ zs, [], rfl, upd_same, OwAll.ofFz (FzAll.append (FzAll.mono s1 _ _ hz.1) hz'), rfl⟩
theorem OwAll.setAt {R : V → PyData → List Addr → Prop} : ∀ {xs : List V} {ds : List PyData} {g gy : List Addr} {y : V} {d : PyData} (j : Nat), j < ds.length → OwAll R xs ds g → R y d gy → ∃ g', OwAll R (xs.set j y) (ds.set j d) g' ∧ (∀ x ∈ g', x ∈ g ∨ x ∈ gy) ∧ ((g ++ gy).Nodup → g'.Nodup)
  | [], [], _, _, _, _, j, hj, _, _ => by simp at hj
  | x :: xs, e :: ds, _, gy, y, d, 0, _, ⟨f, g, h1, h2, eq⟩, hy => by
    subst eq
    refine ⟨gy ++ g, ⟨gy, g, hy, h2, rfl⟩, fun z hz => ?_, fun nd => ?_⟩
    · rcases List.mem_append.mp hz with z | z
      · exact .inr z
      · exact .inl (List.mem_append_right _ z)
    · have n1 := nodup_left nd
      refine List.nodup_append.mpr ⟨nodup_right nd, nodup_right n1, fun a ha b hb e => nodup_dis nd (List.mem_append_right _ hb) (e ▸ ha)⟩
  | x :: xs, e :: ds, _, gy, y, d, j + 1, hj, ⟨f, g, h1, h2, eq⟩, hy => by
    subst eq
    obtain ⟨g', k1, k2, k3⟩ := OwAll.setAt j (by simpa using hj) h2 hy
    refine ⟨f ++ g', ⟨f, g', h1, k1, rfl⟩, fun z hz => ?_, fun nd => ?_⟩
    · rcases List.mem_append.mp hz with z | z
      · exact .inl (List.mem_append_left _ z)
      · exact (k2 _ z).imp (fun z => List.mem_append_right _ z) id
    · rw [List.append_assoc] at nd
      refine List.nodup_append.mpr ⟨nodup_left nd, k3 (nodup_right nd), fun a ha b hb e => nodup_dis nd ha ?_⟩
      subst e
      exact List.mem_append.mpr (k2 _ hb)
  | [], _ :: _, _, _, _, _, _, _, h, _ => h.elim
  | _ :: _, [], _, _, _, _, _, _, h, _ => h.elim
theorem OwAll.insAt {R : V → PyData → List Addr → Prop} {xs : List V} {ds : List PyData} {g gy : List Addr} {y : V} {d : PyData} (j : Nat) (h : OwAll R xs ds g) (hy : R y d gy) : ∃ g', OwAll R (xs.take j ++ [y] ++ xs.drop j) (ds.take j ++ d :: ds.drop j) g' ∧ (∀ x ∈ g', x ∈ g ∨ x ∈ gy) ∧ ((g ++ gy).Nodup → g'.Nodup) := by
  have h' := h
  rw [← List.take_append_drop j xs, ← List.take_append_drop j ds] at h'
  have hl := h.length
  obtain ⟨g1, g2, k1, k2, rfl⟩ := OwAll.unappend (by simp [hl]) h'
  refine ⟨g1 ++ (gy ++ g2), ?_, fun z hz => ?_, fun nd => ?_⟩
  · rw [List.append_assoc]
    exact k1.append ⟨gy, g2, hy, k2, rfl⟩
  · simp only [List.mem_append] at hz ⊢
    rcases hz with z | z | z
    · exact .inl (.inl z)
    · exact .inr z
    · exact .inl (.inr z)
  · obtain ⟨n1, n2, n3⟩ := List.nodup_append.mp nd
    obtain ⟨m1, m2, m3⟩ := List.nodup_append.mp n1
    refine List.nodup_append.mpr ⟨m1, List.nodup_append.mpr ⟨n2, m2, fun a ha b hb e => n3 b (List.mem_append_right _ hb) a ha e.symm⟩, fun a ha b hb e => ?_⟩
    rcases List.mem_append.mp hb with z | z
    · exact n3 a (List.mem_append_left _ ha) b z e
    · exact m3 a ha b z e
end
section
variable {X : Cx}
theorem get_list : PGet X (rIxL X.K) := by
  intro pins s σ H x y v u Q I rx ry h
  obtain ⟨p, xs, i, z, rfl, rfl, hq, he, q⟩ := h
  cases rx
  obtain ⟨t, rfl⟩ := ry
  obtain ⟨its, r, pl, hz⟩ := I.list hq
  obtain ⟨j, k1, k2, k3, k4, k5⟩ := atI_get he
  obtain ⟨x0, ex, rx0⟩ := r.get k2
  have hl := r.length
  have hn := line63
  have done : EP X pins σ Q x0 s := ⟨z, H, I, rx0, q⟩
  by_cases h0 : 0 ≤ i
  · have hj : i.toNat = j := by
      rw [seqIndex_of h0 k5] at k1
      exact Option.some.inj k1
    refine wpAny_getItem_list pl.isList h0 (by omega) (x := x0) ?_ done
    rw [hj]; simpa using ex
  · have hj : (i + (its.toArray.size : Int)).toNat = j := by
      rw [seqIndex_neg (by omega) k4] at k1
      rw [List.size_toArray, ← hl]
      exact Option.some.inj k1
    refine wpAny_getItem_list_neg pl.isList (by omega) (by rw [List.size_toArray]; omega) (by omega) (x := x0) ?_ done
    rw [hj]; simpa using ex
end
end PL
end
section
set_option Elab.async false
set_option linter.all false
set_option maxRecDepth 100000
set_option maxHeartbeats 2000000
/-! PL20: statements, rule by rule. -/
namespace PL
open L2 PyProof.Rows PySem.Spec PySem
structure EndOk (w : World) (c : Fr) (τ : List Item) (K : KS) (D : Ends) : Prop where
  nx : ∀ ρ σ H, K.nx ρ → Sta w c σ ρ τ H → D.nx σ H
  rt : ∀ d n ρ v σ H, K.rt d n ρ → Sta w c σ ρ (τ ++ t1 v d n) H → D.rt v H
  bk : ∀ ρ σ H, K.bk ρ → Sta w c σ ρ τ H → D.bk σ H
  ct : ∀ ρ σ H, K.ct ρ → Sta w c σ ρ τ H → D.ct σ H
def tS (w : World) (G : Ctx) (m : Sm) : TS := fun D σ H => ∃ (c : Fr) (τ : List Item) (ρ : Env) (K : KS), Sta w c σ ρ τ H ∧ wpS G m ρ K ∧ EndOk w c τ K D
section
variable {w : World} {c c' : Fr} {σ : List (Option V)} {ρ ρ' : Env} {τ : List Item} {H H' F F' : Hp} {O : List Addr}
theorem LkR.weak {it : E} {lk : Option (Nat × Slot × V)} {σ0 : List (Option V)} {ρ0 : Env} (r : LkR it lk c c' σ0 ρ0) (h : Sta w c' σ ρ τ H) : Sta w c σ ρ τ H := by
  have hp := r.pins
  have e : c'.B = c.B ∧ c'.H0 = c.H0 ∧ c'.L = c.L := by
    unfold LkR at r
    split at r
    · obtain ⟨_, rfl⟩ := r; exact ⟨rfl, rfl, rfl⟩
    · obtain ⟨s, v, _, _, _, rfl, _⟩ := r; exact ⟨rfl, rfl, rfl⟩
  obtain ⟨⟨O, q⟩, h2, h3⟩ := h
  obtain ⟨e1, e2, e3⟩ := e
  exact ⟨⟨O, ⟨by rw [← e1]; exact q.its, q.nd, by rw [← e1]; exact q.dis, by rw [← e1]; exact q.bar, by rw [← e2, ← e3]; exact q.keep, by rw [← e2, ← e3]; exact q.new⟩⟩, h2, fun p hp' => h3 p (hp p hp')⟩
/-- a slot's value taken out of it -/
theorem Sta.move {i : Nat} {s : Slot} (h : Sta w c σ ρ τ H) (e : ρ[i]? = some (some s)) (hp : s.prot = false) : ∃ v, σ[i]? = some (some v) ∧ Sta w c σ (ρ.set i none) (τ ++ t1 v s.d s.n) H := by
  obtain ⟨v, ev, -⟩ := h.slot e
  obtain ⟨⟨O, q⟩, h2, h3⟩ := h
  have ez := zs_get ev e
  have eq : zs σ ρ ++ τ = (zs σ ρ).take i ++ ((some v, some s) :: ((zs σ ρ).drop (i + 1) ++ τ)) := by
    conv => lhs; rw [split_at ez]
    simp
  have hi : i < σ.length := (List.getElem?_eq_some_iff.mp ev).1
  have eσ : σ.set i (some v) = σ := by
    have := (List.getElem?_eq_some_iff.mp ev).2
    rw [← this, List.set_getElem_self]
  have eq2 : zs σ (ρ.set i none) ++ (τ ++ t1 v s.d s.n) = (zs σ ρ).take i ++ ((some v, none) :: (((zs σ ρ).drop (i + 1) ++ τ) ++ t1 v s.d s.n)) := by
    have : zs σ (ρ.set i none) = (zs σ ρ).set i (some v, none) := by
      conv => lhs; rw [← eσ]
      exact zs_set
    rw [this, set_split ez]; simp
  have qi := q.its
  rw [eq] at qi
  obtain ⟨f, g, i1, ⟨fj, gj, j1, j2, ej⟩, eO⟩ := qi.unappend
  subst ej; subst eO
  have nd : (f ++ (fj ++ gj)).Nodup := q.nd
  have mm : ∀ a, a ∈ f ++ (gj ++ fj) ↔ a ∈ f ++ (fj ++ gj) := fun a => by
    simp only [List.mem_append]
    constructor
    · rintro (z | z | z)
      · exact .inl z
      · exact .inr (.inr z)
      · exact .inr (.inl z)
    · rintro (z | z | z)
      · exact .inl z
      · exact .inr (.inr z)
      · exact .inr (.inl z)
  have sb : Sub (hide (c.B ++ (f ++ (fj ++ gj))) H) (hide (c.B ++ (f ++ (gj ++ fj))) H) := hide_sub Sub.refl fun a ha hn => absurd (by
    rcases List.mem_append.mp ha with z | z
    · exact List.mem_append_left _ z
    · exact List.mem_append_right _ ((mm a).mp z)) hn
  refine ⟨v, ev, ⟨f ++ (gj ++ fj), ⟨?_, ?_, fun a ha => q.dis a ((mm a).mp ha), q.bar, q.keep, fun a ha => q.new a ((mm a).mp ha)⟩⟩, by rw [List.length_set]; exact h2, fun p hp' => ?_⟩
  · rw [eq2]
    refine (i1.mono sb fun _ _ _ z => z).append ⟨[], gj ++ fj, (show ([] : List Addr) = [] from rfl), ?_, rfl⟩
    refine (j2.mono sb fun _ _ _ z => z).append ⟨fj, [], ?_, rfl, by simp⟩
    exact Ow.mono sb _ _ _ _ j1 fun _ _ _ z => z
  · obtain ⟨n1, n2, n3⟩ := List.nodup_append.mp nd
    obtain ⟨m1, m2, m3⟩ := List.nodup_append.mp n2
    exact List.nodup_append.mpr ⟨n1, List.nodup_append.mpr ⟨m2, m1, fun a ha b hb e => m3 b hb a ha e.symm⟩, fun a ha b hb e => n3 a ha b (by
      rcases List.mem_append.mp hb with z | z
      · exact List.mem_append_right _ z
      · exact List.mem_append_left _ z) e⟩
  · obtain ⟨z1, s', z2, z3⟩ := h3 p hp'
    have ne : p.1 ≠ i := fun z => by rw [z, e] at z2; cases z2; rw [hp] at z3; cases z3
    exact ⟨z1, s', by rw [List.getElem?_set_ne (Ne.symm ne)]; exact z2, z3⟩
theorem free_none {i : Nat} (hi : i < ρ.length) : free i (ρ.set i none) := by
  unfold free
  rw [List.getElem?_set_self hi]; trivial
theorem Sta.frz {i : Nat} {s : Slot} (h : Sta w c σ ρ τ H) (e : ρ[i]? = some (some s)) (hp : s.prot = false) : Sta w c σ (ρ.set i (val s.d 0)) τ H := by
  obtain ⟨v, ev, h1⟩ := h.move e hp
  have hi := (List.getElem?_eq_some_iff.mp e).1
  have h2 := h1.frzT.store (free_none hi)
  rw [List.set_set] at h2
  have eσ : σ.set i (some v) = σ := by
    have := (List.getElem?_eq_some_iff.mp ev).2
    rw [← this, List.set_getElem_self]
  rw [eσ] at h2
  exact h2
end
section
variable {Y : Tx} {N : List Str} {c : Sc} {k : Nat} {X : Cx} {G : Ctx} {a b e : E} {m m' : Sm} {x y z : Expr} {st : Stmt} {sts : List Stmt} {pos p1 p2 p3 : Pos} {i : Nat} {nm : Str}
theorem s_nil : PSs X [] (tS X.w G .nil) := pss_nil.imp fun D σ H q => by
  obtain ⟨c', τ, ρ, K, hs, hw, hE⟩ := q
  exact hE.nx _ _ _ hw hs
theorem s_seq (h1 : PS X st (tS X.w G m)) (h2 : PSs X sts (tS X.w G m')) : PSs X (st :: sts) (tS X.w G (.seq m m')) := (pss_cons h1 h2).imp fun D σ H q => by
  obtain ⟨c', τ, ρ, K, hs, hw, hE⟩ := q
  exact ⟨c', τ, ρ, _, hs, hw, ⟨fun ρ1 σ1 H1 h hs1 => ⟨c', τ, ρ1, K, hs1, h, hE⟩, hE.rt, hE.bk, hE.ct⟩⟩
theorem s_frz (h2 : PSs X sts (tS X.w G m)) : PSs X sts (tS X.w G (.seq (.frz i) m)) := h2.imp fun D σ H q => by
  obtain ⟨c', τ, ρ, K, hs, ⟨s, es, hp, hw⟩, hE⟩ := q
  exact ⟨c', τ, _, K, hs.frz es hp, hw, hE⟩
theorem s_pass : PS X (.Pass pos) (tS X.w G .pass) := ps_pass.imp fun D σ H q => by
  obtain ⟨c', τ, ρ, K, hs, hw, hE⟩ := q
  exact hE.nx _ _ _ hw hs
theorem s_brk : PS X (.Break pos) (tS X.w G .brk) := ps_break.imp fun D σ H q => by
  obtain ⟨c', τ, ρ, K, hs, hw, hE⟩ := q
  exact hE.bk _ _ _ hw hs
theorem s_cont : PS X (.Continue pos) (tS X.w G .cont) := ps_continue.imp fun D σ H q => by
  obtain ⟨c', τ, ρ, K, hs, hw, hE⟩ := q
  exact hE.ct _ _ _ hw hs
theorem s_dead : PS X st (tS X.w G .dead) := ps_never.imp fun D σ H q => by
  obtain ⟨c', τ, ρ, K, hs, hw, hE⟩ := q
  exact hw
theorem s_ret (h : PE X x (tE G X.w e)) : PS X (.Return (some x) pos) (tS X.w G (.ret e)) := (ps_ret h).imp fun D σ H q => by
  obtain ⟨c', τ, ρ, K, hs, hw, hE⟩ := q
  exact ⟨c', τ, ρ, _, hs, hw, fun d n ρ1 v H1 hk hs1 => hE.rt _ _ _ _ _ _ hk hs1⟩
theorem s_retN : PS X (.Return none pos) (tS X.w G .retN) := ps_retN.imp fun D σ H q => by
  obtain ⟨c', τ, ρ, K, hs, hw, hE⟩ := q
  exact hE.rt _ _ _ _ σ _ hw (hs.atom fun _ => rfl)
theorem s_retS (A : At Y N c k X) (h : nmOk N c i nm = true) : PS X (.Return (some (.Name nm p1)) pos) (tS X.w G (.retS i)) := (ps_ret (pe_slot A h p1)).imp fun D σ H q => by
  obtain ⟨c', τ, ρ, K, hs, ⟨s, es, hp, hw⟩, hE⟩ := q
  obtain ⟨v, ev, hs1⟩ := hs.move es hp
  exact ⟨v, ev, hE.rt _ _ _ _ _ _ hw hs1⟩
theorem s_expr (h : PE X x (tE G X.w e)) (hs : swapsWith x none pos.line X.env = pure false) : PS X (.Expr x pos) (tS X.w G (.expr e)) := (ps_expr h hs).imp fun D σ H q => by
  obtain ⟨c', τ, ρ, K, hs, hw, hE⟩ := q
  exact ⟨c', τ, ρ, _, hs, hw, fun d n ρ1 v H1 hk hs1 => hE.nx _ _ _ hk hs1.drop⟩
theorem s_ite {s1 s2 : List Stmt} (hc : PT X x (tT G X.w e)) (h1 : PSs X s1 (tS X.w G m)) (h2 : PSs X s2 (tS X.w G m')) : PS X (.If x s1 s2 pos) (tS X.w G (.ite e m m')) := (ps_if hc h1 h2).imp fun D σ H q => by
  obtain ⟨c', τ, ρ, K, hs, hw, hE⟩ := q
  refine ⟨c', τ, ρ, _, hs, hw, fun t ρ1 H1 hk hs1 => ?_⟩
  cases t with
  | true => exact ⟨c', τ, ρ1, K, hs1, hk, hE⟩
  | false => exact ⟨c', τ, ρ1, K, hs1, hk, hE⟩
theorem s_while {s1 : List Stmt} (A : At Y N c k X) (hc : PT X x (tT G X.w e)) (h1 : PSs X s1 (tS X.w G m)) : PS X (.While x s1 [] pos) (tS X.w G (.while_ e m)) := (ps_while (by rw [A.xe]; exact PassesOwn.never) hc h1).imp fun D σ H q => by
  obtain ⟨c', τ, ρ, K, hs, ⟨I, ⟨m0, h0⟩, hI⟩, hE⟩ := q
  refine ⟨fun n σ H => ∃ ρ, I n ρ ∧ Sta X.w c' σ ρ τ H, ⟨m0, ρ, h0, hs⟩, fun n σ1 H1 ⟨ρ1, h1, hs1⟩ => ?_⟩
  refine ⟨c', τ, ρ1, _, hs1, hI n ρ1 h1, fun t ρ2 H2 hk hs2 => ?_⟩
  cases t with
  | false => exact hE.nx _ _ _ hk hs2
  | true =>
    refine ⟨fun σ' H' => ∃ m', m' < n ∧ ∃ ρ', I m' ρ' ∧ Sta X.w c' σ' ρ' τ H', fun σ' H' ⟨m', hm, ρ', q1, q2⟩ => ⟨m', hm, ρ', q1, q2⟩, c', τ, ρ2, _, hs2, hk, ?_⟩
    exact ⟨fun ρ3 σ3 H3 ⟨m', hm, q1⟩ hs3 => ⟨m', hm, ρ3, q1, hs3⟩, hE.rt, hE.nx, fun ρ3 σ3 H3 ⟨m', hm, q1⟩ hs3 => ⟨m', hm, ρ3, q1, hs3⟩⟩
theorem s_for {s1 : List Stmt} {it : E} {tg : Tg} {xt xi : Expr} (A : At Y N c k X) (hi : PI X xt xi (tI X.w G it)) (hu : ∀ x, foldedSetIterable xi X.env x = pure x) (hg : trG N c tg xt = true) (h1 : PSs X s1 (tS X.w G m)) :
    PS X (.For xt xi s1 [] pos) (tS X.w G (.for_ tg it m)) := (ps_for (by rw [A.xe]; exact PassesOwn.never) A.calm hi (sG tg c xt hg A) h1 hu).imp fun D σ H q => by
  obtain ⟨c0, τ, ρ, K, hs, hw, hE⟩ := q
  refine ⟨c0, τ, ρ, _, hs, hw, fun items ρ1 J H1 τ' c1 lk hk r1 r2 hs1 W => ?_⟩
  have fold := hk
  generalize hstep : (fun (x : PyData) (ρ2 : Env) (k2 : Env → Prop) => lkIs it ρ1 ρ2 ∧ bindT tg x ρ2 fun ρ3 => wpS G m ρ3 { nx := k2, rt := K.rt, bk := fun ρ4 => lkOut it ρ1 ρ4 K.nx, ct := k2 }) = step at fold
  have outE : ∀ ρ' σ' H', lkOut it ρ1 ρ' K.nx → Sta X.w c1 σ' ρ' (τ ++ τ') H' → D.nx σ' H' := fun ρ' σ' H' o hs' => by
    obtain ⟨ρ'', q1, q2⟩ := hs'.unlock r1 o
    exact hE.nx _ _ _ q1 q2.drop
  let P : Nat → List (Option V) → Hp → Prop := fun i σ H => ∃ ρ2, Sta X.w c1 σ ρ2 (τ ++ τ') H ∧ forFold step (items.drop i) ρ2 fun ρ5 => lkOut it ρ1 ρ5 K.nx
  refine ⟨fun i n σ H => n = items.length - i ∧ i ≤ items.length ∧ P i σ H, ⟨items.length, by simp, Nat.zero_le _, lkIn it ρ1, hs1, by rw [List.drop_zero]; exact fold⟩, ?_⟩
  rintro i n σ2 H2 ⟨rfl, hi2, ρ2, hs2, fo⟩
  have hmem : ∀ t ∈ τ', t ∈ τ ++ τ' := fun t ht => by simp [ht]
  by_cases hlt : i < items.length
  · rw [List.drop_eq_getElem_cons hlt] at fo
    have fo : step items[i] ρ2 fun ρ' => forFold step (items.drop (i + 1)) ρ' fun ρ5 => lkOut it ρ1 ρ5 K.nx := fo
    rw [← hstep] at fo
    obtain ⟨li, fo⟩ := fo
    rw [hstep] at fo
    obtain ⟨w1, _, w3⟩ := W c1 σ2 ρ2 _ H2 hs2 hmem (r1.lkc li)
    refine .inr ⟨w1 i hlt, P (i + 1), fun σ' H' p => ⟨items.length - (i + 1), by omega, rfl, hlt, p⟩, fun x H' hy => ?_⟩
    have hs3 := w3 i x H' _ hy (List.getElem?_eq_getElem hlt)
    refine ⟨c1, _, _, _, 0, _, hs3, fo, fun ρ3 σ3 hk3 hl ho hs4 => ⟨c1, _, ρ3, _, hs4, hk3, ?_⟩⟩
    exact ⟨fun ρ4 σ4 H4 q1 q2 => ⟨ρ4, q2, q1⟩, fun d n ρ4 v σ4 H4 q1 q2 => hE.rt _ _ _ _ _ _ q1 (r1.weak q2).mid, fun ρ4 σ4 H4 q1 q2 => outE _ _ _ q1 q2, fun ρ4 σ4 H4 q1 q2 => ⟨ρ4, q2, q1⟩⟩
  · have e : i = items.length := by omega
    subst e
    rw [List.drop_length] at fo
    have fo : lkOut it ρ1 ρ2 K.nx := fo
    obtain ⟨_, w2, _⟩ := W c1 σ2 ρ2 _ H2 hs2 hmem (r1.lkc (lkOut_is fo))
    exact .inl ⟨w2, outE _ _ _ fo hs2⟩
/-! ### stores -/
theorem loc_of (A : At Y N c k X) (h : isLoc c nm = true) : (X.env.scope.names.lookup nm = some .local ∨ X.env.scope.names.lookup nm = some .cell) ∧ (X.fn nm = true ∨ X.env.scope.names.lookup nm = some .local) := by
  unfold isLoc at h
  rw [A.scope, A.fn]
  split at h
  · rename_i q; exact ⟨.inl q, .inr q⟩
  · rename_i q; exact ⟨.inr q, .inl h⟩
  · exact absurd h Bool.false_ne_true
theorem q_asg {w : World} {D : Ends} {σ : L2.St} {H : Hp} (q : tS w G (.asg i e) D σ H) : tAsg (tE G w e) (gName i) D σ H := by
  obtain ⟨c', τ, ρ, K, hs, hw, hE⟩ := q
  exact ⟨c', τ, ρ, _, hs, hw, fun d n ρ1 v H1 hk hs1 => hE.nx _ _ _ hk.2 (hs1.store hk.1)⟩
theorem s_asg (A : At Y N c k X) (hn : N[i]? = some nm) (hl : isLoc c nm = true) (h : PE X x (tE G X.w e)) (hs : swapsWith x (some (.Name nm p1)) pos.line X.env = pure false) : PS X (.Assign [.Name nm p1] x pos) (tS X.w G (.asg i e)) := by
  obtain ⟨l1, l2⟩ := loc_of A hl
  exact (ps_set (by rw [A.names]; exact A.nd) (by rw [A.names]; exact hn) l1 h hs l2).imp fun D σ H q => q_asg q
theorem s_asgLc (A : At Y N c k X) {n : Nat} {elt it ifs : E} {tg : Tg} {vs : List Nat} {scope : Scope} {xe xt xi : Expr} {xfs : List Expr} (hn : N[i]? = some nm) (hl : c.sc.names.lookup nm = some .local)
    (hsw : swapsWith (.ListComp xe [⟨xt, xi, xfs, 0⟩] scope p2) (some (.Name nm p1)) pos.line X.env = pure true)
    (hb : blkOk N c scope vs = true) (htg : (tgVars tg).all (fun v => decide (v ∈ vs)) = true)
    (hi : PI X xt xi (tI X.w G it)) (hg : trG N (c.blk scope) tg xt = true)
    (ht : ∀ (s : Shared) (H : Hp) (C : Addr) (cl : List (Str × Addr)) (fp : List Addr), PTs (X.blk s H scope (compEnvC scope cl C X.env) fp) xfs (tF G X.w ifs))
    (he : ∀ (s : Shared) (H : Hp) (C : Addr) (cl : List (Str × Addr)) (fp : List Addr), PE (X.blk s H scope (compEnvC scope cl C X.env) fp) xe (tE G X.w elt))
    (hs : ∀ x, foldedSetIterable xi X.env x = pure x) : PS X (.Assign [.Name nm p1] (.ListComp xe [⟨xt, xi, xfs, 0⟩] scope p2) pos) (tS X.w G (.asg i (.lc n elt tg it ifs vs))) := by
  unfold blkOk at hb
  simp only [Bool.and_eq_true, decide_eq_true_eq] at hb
  obtain ⟨hb1, hb2⟩ := hb
  refine (ps_setLc (own := ownOf N vs) (g := tG X.w tg) A.calm (by rw [A.names]; exact A.nd) (by rw [A.names]; exact hn) (by rw [A.scope]; exact hl) hsw hi (by rw [A.names, A.scope]; exact blkOk_by hb1) (fun s H C cl fp => sG tg (c.blk scope) xt hg (A.blk s H scope C cl fp)) ht he hs).imp fun D σ H q => ?_
  rw [hb2]
  exact q_lc htg (q_asg q)
theorem s_unp (A : At Y N c k X) {tg : Tg} {es : List Expr} {kk : Nat} (hg : trG N c tg (.Tuple es kk p1) = true) (h : PE X x (tE G X.w e)) (hw : swappedStores [.Tuple es kk p1] x X.env = pure none) : PS X (.Assign [.Tuple es kk p1] x pos) (tS X.w G (.unp tg e)) := by
  refine (ps_asg h (sG tg c _ hg A) (by cases x <;> rfl) hw rfl).imp fun D σ H q => ?_
  obtain ⟨c', τ, ρ, K, hs, hw, hE⟩ := q
  exact ⟨c', τ, ρ, _, hs, hw, fun d n ρ1 v H1 hk hs1 => ⟨c', τ, ρ1, d, n, _, hs1, hk, fun ρ2 σ2 q1 _ _ q2 => hE.nx _ _ _ q1 q2⟩⟩
theorem free_set2 {ρ : Env} {i j : Nat} {s : Option Slot} (f : free i ρ) (h : i ≠ j) : free i (ρ.set j s) := by
  unfold free at f ⊢
  rw [List.getElem?_set_ne (Ne.symm h)]; exact f
theorem s_par2 (A : At Y N c k X) {i j : Nat} {n1 n2 : Str} {es : E} {kt k2 : Nat} {pt pt2 px py : Pos} (hi : N[i]? = some n1) (hj : N[j]? = some n2) (hx : c.sc.names.lookup n1 = some .local) (hy : c.sc.names.lookup n2 = some .local)
    (ha : PA X [x, y] (tL G X.w es)) (hw : swappedStores [.Tuple [.Name n1 px, .Name n2 py] kt pt] (.Tuple [x, y] k2 pt2) X.env = pure (some [n1, n2])) (hij : i ≠ j) :
    PS X (.Assign [.Tuple [.Name n1 px, .Name n2 py] kt pt] (.Tuple [x, y] k2 pt2) pos) (tS X.w G (.par [i, j] es)) := by
  refine (ps_par A.calm (by rw [A.names]; exact A.nd) (by rw [A.names]; exact hi) (by rw [A.names]; exact hj) hij (by rw [A.scope]; exact hx) (by rw [A.scope]; exact hy) ha hw rfl).imp fun D σ H q => ?_
  obtain ⟨c', τ, ρ, K, hs, hw, hE⟩ := q
  refine ⟨c', τ, ρ, _, hs, hw, fun ps ρ1 vs H1 hk hl hs1 => ?_⟩
  obtain ⟨⟨k1, k2, k3⟩, hk⟩ := hk
  match ps, vs, k1, hl with
  | [p, q], [v, u], _, _ =>
    refine ⟨v, u, rfl, hE.nx _ _ _ hk ?_⟩
    have hs2 : Sta X.w c' σ ρ1 ((τ ++ t1 v p.1 p.2) ++ t1 u q.1 q.2) H1 := by rw [List.append_assoc]; exact hs1
    have h1 := (hs2.store (k3 j (by simp))).store (free_set2 (k3 i (by simp)) hij)
    show Sta X.w c' _ ((ρ1.set i _).set j _) τ H1
    rw [List.set_comm _ _ hij, List.set_comm _ _ hij]
    exact h1
theorem s_par3 (A : At Y N c k X) {i j l : Nat} {n1 n2 n3 : Str} {es : E} {kt k2 : Nat} {pt pt2 px py pz : Pos} (hi : N[i]? = some n1) (hj : N[j]? = some n2) (hl : N[l]? = some n3) (hx : c.sc.names.lookup n1 = some .local) (hy : c.sc.names.lookup n2 = some .local) (hz : c.sc.names.lookup n3 = some .local)
    (ha : PA X [x, y, z] (tL G X.w es)) (hw : swappedStores [.Tuple [.Name n1 px, .Name n2 py, .Name n3 pz] kt pt] (.Tuple [x, y, z] k2 pt2) X.env = pure (some [n1, n2, n3])) (hij : i ≠ j) (hil : i ≠ l) (hjl : j ≠ l) :
    PS X (.Assign [.Tuple [.Name n1 px, .Name n2 py, .Name n3 pz] kt pt] (.Tuple [x, y, z] k2 pt2) pos) (tS X.w G (.par [i, j, l] es)) := by
  refine (ps_par3 A.calm (by rw [A.names]; exact A.nd) (by rw [A.names]; exact hi) (by rw [A.names]; exact hj) (by rw [A.names]; exact hl) hij hil hjl (by rw [A.scope]; exact hx) (by rw [A.scope]; exact hy) (by rw [A.scope]; exact hz) ha hw rfl).imp fun D σ H q => ?_
  obtain ⟨c', τ, ρ, K, hs, hw, hE⟩ := q
  refine ⟨c', τ, ρ, _, hs, hw, fun ps ρ1 vs H1 hk hl hs1 => ?_⟩
  obtain ⟨⟨k1, k2, k3⟩, hk⟩ := hk
  match ps, vs, k1, hl with
  | [p, q, r], [v, u, t], _, _ =>
    refine ⟨v, u, t, rfl, hE.nx _ _ _ hk ?_⟩
    have hs2 : Sta X.w c' σ ρ1 (((τ ++ t1 v p.1 p.2) ++ t1 u q.1 q.2) ++ t1 t r.1 r.2) H1 := by rw [List.append_assoc, List.append_assoc]; exact hs1
    have h1 := ((hs2.store (k3 l (by simp))).store (free_set2 (k3 j (by simp)) hjl)).store (free_set2 (free_set2 (k3 i (by simp)) hil) hij)
    show Sta X.w c' _ (((ρ1.set i _).set j _).set l _) τ H1
    rw [List.set_comm _ _ hij, List.set_comm _ _ hil, List.set_comm _ _ hjl]
    rw [List.set_comm (l := ρ1) _ _ hij, List.set_comm _ _ hil, List.set_comm _ _ hjl]
    exact h1
end
end PL
end
section
set_option Elab.async false
set_option linter.all false
set_option maxRecDepth 100000
set_option maxHeartbeats 2000000
/-! PL21: a slot's list changed by statements. -/
namespace PL
open L2 PyProof.Rows PySem.Spec PySem
section
variable {Y : Tx} {N : List Str} {c : Sc} {k : Nat} {X : Cx} {G : Ctx} {a b e : E} {m m' : Sm} {x y z : Expr} {st : Stmt} {sts : List Stmt} {pos p1 p2 p3 p4 : Pos} {i : Nat} {nm : Str}
theorem Sta.lst {w : World} {c : Fr} {σ : List (Option V)} {ρ : Env} {τ : List Item} {H : Hp} (h : Sta w c σ ρ τ H) (e : isLst i ρ) : ∃ a xs, σ[i]? = some (some (.ref a)) ∧ H a = some (.lst xs) := by
  obtain ⟨s, es, ds, ed⟩ := e
  obtain ⟨v, ev, O, f, so, ow, _⟩ := h.slot es
  rw [ed] at ow
  obtain ⟨a, xs, rfl, ha, _⟩ := ow_items ow sub_hide
  exact ⟨a, xs, ev, ha⟩
theorem atI_d {n : Nat} {i : Int} {j : Nat} (h : ixN n i = some j) : j < n := ixN_lt h
theorem q_setL {w : World} {c : Fr} {σ : List (Option V)} {ρ : Env} {τ : List Item} {H : Hp} {s : Slot} {v : V} {d yi : PyData} {n : Nat} {kk : PyData → Prop} (h : Sta w c σ ρ (τ ++ t1 v d n) H) (es : ρ[i]? = some (some s)) (hn : 0 < s.n) (ok : okOwn (s.n - 1) n d) (hp : putP s.d yi d kk) :
    ∃ a xs j jj, σ[i]? = some (some (.ref a)) ∧ yi = .int j ∧ H a = some (.lst xs) ∧ ixN xs.length j = some jj ∧ ∃ d', kk d' ∧ Sta w c σ (ρ.set i (some { s with d := d' })) τ (upd H a (.lst (xs.set jj v))) := by
  cases ed : s.d with
  | list ds =>
    rw [ed] at hp
    cases yi <;> try exact hp.elim
    rename_i j
    obtain ⟨jj, e1, hk⟩ := hp
    obtain ⟨a, xs, ev, ha, hl, K⟩ := h.chg es ed hn ok
    refine ⟨a, xs, j, jj, ev, rfl, ha, by rw [hl]; exact e1, _, hk, K _ _ fun R g gy h1 h2 => OwAll.setAt jj (ixN_lt e1) h1 h2⟩
  | _ => rw [ed] at hp; exact hp.elim
theorem s_setIx (A : At Y N c k X) (hn : nmOk N c i nm = true) (hb : PE X y (tE G X.w b)) (he : PE X x (tE G X.w e)) (hs : notSlice y = true) : PS X (.Assign [.Subscript (.Name nm p1) y p2] x pos) (tS X.w G (.setIx i b e)) := by
  refine (ps_asg he (pg_sub (pe_slot A hn p1) hb set_list (by cases y <;> first | (intro _; rfl) | exact absurd hs Bool.false_ne_true)) (by cases x <;> rfl) (by cases x <;> rfl) rfl).imp fun D σ H q => ?_
  obtain ⟨c', τ, ρ, K, hs, hw, hE⟩ := q
  refine ⟨c', τ, ρ, _, hs, hw, fun d n ρ1 v H1 hk hs1 => ?_⟩
  obtain ⟨hl, hk⟩ := hk
  obtain ⟨a0, xs0, ev0, _⟩ := hs1.lst hl
  refine ⟨_, ev0, c', τ ++ t1 v d n, ρ1, _, hs1, hk, fun dj nj ρ2 vj H2 hk2 hs2 => ?_⟩
  obtain ⟨s, es, hlk, ⟨k1, k2⟩, k3⟩ := hk2
  obtain ⟨O, so, zj⟩ := hs2.take1
  obtain ⟨a, xs, j, jj, ev, rfl, ha, ej, d', hk', hs3⟩ := q_setL so.sta es k1 k2 k3
  rw [ev0] at ev; cases ev
  exact ⟨a0, xs, j, jj, rfl, zj, ha, ej, hE.nx _ _ _ hk' hs3⟩
theorem s_aug {op : BOp} {f : Int → Int → Int} {ip : Operator} (A : At Y N c k X) (hn : N[i]? = some nm) (hl : isLoc c nm = true) (hp : PIp X ip (ipI f)) (hf : ∀ x y kk, binP op (.int x) (.int y) kk → kk (.int (f x y)) 0) (h : PE X x (tE G X.w e)) : PS X (.AugAssign (.Name nm p1) ip x pos) (tS X.w G (.aug i op e)) := by
  obtain ⟨l1, l2⟩ := loc_of A hl
  refine (ps_aug (by rw [A.names]; exact A.nd) (by rw [A.names]; exact hn) l1 h hp l2).imp fun D σ H q => ?_
  obtain ⟨c', τ, ρ, K, hs, ⟨s, es, hn0, hw⟩, hE⟩ := q
  obtain ⟨v, ev, O, fp, so, ow, _⟩ := hs.slot es
  refine ⟨v, ev, c', τ, ρ, _, hs, hw, fun d n ρ1 u H1 hk hs1 => ?_⟩
  obtain ⟨d0, nl, t0, l0⟩ := s
  obtain ⟨O1, so1, z1⟩ := hs1.take1
  cases d0 <;> try exact hk.elim
  cases d <;> try exact hk.elim
  rename_i x0 y0
  have hv : v = .int x0 := ow_atom ow (.inr rfl)
  obtain ⟨hfr, hnx⟩ := hf _ _ _ hk
  exact ⟨x0, y0, hv, z1, hE.nx _ _ _ hnx ((so1.push (Out.fz (show Fz X.w _ (.int (f x0 y0)) (.int (f x0 y0)) from rfl) sub_hide)).store hfr)⟩
theorem s_augIx {op : BOp} {f : Int → Int → Int} {ip : Operator} (A : At Y N c k X) (hn : nmOk N c i nm = true) (hp : PIp X ip (ipI f)) (hf : ∀ x y kk, binP op (.int x) (.int y) kk → kk (.int (f x y)) 0) (hb : PE X y (tE G X.w b)) (h : PE X x (tE G X.w e)) (hs : notSlice y = true) : PS X (.AugAssign (.Subscript (.Name nm p1) y p2) ip x pos) (tS X.w G (.augIx i b op e)) := by
  refine (ps_augS (pe_slot A hn p1) hb get_list h hp set_list (by cases y <;> first | (intros; rfl) | exact absurd hs Bool.false_ne_true)).imp fun D σ H q => ?_
  obtain ⟨c', τ, ρ, K, hs, ⟨hl, hw⟩, hE⟩ := q
  obtain ⟨a0, xs0, ev0, _⟩ := hs.lst hl
  refine ⟨_, ev0, c', τ, ρ, _, hs, hw, fun dj nj ρ1 vj H1 hk hs1 => ?_⟩
  obtain ⟨s, es, hlk, hk⟩ := hk
  obtain ⟨O, so, zj⟩ := hs1.take1
  obtain ⟨u, eu, O2, f2, so2, ow, _⟩ := (so.sta).slot es
  rw [ev0] at eu; cases eu
  cases ed : s.d with
  | list ds =>
    rw [ed] at ow hk
    cases dj <;> try exact hk.elim
    rename_i j
    obtain ⟨d0, e0, hk⟩ := hk
    obtain ⟨a, xs, ea, ha, hlen, it⟩ := ow_items ow sub_hide
    cases ea
    have e0' := e0
    unfold L2.atI at e0
    cases ej : ixN ds.length j with
    | none => rw [ej] at e0; cases e0
    | some jj =>
      rw [ej] at e0
      cases d0 <;> try exact hk.elim
      rename_i x0
      obtain ⟨z, hz1, hz2⟩ := it jj _ e0 (.inr rfl)
      have hg : L2.atI xs j = some (.int x0) := by
        unfold L2.atI
        rw [hlen, ej, ← (show z = .int x0 from hz2)]
        exact hz1
      refine ⟨a0, xs, j, .int x0, rfl, zj, SqL.of ha, hg, ?_⟩
      rw [show vj = .int j from zj]
      refine ⟨c', τ, ρ1, _, so.sta, hk, fun d n ρ2 u H2 hk2 hs2 => ?_⟩
      obtain ⟨⟨q1, q2⟩, hk2⟩ := hk2
      obtain ⟨O3, so3, z3⟩ := hs2.take1
      cases d <;> try exact hk2.elim
      rename_i y0
      have hk3 := hf _ _ _ hk2
      rw [← ed] at hk3
      obtain ⟨a', xs', j', jj', ev', e1', ha', ej', d', hk', hs3⟩ := q_setL (v := .int (f x0 y0)) (n := 0) (so3.push (Out.fz (show Fz X.w _ (.int (f x0 y0)) (.int (f x0 y0)) from rfl) sub_hide)) q1 q2 (.inr (.inr rfl)) hk3
      cases e1'
      rw [ev0] at ev'; cases ev'
      exact ⟨x0, y0, rfl, z3, a0, xs', j, jj', rfl, rfl, ha', ej', hE.nx _ _ _ hk' hs3⟩
  | _ => rw [ed] at hk; exact hk.elim
theorem s_append (A : At Y N c k X) {apos cpos : Pos} (hn : nmOk N c i nm = true) (he : PE X x (tE G X.w e)) (hs : noStar x = true) (hline : (apos.endLine == cpos.line) = true) :
    PS X (.Expr (.Call (.Attribute (.Name nm p1) "append" apos) [x] [] cpos) pos) (tS X.w G (.append i e)) := by
  refine (ps_expr (pe_bm F.plainAttrs_list F.slot_list_append F.type_list_append mt_append (pe_slot A hn p1) (pa_cons he pa_nil (starEach_of hs _ _)) rfl (by rw [starEach_of hs]; rfl) hline (starEach_of hs _ _) rfl) rfl).imp fun D σ H q => ?_
  obtain ⟨c', τ, ρ, K, hs, ⟨hl, hw⟩, hE⟩ := q
  obtain ⟨a0, xs0, ev0, hx0⟩ := hs.lst hl
  refine ⟨_, ev0, .inl ⟨rfl, xs0, SqL.of hx0⟩, c', τ, ρ, _, hs, hw, fun d n ρ1 v H1 hk hs1 => ?_⟩
  obtain ⟨s, es, hlk, hk⟩ := hk
  cases ed : s.d with
  | list ds =>
    rw [ed] at hk
    obtain ⟨⟨k1, k2, k3⟩, hk⟩ := hk
    obtain ⟨a, xs, ev, ha, hlen, KK⟩ := hs1.chg es ed k1 k2
    rw [ev0] at ev; cases ev
    refine ⟨a0, xs, v, rfl, rfl, ha, by rw [hlen]; exact k3, hE.nx _ _ _ hk (KK _ _ fun R g gy h1 h2 => ⟨g ++ gy, h1.append ⟨gy, [], h2, rfl, by simp⟩, fun z hz => List.mem_append.mp hz, id⟩)⟩
  | _ => rw [ed] at hk; exact hk.elim
theorem s_extend (A : At Y N c k X) {apos cpos : Pos} (hn : nmOk N c i nm = true) (he : PE X x (tE G X.w e)) (hs : noStar x = true) (hline : (apos.endLine == cpos.line) = true) :
    PS X (.Expr (.Call (.Attribute (.Name nm p1) "extend" apos) [x] [] cpos) pos) (tS X.w G (.extend i e)) := by
  refine (ps_expr (pe_bm F.plainAttrs_list F.slot_list_extend F.type_list_extend mt_extend (pe_slot A hn p1) (pa_cons he pa_nil (starEach_of hs _ _)) rfl (by rw [starEach_of hs]; rfl) hline (starEach_of hs _ _) rfl) rfl).imp fun D σ H q => ?_
  obtain ⟨c', τ, ρ, K, hs, ⟨hl, hw⟩, hE⟩ := q
  obtain ⟨a0, xs0, ev0, hx0⟩ := hs.lst hl
  refine ⟨_, ev0, .inl ⟨rfl, xs0, SqL.of hx0⟩, c', τ, ρ, _, hs, hw, fun d n ρ1 v H1 hk hs1 => ?_⟩
  obtain ⟨s, es, hlk, hk⟩ := hk
  cases ed : s.d with
  | list ds =>
    rw [ed] at hk
    cases d <;> try exact hk.elim
    obtain ⟨⟨k1, k2⟩, hk⟩ := hk
    obtain ⟨a, b, xs, zs, ev, rfl, ha, hb, l1, l2, hs2⟩ := hs1.ext es ed k1
    rw [ev0] at ev; cases ev
    exact ⟨a0, b, xs, zs, rfl, rfl, ha, hb, by rw [l1, l2]; exact k2, hE.nx _ _ _ hk hs2⟩
  | _ => rw [ed] at hk; exact hk.elim
theorem s_insert (A : At Y N c k X) {apos cpos : Pos} (hn : nmOk N c i nm = true) (ha : PE X y (tE G X.w a)) (he : PE X x (tE G X.w e)) (hs : noStar x = true) (hs2 : noStar y = true) (hline : (apos.endLine == cpos.line) = true) :
    PS X (.Expr (.Call (.Attribute (.Name nm p1) "insert" apos) [y, x] [] cpos) pos) (tS X.w G (.insert i a e)) := by
  refine (ps_expr (pe_bm F.plainAttrs_list F.slot_list_insert F.type_list_insert mt_insert (pe_slot A hn p1) (pa_cons ha (pa_cons he pa_nil (starEach_of hs _ _)) (starEach_of hs2 _ _)) rfl (by rw [starEach_of hs2, starEach_of hs]; rfl) hline (starEach_of hs2 _ _) (by rw [starEach_of hs]; rfl)) rfl).imp fun D σ H q => ?_
  obtain ⟨c', τ, ρ, K, hs, ⟨hl, hw⟩, hE⟩ := q
  obtain ⟨a0, xs0, ev0, hx0⟩ := hs.lst hl
  refine ⟨_, ev0, .inl ⟨rfl, xs0, SqL.of hx0⟩, c', τ, ρ, _, hs, hw, fun dj nj ρ1 vj H1 hk hs1 => ⟨c', τ ++ t1 vj dj nj, ρ1, _, hs1, hk, fun d n ρ2 v H2 hk2 hs2 => ?_⟩⟩
  obtain ⟨s, es, hlk, hk2⟩ := hk2
  cases ed : s.d with
  | list ds =>
    rw [ed] at hk2
    cases dj <;> try exact hk2.elim
    rename_i j
    obtain ⟨⟨k1, k2, k3, k4, k5⟩, hk2⟩ := hk2
    have hj : vj = .int j := by
      have hs2' : Sta X.w c' σ ρ2 (τ ++ t1 vj (.int j) nj) H2 := hs2.drop
      obtain ⟨O, so, z⟩ := hs2'.take1
      exact z
    subst hj
    obtain ⟨a, xs, ev, ha, hlen, KK⟩ := (hs2.mid).chg es ed k1 k2
    rw [ev0] at ev; cases ev
    have hz := line63
    refine ⟨a0, xs, j, v, rfl, rfl, ha, by rw [hlen]; exact k5, k3, by omega, hE.nx _ _ _ hk2 (KK _ _ fun R g gy h1 h2 => OwAll.insAt j.toNat h1 h2)⟩
  | _ => rw [ed] at hk2; exact hk2.elim
end
end PL
end
section
set_option Elab.async false
set_option linter.all false
set_option maxRecDepth 100000
set_option maxHeartbeats 1000000
/-! PLX7: x, y = a, b by way of a tuple. -/
namespace PL
open L2 PyProof.Rows PySem.Spec PySem
section
variable {Y : Tx} {N : List Str} {c : Sc} {k : Nat} {X : Cx} {G : Ctx} {x y z : Expr} {pos : Pos}
theorem pg_nm (A : At Y N c k X) {i : Nat} {nm : Str} {p : Pos} (hi : N[i]? = some nm) (hl : isLoc c nm = true) : PG X (.Name nm p) (gName i) := by
  obtain ⟨l1, l2⟩ := loc_of A hl
  exact pg_name (by rw [A.names]; exact A.nd) (by rw [A.names]; exact hi) l1 l2
theorem s_parT2 (A : At Y N c k X) {i j : Nat} {n1 n2 : Str} {es : E} {kt k2 : Nat} {pt pt2 px py : Pos} (hi : N[i]? = some n1) (hj : N[j]? = some n2) (hx : isLoc c n1 = true) (hy : isLoc c n2 = true)
    (ha : PA X [x, y] (tL G X.w es)) (hw : swappedStores [.Tuple [.Name n1 px, .Name n2 py] kt pt] (.Tuple [x, y] k2 pt2) X.env = pure none) (hij : i ≠ j) :
    PS X (.Assign [.Tuple [.Name n1 px, .Name n2 py] kt pt] (.Tuple [x, y] k2 pt2) pos) (tS X.w G (.par [i, j] es)) := by
  refine (ps_asg (pe_tup ha) (pg_tup (n := 2) A.calm (pgs_cons (pg_nm A hi hx) (pgs_cons (pg_nm A hj hy) pgs_nil rfl) rfl) rfl rfl) (by rfl) hw rfl).imp fun D σ H q => ?_
  obtain ⟨c', τ, ρ, K, hs, hw, hE⟩ := q
  refine ⟨c', τ, ρ, _, hs, hw, fun ps ρ1 vs H1 hk hl hs1 => ?_⟩
  obtain ⟨⟨k1, k2, k3⟩, hk⟩ := hk
  match ps, vs, k1, hl with
  | [p, q], [v, u], _, _ =>
    refine ⟨by show 2 ≤ sizeLine; decide, fun a ha => ⟨a, [v, u], rfl, SqT.of upd_same, rfl, v, [u], rfl, u, [], rfl, rfl, hE.nx _ _ _ hk ?_⟩⟩
    have hs2 : Sta X.w c' σ ρ1 ((τ ++ t1 v p.1 p.2) ++ t1 u q.1 q.2) (upd H1 a (.tup [v, u])) := by rw [List.append_assoc]; exact hs1.grow (sub_upd ha)
    have h1 := (hs2.store (k3 j (by simp))).store (free_set2 (k3 i (by simp)) hij)
    show Sta X.w c' _ ((ρ1.set i _).set j _) τ _
    rw [List.set_comm _ _ hij, List.set_comm _ _ hij]
    exact h1
theorem s_parT3 (A : At Y N c k X) {i j l : Nat} {n1 n2 n3 : Str} {es : E} {kt k2 : Nat} {pt pt2 px py pz : Pos} (hi : N[i]? = some n1) (hj : N[j]? = some n2) (hl : N[l]? = some n3) (hx : isLoc c n1 = true) (hy : isLoc c n2 = true) (hz : isLoc c n3 = true)
    (ha : PA X [x, y, z] (tL G X.w es)) (hw : swappedStores [.Tuple [.Name n1 px, .Name n2 py, .Name n3 pz] kt pt] (.Tuple [x, y, z] k2 pt2) X.env = pure none) (hij : i ≠ j) (hil : i ≠ l) (hjl : j ≠ l) :
    PS X (.Assign [.Tuple [.Name n1 px, .Name n2 py, .Name n3 pz] kt pt] (.Tuple [x, y, z] k2 pt2) pos) (tS X.w G (.par [i, j, l] es)) := by
  refine (ps_asg (pe_tup ha) (pg_tup (n := 3) A.calm (pgs_cons (pg_nm A hi hx) (pgs_cons (pg_nm A hj hy) (pgs_cons (pg_nm A hl hz) pgs_nil rfl) rfl) rfl) rfl rfl) (by rfl) hw rfl).imp fun D σ H q => ?_
  obtain ⟨c', τ, ρ, K, hs, hw, hE⟩ := q
  refine ⟨c', τ, ρ, _, hs, hw, fun ps ρ1 vs H1 hk hl hs1 => ?_⟩
  obtain ⟨⟨k1, k2, k3⟩, hk⟩ := hk
  match ps, vs, k1, hl with
  | [p, q, r], [v, u, t], _, _ =>
    refine ⟨by show 3 ≤ sizeLine; decide, fun a ha => ⟨a, [v, u, t], rfl, SqT.of upd_same, rfl, v, [u, t], rfl, u, [t], rfl, t, [], rfl, rfl, hE.nx _ _ _ hk ?_⟩⟩
    have hs2 : Sta X.w c' σ ρ1 (((τ ++ t1 v p.1 p.2) ++ t1 u q.1 q.2) ++ t1 t r.1 r.2) (upd H1 a (.tup [v, u, t])) := by rw [List.append_assoc, List.append_assoc]; exact hs1.grow (sub_upd ha)
    have h1 := ((hs2.store (k3 l (by simp))).store (free_set2 (k3 j (by simp)) hjl)).store (free_set2 (free_set2 (k3 i (by simp)) hil) hij)
    show Sta X.w c' _ (((ρ1.set i _).set j _).set l _) τ _
    rw [List.set_comm _ _ hij, List.set_comm _ _ hil, List.set_comm _ _ hjl]
    rw [List.set_comm (l := ρ1) _ _ hij, List.set_comm _ _ hil, List.set_comm _ _ hjl]
    exact h1
end
end PL
end
section
set_option Elab.async false
set_option linter.all false
set_option maxRecDepth 100000
set_option maxHeartbeats 4000000
/-! PL22: statements that pass the check. -/
namespace PL
open L2 PyProof.Rows PySem.Spec PySem
def bkOf (sc : Scope) : ScopeKind := if sc.kind.isAnnotationScope then .function else sc.kind
def swB (sc : Scope) (value : Expr) (t : Str) (pos : Pos) : Bool := match value with
  | .ListComp _ _ s p => bkOf sc == .function && sc.names.lookup t == some .local && pos.line == p.line && !(s.names.any fun (n, k) => n == t && (k == .local || k == .cell))
  | .SetComp _ _ s p => bkOf sc == .function && sc.names.lookup t == some .local && pos.line == p.line && !(s.names.any fun (n, k) => n == t && (k == .local || k == .cell))
  | .DictComp _ _ _ s p => bkOf sc == .function && sc.names.lookup t == some .local && pos.line == p.line && !(s.names.any fun (n, k) => n == t && (k == .local || k == .cell))
  | _ => false
theorem swaps_eq {value : Expr} {t : Str} {pos : Pos} {line : Nat} {env : PySem.Env} : swapsWith value (some (.Name t pos)) line env = pure (swB env.scope value t pos) := by
  cases value <;> rfl
def swp (sc : Scope) (ts vs : List Expr) : Option (Option (List Str)) :=
  if (!(ts.length == 2 || ts.length == 3) || vs.length != ts.length || bkOf sc != .function) = true then some none
  else if (vs.any fun | .Starred .. => true | _ => false) = true then some none
  else
    let line := (ts.head?.map (·.pos.line)).getD 0
    let names := ts.filterMap fun
      | .Name id pos => if sc.names.lookup id == some .local && pos.line == line then some id else none
      | _ => none
    if (names.length != ts.length || names.eraseDups.length != names.length) = true then some none
    else if (vs.all (foldedForSure 8)) = true then some none
    else if (vs.all (constantsAlone 8)) = true then none
    else some (some names)
theorem swp_eq {ts vs : List Expr} {k k2 : Nat} {p p2 : Pos} {env : PySem.Env} {o : Option (List Str)} (h : swp env.scope ts vs = some o) : swappedStores [.Tuple ts k p] (.Tuple vs k2 p2) env = pure o := by
  unfold swp at h
  simp only at h
  unfold swappedStores
  simp only [pure_bind]
  have e1 : env.blockKind = bkOf env.scope := rfl
  rw [e1]
  split at h
  · rename_i c1
    cases h
    simp only [c1, if_true]
  · rename_i c1
    split at h
    · rename_i c2
      cases h
      exact (if_neg c1).trans (if_pos c2)
    · rename_i c2
      split at h
      · rename_i c3
        cases h
        exact (if_neg c1).trans ((if_neg c2).trans (if_pos c3))
      · rename_i c3
        split at h
        · rename_i c4
          cases h
          exact (if_neg c1).trans ((if_neg c2).trans ((if_neg c3).trans (if_pos c4)))
        · rename_i c4
          split at h
          · cases h
          · rename_i c5
            cases h
            exact (if_neg c1).trans ((if_neg c2).trans ((if_neg c3).trans ((if_neg c4).trans (if_neg c5))))
theorem swp_other {x : Expr} {es : List Expr} {k : Nat} {p : Pos} {env : PySem.Env} (h : ∀ vs k p, x ≠ .Tuple vs k p) : swappedStores [.Tuple es k p] x env = pure none := by
  cases x <;> first | rfl | exact absurd rfl (h _ _ _)
def isCall : Expr → Bool | .Call _ _ _ _ => true | _ => false
def isLcE : E → Bool | .lc _ _ _ _ _ _ => true | _ => false
section
variable (Y : Tx) (N : List Str) (c : Sc)
def unpOk (ts : List Expr) : Expr → Bool
  | .Tuple vs _ _ => swp c.sc ts vs == some none
  | _ => true
mutual
def trS : Sm → Stmt → Bool
  | .dead, _ => true
  | .pass, .Pass _ => true
  | .brk, .Break _ => true
  | .cont, .Continue _ => true
  | .expr e, .Expr x _ => isCall x && trE Y N c e x
  | .asg i e, .Assign [.Name nm p] x _ => N[i]? == some nm && isLoc c nm && trE Y N c e x && (!swB c.sc x nm p || (isLcE e && c.sc.names.lookup nm == some .local))
  | .unp tg e, .Assign [.Tuple ts k p] x _ => trG N c tg (.Tuple ts k p) && trE Y N c e x && unpOk c ts x
  | .par [i, j] es, .Assign [.Tuple [.Name n1 p1, .Name n2 p2] _ _] (.Tuple [x, y] _ _) _ => N[i]? == some n1 && N[j]? == some n2 && decide (i ≠ j) && trL Y N c es [x, y] && ((c.sc.names.lookup n1 == some .local && c.sc.names.lookup n2 == some .local && swp c.sc [.Name n1 p1, .Name n2 p2] [x, y] == some (some [n1, n2])) || (isLoc c n1 && isLoc c n2 && swp c.sc [.Name n1 p1, .Name n2 p2] [x, y] == some none))
  | .par [i, j, l] es, .Assign [.Tuple [.Name n1 p1, .Name n2 p2, .Name n3 p3] _ _] (.Tuple [x, y, z] _ _) _ => N[i]? == some n1 && N[j]? == some n2 && N[l]? == some n3 && decide (i ≠ j) && decide (i ≠ l) && decide (j ≠ l) && trL Y N c es [x, y, z] && ((c.sc.names.lookup n1 == some .local && c.sc.names.lookup n2 == some .local && c.sc.names.lookup n3 == some .local && swp c.sc [.Name n1 p1, .Name n2 p2, .Name n3 p3] [x, y, z] == some (some [n1, n2, n3])) || (isLoc c n1 && isLoc c n2 && isLoc c n3 && swp c.sc [.Name n1 p1, .Name n2 p2, .Name n3 p3] [x, y, z] == some none))
  | .setIx i b e, .Assign [.Subscript (.Name nm _) y _] x _ => nmOk N c i nm && notSlice y && trE Y N c b y && trE Y N c e x
  | .aug i .add e, .AugAssign (.Name nm _) .Add x _ => N[i]? == some nm && isLoc c nm && trE Y N c e x
  | .aug i .sub e, .AugAssign (.Name nm _) .Sub x _ => N[i]? == some nm && isLoc c nm && trE Y N c e x
  | .augIx i b .add e, .AugAssign (.Subscript (.Name nm _) y _) .Add x _ => nmOk N c i nm && notSlice y && trE Y N c b y && trE Y N c e x
  | .augIx i b .sub e, .AugAssign (.Subscript (.Name nm _) y _) .Sub x _ => nmOk N c i nm && notSlice y && trE Y N c b y && trE Y N c e x
  | .append i e, .Expr (.Call (.Attribute (.Name nm _) at_ apos) [x] [] cpos) _ => decide (at_ = ("append" : Str)) && nmOk N c i nm && noStar x && (apos.endLine == cpos.line) && trE Y N c e x
  | .extend i e, .Expr (.Call (.Attribute (.Name nm _) at_ apos) [x] [] cpos) _ => decide (at_ = ("extend" : Str)) && nmOk N c i nm && noStar x && (apos.endLine == cpos.line) && trE Y N c e x
  | .insert i a e, .Expr (.Call (.Attribute (.Name nm _) at_ apos) [y, x] [] cpos) _ => decide (at_ = ("insert" : Str)) && nmOk N c i nm && noStar x && noStar y && (apos.endLine == cpos.line) && trE Y N c a y && trE Y N c e x
  | .ret e, .Return (some x) _ => trE Y N c e x
  | .retS i, .Return (some (.Name nm _)) _ => nmOk N c i nm
  | .retN, .Return none _ => true
  | .ite e a b, .If x s1 s2 _ => trE Y N c e x && trSs a s1 && trSs b s2
  | .for_ tg it m, .For xt xi s1 [] _ => trI Y N c it xi xt && trG N c tg xt && trSs m s1
  | .while_ e m, .While x s1 [] _ => trE Y N c e x && trSs m s1
  | _, _ => false
def trSs : Sm → List Stmt → Bool
  | .nil, [] => true
  | .seq (.frz _) r, ss => trSs r ss
  | .seq a r, s :: ss => trS a s && trSs r ss
  | _, _ => false
end
end
section
variable {Y : Tx} {N : List Str} {c : Sc} {k : Nat} {X : Cx}
theorem or2 {a b : Bool} (h : (a || b) = true) : a = true ∨ b = true := by simpa using h
theorem lc_parts {m : Nat} {elt it ifs : E} {tg : Tg} {vs : List Nat} {xe : Expr} {gens : List Comprehension} {scope : Scope} {p : Pos} (A : At Y N c k X) (h : trE Y N c (.lc m elt tg it ifs vs) (.ListComp xe gens scope p) = true) :
    ∃ t i fs, gens = [⟨t, i, fs, 0⟩] ∧ blkOk N c scope vs = true ∧ (tgVars tg).all (fun v => decide (v ∈ vs)) = true ∧ trI Y N c it i t = true ∧ trG N (c.blk scope) tg t = true ∧ trF Y N (c.blk scope) ifs fs = true ∧ trE Y N (c.blk scope) elt xe = true := by
  cases gens with
  | nil => exact absurd h Bool.false_ne_true
  | cons g gens => cases gens with
    | cons g2 gens =>
      obtain ⟨a1, a2, a3, a4⟩ := g
      cases a4 with
      | negSucc n => exact absurd h Bool.false_ne_true
      | ofNat n => cases n <;> exact absurd h Bool.false_ne_true
    | nil =>
      obtain ⟨t, i, fs, as⟩ := g
      cases as with
      | negSucc n => exact absurd h Bool.false_ne_true
      | ofNat n => cases n with
       | succ => exact absurd h Bool.false_ne_true
       | zero =>
        obtain ⟨h1, h2⟩ := and2 (show (((((blkOk N c scope vs && (tgVars tg).all (fun v => decide (v ∈ vs))) && trI Y N c it i t) && trG N (c.blk scope) tg t) && trF Y N (c.blk scope) ifs fs) && trE Y N (c.blk scope) elt xe) = true from h)
        obtain ⟨h1, h3⟩ := and2 h1
        obtain ⟨h1, h4⟩ := and2 h1
        obtain ⟨h1, h5⟩ := and2 h1
        obtain ⟨h1, h6⟩ := and2 h1
        exact ⟨t, i, fs, rfl, h1, h6, h5, h4, h3, h2⟩
mutual
theorem sS (A : At Y N c k X) : ∀ (m : Sm) (st : Stmt), trS Y N c m st = true → PS X st (tS X.w (ctx Y.T k noX) m)
  | .dead, st, h => s_dead
  | .pass, st, h => by
    cases st with
    | Pass => exact s_pass
    | _ => exact absurd h Bool.false_ne_true
  | .brk, st, h => by
    cases st with
    | Break => exact s_brk
    | _ => exact absurd h Bool.false_ne_true
  | .cont, st, h => by
    cases st with
    | Continue => exact s_cont
    | _ => exact absurd h Bool.false_ne_true
  | .expr e, st, h => by
    cases st with
    | Expr x p =>
      obtain ⟨h1, h2⟩ := and2 (show (isCall x && trE Y N c e x) = true from h)
      exact s_expr (sE e c X x h2 A).pe (by cases x <;> first | rfl | exact absurd h1 Bool.false_ne_true)
    | _ => exact absurd h Bool.false_ne_true
  | .asg i e, st, h => by
    cases st with
    | Assign ts x p =>
      cases ts with
      | nil => exact absurd h Bool.false_ne_true
      | cons t ts => cases t with
        | Name nm q => cases ts with
          | cons => exact absurd h Bool.false_ne_true
          | nil =>
            obtain ⟨h1, h2⟩ := and2 (show (((N[i]? == some nm && isLoc c nm) && trE Y N c e x) && (!swB c.sc x nm q || (isLcE e && c.sc.names.lookup nm == some .local))) = true from h)
            obtain ⟨h1, h3⟩ := and2 h1
            obtain ⟨h1, h4⟩ := and2 h1
            have hN : N[i]? = some nm := by simpa using h1
            cases hb : swB c.sc x nm q with
            | false => exact s_asg A hN h4 (sE e c X x h3 A).pe (by rw [swaps_eq, A.scope, hb])
            | true =>
              rw [hb] at h2
              obtain ⟨h5, h6⟩ := and2 (show (isLcE e && c.sc.names.lookup nm == some .local) = true from h2)
              cases e with
              | lc m elt tg it ifs vs =>
                cases x with
                | ListComp xe gens scope p2 =>
                  obtain ⟨t, xi, fs, rfl, g1, g2, g3, g4, g5, g6⟩ := lc_parts A h3
                  obtain ⟨hi, hu⟩ := sI it c X xi t g3 A
                  exact s_asgLc A hN (by simpa using h6) (by rw [swaps_eq, A.scope, hb]) g1 g2 hi g4 (fun s H C cl fp => sF ifs _ _ _ g5 (A.blk s H scope C cl fp)) (fun s H C cl fp => (sE elt _ _ _ g6 (A.blk s H scope C cl fp)).pe) hu
                | _ => exact absurd h3 Bool.false_ne_true
              | _ => exact absurd h5 Bool.false_ne_true
        | _ => exact absurd h Bool.false_ne_true
    | _ => exact absurd h Bool.false_ne_true
  | .unp tg e, st, h => by
    cases st with
    | Assign ts x p =>
      cases ts with
      | nil => exact absurd h Bool.false_ne_true
      | cons t ts => cases t with
        | Tuple es kk q => cases ts with
          | cons => exact absurd h Bool.false_ne_true
          | nil =>
            obtain ⟨h1, h2⟩ := and2 (show ((trG N c tg (.Tuple es kk q) && trE Y N c e x) && unpOk c es x) = true from h)
            obtain ⟨h1, h3⟩ := and2 h1
            refine s_unp A h1 (sE e c X x h3 A).pe ?_
            cases x with
            | Tuple vs k2 p2 => exact swp_eq (by rw [A.scope]; simpa [unpOk] using h2)
            | _ => exact swp_other fun _ _ _ => nofun
        | _ => exact absurd h Bool.false_ne_true
    | _ => exact absurd h Bool.false_ne_true
  | .par is es, st, h => by
    cases st with
    | Assign ts x p =>
      match is, ts, x, h with
      | [i, j], [.Tuple [.Name n1 p1, .Name n2 p2] kt pt], .Tuple [x, y] k2 pt2, h =>
        obtain ⟨h1, h2⟩ := and2 (show ((((N[i]? == some n1 && N[j]? == some n2) && decide (i ≠ j)) && trL Y N c es [x, y]) && ((c.sc.names.lookup n1 == some .local && c.sc.names.lookup n2 == some .local && swp c.sc [.Name n1 p1, .Name n2 p2] [x, y] == some (some [n1, n2])) || (isLoc c n1 && isLoc c n2 && swp c.sc [.Name n1 p1, .Name n2 p2] [x, y] == some none))) = true from h)
        obtain ⟨h1, h3⟩ := and2 h1
        obtain ⟨h1, h4⟩ := and2 h1
        obtain ⟨h1, h5⟩ := and2 h1
        rcases or2 h2 with h2 | h2
        · obtain ⟨h2, h6⟩ := and2 h2
          obtain ⟨h2, h7⟩ := and2 h2
          exact s_par2 A (by simpa using h1) (by simpa using h5) (by simpa using h2) (by simpa using h7) (sL es c X _ h3 A) (swp_eq (by rw [A.scope]; simpa using h6)) (of_decide_eq_true h4)
        · obtain ⟨h2, h6⟩ := and2 h2
          obtain ⟨h2, h7⟩ := and2 h2
          exact s_parT2 A (by simpa using h1) (by simpa using h5) h2 h7 (sL es c X _ h3 A) (swp_eq (by rw [A.scope]; simpa using h6)) (of_decide_eq_true h4)
      | [i, j, l], [.Tuple [.Name n1 p1, .Name n2 p2, .Name n3 p3] kt pt], .Tuple [x, y, z] k2 pt2, h =>
        obtain ⟨h1, h2⟩ := and2 (show (((((((N[i]? == some n1 && N[j]? == some n2) && N[l]? == some n3) && decide (i ≠ j)) && decide (i ≠ l)) && decide (j ≠ l)) && trL Y N c es [x, y, z]) && ((c.sc.names.lookup n1 == some .local && c.sc.names.lookup n2 == some .local && c.sc.names.lookup n3 == some .local && swp c.sc [.Name n1 p1, .Name n2 p2, .Name n3 p3] [x, y, z] == some (some [n1, n2, n3])) || (isLoc c n1 && isLoc c n2 && isLoc c n3 && swp c.sc [.Name n1 p1, .Name n2 p2, .Name n3 p3] [x, y, z] == some none))) = true from h)
        obtain ⟨h1, h3⟩ := and2 h1
        obtain ⟨h1, h4⟩ := and2 h1
        obtain ⟨h1, h5⟩ := and2 h1
        obtain ⟨h1, h6⟩ := and2 h1
        obtain ⟨h1, h7⟩ := and2 h1
        obtain ⟨h1, h8⟩ := and2 h1
        rcases or2 h2 with h2 | h2
        · obtain ⟨h2, h9⟩ := and2 h2
          obtain ⟨h2, h10⟩ := and2 h2
          obtain ⟨h2, h11⟩ := and2 h2
          exact s_par3 A (by simpa using h1) (by simpa using h8) (by simpa using h7) (by simpa using h2) (by simpa using h11) (by simpa using h10) (sL es c X _ h3 A) (swp_eq (by rw [A.scope]; simpa using h9)) (of_decide_eq_true h6) (of_decide_eq_true h5) (of_decide_eq_true h4)
        · obtain ⟨h2, h9⟩ := and2 h2
          obtain ⟨h2, h10⟩ := and2 h2
          obtain ⟨h2, h11⟩ := and2 h2
          exact s_parT3 A (by simpa using h1) (by simpa using h8) (by simpa using h7) h2 h11 h10 (sL es c X _ h3 A) (swp_eq (by rw [A.scope]; simpa using h9)) (of_decide_eq_true h6) (of_decide_eq_true h5) (of_decide_eq_true h4)
    | _ => rcases is with _ | ⟨i, _ | ⟨j, _ | ⟨l, _ | ⟨_, _⟩⟩⟩⟩ <;> exact absurd h Bool.false_ne_true
  | .setIx i b e, st, h => by
    cases st with
    | Assign ts x p =>
      match ts, h with
      | [.Subscript (.Name nm q) y q2], h =>
        obtain ⟨h1, h2⟩ := and2 (show (((nmOk N c i nm && notSlice y) && trE Y N c b y) && trE Y N c e x) = true from h)
        obtain ⟨h1, h3⟩ := and2 h1
        obtain ⟨h1, h4⟩ := and2 h1
        exact s_setIx A h1 (sE b c X y h3 A).pe (sE e c X x h2 A).pe h4
    | _ => exact absurd h Bool.false_ne_true
  | .aug i op e, st, h => by
    cases st with
    | AugAssign t o x p =>
      match op, t, o, h with
      | .add, .Name nm q, .Add, h =>
        obtain ⟨h1, h2⟩ := and2 (show ((N[i]? == some nm && isLoc c nm) && trE Y N c e x) = true from h)
        obtain ⟨h1, h3⟩ := and2 h1
        exact s_aug A (by simpa using h1) h3 ip_add (fun _ _ _ h => h) (sE e c X x h2 A).pe
      | .sub, .Name nm q, .Sub, h =>
        obtain ⟨h1, h2⟩ := and2 (show ((N[i]? == some nm && isLoc c nm) && trE Y N c e x) = true from h)
        obtain ⟨h1, h3⟩ := and2 h1
        exact s_aug A (by simpa using h1) h3 ip_sub (fun _ _ _ h => h) (sE e c X x h2 A).pe
    | _ => cases op <;> exact absurd h Bool.false_ne_true
  | .augIx i b op e, st, h => by
    cases st with
    | AugAssign t o x p =>
      match op, t, o, h with
      | .add, .Subscript (.Name nm q) y q2, .Add, h =>
        obtain ⟨h1, h2⟩ := and2 (show (((nmOk N c i nm && notSlice y) && trE Y N c b y) && trE Y N c e x) = true from h)
        obtain ⟨h1, h3⟩ := and2 h1
        obtain ⟨h1, h4⟩ := and2 h1
        exact s_augIx A h1 ip_add (fun _ _ _ h => h) (sE b c X y h3 A).pe (sE e c X x h2 A).pe h4
      | .sub, .Subscript (.Name nm q) y q2, .Sub, h =>
        obtain ⟨h1, h2⟩ := and2 (show (((nmOk N c i nm && notSlice y) && trE Y N c b y) && trE Y N c e x) = true from h)
        obtain ⟨h1, h3⟩ := and2 h1
        obtain ⟨h1, h4⟩ := and2 h1
        exact s_augIx A h1 ip_sub (fun _ _ _ h => h) (sE b c X y h3 A).pe (sE e c X x h2 A).pe h4
    | _ => cases op <;> exact absurd h Bool.false_ne_true
  | .append i e, st, h => by
    cases st with
    | Expr x p =>
      match x, h with
      | .Call (.Attribute (.Name nm q) at_ apos) [x] [] cpos, h =>
        obtain ⟨h1, h2⟩ := and2 (show ((((decide (at_ = ("append" : Str)) && nmOk N c i nm) && noStar x) && (apos.endLine == cpos.line)) && trE Y N c e x) = true from h)
        obtain ⟨h1, h3⟩ := and2 h1
        obtain ⟨h1, h4⟩ := and2 h1
        obtain ⟨h1, h5⟩ := and2 h1
        have ea := of_decide_eq_true h1
        subst ea
        exact s_append A h5 (sE e c X x h2 A).pe h4 h3
    | _ => exact absurd h Bool.false_ne_true
  | .extend i e, st, h => by
    cases st with
    | Expr x p =>
      match x, h with
      | .Call (.Attribute (.Name nm q) at_ apos) [x] [] cpos, h =>
        obtain ⟨h1, h2⟩ := and2 (show ((((decide (at_ = ("extend" : Str)) && nmOk N c i nm) && noStar x) && (apos.endLine == cpos.line)) && trE Y N c e x) = true from h)
        obtain ⟨h1, h3⟩ := and2 h1
        obtain ⟨h1, h4⟩ := and2 h1
        obtain ⟨h1, h5⟩ := and2 h1
        have ea := of_decide_eq_true h1
        subst ea
        exact s_extend A h5 (sE e c X x h2 A).pe h4 h3
    | _ => exact absurd h Bool.false_ne_true
  | .insert i a e, st, h => by
    cases st with
    | Expr x p =>
      match x, h with
      | .Call (.Attribute (.Name nm q) at_ apos) [y, x] [] cpos, h =>
        obtain ⟨h1, h2⟩ := and2 (show ((((((decide (at_ = ("insert" : Str)) && nmOk N c i nm) && noStar x) && noStar y) && (apos.endLine == cpos.line)) && trE Y N c a y) && trE Y N c e x) = true from h)
        obtain ⟨h1, h3⟩ := and2 h1
        obtain ⟨h1, h4⟩ := and2 h1
        obtain ⟨h1, h5⟩ := and2 h1
        obtain ⟨h1, h6⟩ := and2 h1
        obtain ⟨h1, h7⟩ := and2 h1
        have ea := of_decide_eq_true h1
        subst ea
        exact s_insert A h7 (sE a c X y h3 A).pe (sE e c X x h2 A).pe h6 h5 h4
    | _ => exact absurd h Bool.false_ne_true
  | .ret e, st, h => by
    cases st with
    | Return x p =>
      cases x with
      | none => exact absurd h Bool.false_ne_true
      | some x => exact s_ret (sE e c X x h A).pe
    | _ => exact absurd h Bool.false_ne_true
  | .retS i, st, h => by
    cases st with
    | Return x p =>
      cases x with
      | none => exact absurd h Bool.false_ne_true
      | some x => cases x with
        | Name => exact s_retS A h
        | _ => exact absurd h Bool.false_ne_true
    | _ => exact absurd h Bool.false_ne_true
  | .retN, st, h => by
    cases st with
    | Return x p =>
      cases x with
      | none => exact s_retN
      | some x => exact absurd h Bool.false_ne_true
    | _ => exact absurd h Bool.false_ne_true
  | .ite e a b, st, h => by
    cases st with
    | If x s1 s2 p =>
      obtain ⟨h1, h2⟩ := and2 (show ((trE Y N c e x && trSs Y N c a s1) && trSs Y N c b s2) = true from h)
      obtain ⟨h1, h3⟩ := and2 h1
      exact s_ite (sE e c X x h1 A).pt (sSs A a s1 h3) (sSs A b s2 h2)
    | _ => exact absurd h Bool.false_ne_true
  | .for_ tg it m, st, h => by
    cases st with
    | For xt xi s1 s2 p =>
      cases s2 with
      | cons => exact absurd h Bool.false_ne_true
      | nil =>
        obtain ⟨h1, h2⟩ := and2 (show ((trI Y N c it xi xt && trG N c tg xt) && trSs Y N c m s1) = true from h)
        obtain ⟨h1, h3⟩ := and2 h1
        obtain ⟨hi, hu⟩ := sI it c X xi xt h1 A
        exact s_for A hi hu h3 (sSs A m s1 h2)
    | _ => exact absurd h Bool.false_ne_true
  | .while_ e m, st, h => by
    cases st with
    | While x s1 s2 p =>
      cases s2 with
      | cons => exact absurd h Bool.false_ne_true
      | nil =>
        obtain ⟨h1, h2⟩ := and2 (show (trE Y N c e x && trSs Y N c m s1) = true from h)
        exact s_while A (sE e c X x h1 A).pt (sSs A m s1 h2)
    | _ => exact absurd h Bool.false_ne_true
  | .nil, st, h => absurd h Bool.false_ne_true
  | .seq _ _, st, h => absurd h Bool.false_ne_true
  | .setIx2 _ _ _ _, st, h => absurd h Bool.false_ne_true
  | .append2 _ _ _, st, h => absurd h Bool.false_ne_true
  | .clear _, st, h => absurd h Bool.false_ne_true
  | .frz _, st, h => absurd h Bool.false_ne_true
  | .raise_ _ _, st, h => absurd h Bool.false_ne_true
theorem sSs (A : At Y N c k X) : ∀ (m : Sm) (sts : List Stmt), trSs Y N c m sts = true → PSs X sts (tS X.w (ctx Y.T k noX) m)
  | .nil, sts, h => by
    cases sts with
    | nil => exact s_nil
    | cons => exact absurd h Bool.false_ne_true
  | .seq (.frz i) r, sts, h => s_frz (sSs A r sts h)
  | .seq (.nil) r, sts, h => by
    cases sts with
    | nil => exact absurd h Bool.false_ne_true
    | cons st sts =>
      obtain ⟨h1, h2⟩ := and2 (show (trS Y N c (.nil) st && trSs Y N c r sts) = true from h)
      exact s_seq (sS A (.nil) st h1) (sSs A r sts h2)
  | .seq (.seq u0 u1) r, sts, h => by
    cases sts with
    | nil => exact absurd h Bool.false_ne_true
    | cons st sts =>
      obtain ⟨h1, h2⟩ := and2 (show (trS Y N c (.seq u0 u1) st && trSs Y N c r sts) = true from h)
      exact s_seq (sS A (.seq u0 u1) st h1) (sSs A r sts h2)
  | .seq (.pass) r, sts, h => by
    cases sts with
    | nil => exact absurd h Bool.false_ne_true
    | cons st sts =>
      obtain ⟨h1, h2⟩ := and2 (show (trS Y N c (.pass) st && trSs Y N c r sts) = true from h)
      exact s_seq (sS A (.pass) st h1) (sSs A r sts h2)
  | .seq (.expr u0) r, sts, h => by
    cases sts with
    | nil => exact absurd h Bool.false_ne_true
    | cons st sts =>
      obtain ⟨h1, h2⟩ := and2 (show (trS Y N c (.expr u0) st && trSs Y N c r sts) = true from h)
      exact s_seq (sS A (.expr u0) st h1) (sSs A r sts h2)
  | .seq (.asg u0 u1) r, sts, h => by
    cases sts with
    | nil => exact absurd h Bool.false_ne_true
    | cons st sts =>
      obtain ⟨h1, h2⟩ := and2 (show (trS Y N c (.asg u0 u1) st && trSs Y N c r sts) = true from h)
      exact s_seq (sS A (.asg u0 u1) st h1) (sSs A r sts h2)
  | .seq (.unp u0 u1) r, sts, h => by
    cases sts with
    | nil => exact absurd h Bool.false_ne_true
    | cons st sts =>
      obtain ⟨h1, h2⟩ := and2 (show (trS Y N c (.unp u0 u1) st && trSs Y N c r sts) = true from h)
      exact s_seq (sS A (.unp u0 u1) st h1) (sSs A r sts h2)
  | .seq (.par u0 u1) r, sts, h => by
    cases sts with
    | nil => exact absurd h Bool.false_ne_true
    | cons st sts =>
      obtain ⟨h1, h2⟩ := and2 (show (trS Y N c (.par u0 u1) st && trSs Y N c r sts) = true from h)
      exact s_seq (sS A (.par u0 u1) st h1) (sSs A r sts h2)
  | .seq (.setIx u0 u1 u2) r, sts, h => by
    cases sts with
    | nil => exact absurd h Bool.false_ne_true
    | cons st sts =>
      obtain ⟨h1, h2⟩ := and2 (show (trS Y N c (.setIx u0 u1 u2) st && trSs Y N c r sts) = true from h)
      exact s_seq (sS A (.setIx u0 u1 u2) st h1) (sSs A r sts h2)
  | .seq (.setIx2 u0 u1 u2 u3) r, sts, h => by
    cases sts with
    | nil => exact absurd h Bool.false_ne_true
    | cons st sts =>
      obtain ⟨h1, h2⟩ := and2 (show (trS Y N c (.setIx2 u0 u1 u2 u3) st && trSs Y N c r sts) = true from h)
      exact s_seq (sS A (.setIx2 u0 u1 u2 u3) st h1) (sSs A r sts h2)
  | .seq (.aug u0 u1 u2) r, sts, h => by
    cases sts with
    | nil => exact absurd h Bool.false_ne_true
    | cons st sts =>
      obtain ⟨h1, h2⟩ := and2 (show (trS Y N c (.aug u0 u1 u2) st && trSs Y N c r sts) = true from h)
      exact s_seq (sS A (.aug u0 u1 u2) st h1) (sSs A r sts h2)
  | .seq (.augIx u0 u1 u2 u3) r, sts, h => by
    cases sts with
    | nil => exact absurd h Bool.false_ne_true
    | cons st sts =>
      obtain ⟨h1, h2⟩ := and2 (show (trS Y N c (.augIx u0 u1 u2 u3) st && trSs Y N c r sts) = true from h)
      exact s_seq (sS A (.augIx u0 u1 u2 u3) st h1) (sSs A r sts h2)
  | .seq (.append u0 u1) r, sts, h => by
    cases sts with
    | nil => exact absurd h Bool.false_ne_true
    | cons st sts =>
      obtain ⟨h1, h2⟩ := and2 (show (trS Y N c (.append u0 u1) st && trSs Y N c r sts) = true from h)
      exact s_seq (sS A (.append u0 u1) st h1) (sSs A r sts h2)
  | .seq (.append2 u0 u1 u2) r, sts, h => by
    cases sts with
    | nil => exact absurd h Bool.false_ne_true
    | cons st sts =>
      obtain ⟨h1, h2⟩ := and2 (show (trS Y N c (.append2 u0 u1 u2) st && trSs Y N c r sts) = true from h)
      exact s_seq (sS A (.append2 u0 u1 u2) st h1) (sSs A r sts h2)
  | .seq (.extend u0 u1) r, sts, h => by
    cases sts with
    | nil => exact absurd h Bool.false_ne_true
    | cons st sts =>
      obtain ⟨h1, h2⟩ := and2 (show (trS Y N c (.extend u0 u1) st && trSs Y N c r sts) = true from h)
      exact s_seq (sS A (.extend u0 u1) st h1) (sSs A r sts h2)
  | .seq (.insert u0 u1 u2) r, sts, h => by
    cases sts with
    | nil => exact absurd h Bool.false_ne_true
    | cons st sts =>
      obtain ⟨h1, h2⟩ := and2 (show (trS Y N c (.insert u0 u1 u2) st && trSs Y N c r sts) = true from h)
      exact s_seq (sS A (.insert u0 u1 u2) st h1) (sSs A r sts h2)
  | .seq (.clear u0) r, sts, h => by
    cases sts with
    | nil => exact absurd h Bool.false_ne_true
    | cons st sts =>
      obtain ⟨h1, h2⟩ := and2 (show (trS Y N c (.clear u0) st && trSs Y N c r sts) = true from h)
      exact s_seq (sS A (.clear u0) st h1) (sSs A r sts h2)
  | .seq (.ret u0) r, sts, h => by
    cases sts with
    | nil => exact absurd h Bool.false_ne_true
    | cons st sts =>
      obtain ⟨h1, h2⟩ := and2 (show (trS Y N c (.ret u0) st && trSs Y N c r sts) = true from h)
      exact s_seq (sS A (.ret u0) st h1) (sSs A r sts h2)
  | .seq (.retS u0) r, sts, h => by
    cases sts with
    | nil => exact absurd h Bool.false_ne_true
    | cons st sts =>
      obtain ⟨h1, h2⟩ := and2 (show (trS Y N c (.retS u0) st && trSs Y N c r sts) = true from h)
      exact s_seq (sS A (.retS u0) st h1) (sSs A r sts h2)
  | .seq (.retN) r, sts, h => by
    cases sts with
    | nil => exact absurd h Bool.false_ne_true
    | cons st sts =>
      obtain ⟨h1, h2⟩ := and2 (show (trS Y N c (.retN) st && trSs Y N c r sts) = true from h)
      exact s_seq (sS A (.retN) st h1) (sSs A r sts h2)
  | .seq (.ite u0 u1 u2) r, sts, h => by
    cases sts with
    | nil => exact absurd h Bool.false_ne_true
    | cons st sts =>
      obtain ⟨h1, h2⟩ := and2 (show (trS Y N c (.ite u0 u1 u2) st && trSs Y N c r sts) = true from h)
      exact s_seq (sS A (.ite u0 u1 u2) st h1) (sSs A r sts h2)
  | .seq (.for_ u0 u1 u2) r, sts, h => by
    cases sts with
    | nil => exact absurd h Bool.false_ne_true
    | cons st sts =>
      obtain ⟨h1, h2⟩ := and2 (show (trS Y N c (.for_ u0 u1 u2) st && trSs Y N c r sts) = true from h)
      exact s_seq (sS A (.for_ u0 u1 u2) st h1) (sSs A r sts h2)
  | .seq (.while_ u0 u1) r, sts, h => by
    cases sts with
    | nil => exact absurd h Bool.false_ne_true
    | cons st sts =>
      obtain ⟨h1, h2⟩ := and2 (show (trS Y N c (.while_ u0 u1) st && trSs Y N c r sts) = true from h)
      exact s_seq (sS A (.while_ u0 u1) st h1) (sSs A r sts h2)
  | .seq (.brk) r, sts, h => by
    cases sts with
    | nil => exact absurd h Bool.false_ne_true
    | cons st sts =>
      obtain ⟨h1, h2⟩ := and2 (show (trS Y N c (.brk) st && trSs Y N c r sts) = true from h)
      exact s_seq (sS A (.brk) st h1) (sSs A r sts h2)
  | .seq (.cont) r, sts, h => by
    cases sts with
    | nil => exact absurd h Bool.false_ne_true
    | cons st sts =>
      obtain ⟨h1, h2⟩ := and2 (show (trS Y N c (.cont) st && trSs Y N c r sts) = true from h)
      exact s_seq (sS A (.cont) st h1) (sSs A r sts h2)
  | .seq (.raise_ u0 u1) r, sts, h => by
    cases sts with
    | nil => exact absurd h Bool.false_ne_true
    | cons st sts =>
      obtain ⟨h1, h2⟩ := and2 (show (trS Y N c (.raise_ u0 u1) st && trSs Y N c r sts) = true from h)
      exact s_seq (sS A (.raise_ u0 u1) st h1) (sSs A r sts h2)
  | .seq (.dead) r, sts, h => by
    cases sts with
    | nil => exact absurd h Bool.false_ne_true
    | cons st sts =>
      obtain ⟨h1, h2⟩ := and2 (show (trS Y N c (.dead) st && trSs Y N c r sts) = true from h)
      exact s_seq (sS A (.dead) st h1) (sSs A r sts h2)
  | .pass, sts, h => absurd h Bool.false_ne_true
  | .expr _, sts, h => absurd h Bool.false_ne_true
  | .asg _ _, sts, h => absurd h Bool.false_ne_true
  | .unp _ _, sts, h => absurd h Bool.false_ne_true
  | .par _ _, sts, h => absurd h Bool.false_ne_true
  | .setIx _ _ _, sts, h => absurd h Bool.false_ne_true
  | .setIx2 _ _ _ _, sts, h => absurd h Bool.false_ne_true
  | .aug _ _ _, sts, h => absurd h Bool.false_ne_true
  | .augIx _ _ _ _, sts, h => absurd h Bool.false_ne_true
  | .append _ _, sts, h => absurd h Bool.false_ne_true
  | .append2 _ _ _, sts, h => absurd h Bool.false_ne_true
  | .extend _ _, sts, h => absurd h Bool.false_ne_true
  | .insert _ _ _, sts, h => absurd h Bool.false_ne_true
  | .clear _, sts, h => absurd h Bool.false_ne_true
  | .ret _, sts, h => absurd h Bool.false_ne_true
  | .retS _, sts, h => absurd h Bool.false_ne_true
  | .retN, sts, h => absurd h Bool.false_ne_true
  | .ite _ _ _, sts, h => absurd h Bool.false_ne_true
  | .for_ _ _ _, sts, h => absurd h Bool.false_ne_true
  | .while_ _ _, sts, h => absurd h Bool.false_ne_true
  | .brk, sts, h => absurd h Bool.false_ne_true
  | .cont, sts, h => absurd h Bool.false_ne_true
  | .raise_ _ _, sts, h => absurd h Bool.false_ne_true
  | .dead, sts, h => absurd h Bool.false_ne_true
  | .frz _, sts, h => absurd h Bool.false_ne_true
end
end
end PL
end
section
set_option Elab.async false
set_option linter.all false
set_option maxRecDepth 100000
set_option maxHeartbeats 2000000
/-! PL23: defs keep the promise of their text. -/
namespace PL
open L2 PyProof.Rows PySem.Spec PySem
/-- what is known of def f -/
structure FnDef (Y : Tx) (K : Fg) (mg : Str → Option Value) (f : Nat) (d : FnI) : Prop where
  ex : ∃ (a : Addr) (x qual : Str) (params : Arguments) (body : List Stmt) (scope : Scope) (fd : FuncData) (N ps : List Str), mg (d.name : Str) = some (.ref a) ∧ PySem.W.keepIn K (.ref a) = true ∧ FunD K x qual params body scope [] [] a fd ∧ FnScope N ps scope ∧
    (∀ (s : Shared) (us : List Value), us.length = ps.length → BindsTo s fd ⟨us, []⟩ (ps.zip us)) ∧ ps.length = d.np ∧ N.length = d.ns ∧ d.lend.length = d.np ∧ N.Nodup ∧ trSs Y N ⟨scope, none⟩ d.body body = true
section
variable {w : World} {F F' H H' : Hp}
theorem OutsR.mono (s : Sub F F') : ∀ {ls : List Nat} {vs : List V} {ds : List PyData} {fp : List Addr}, OutsR w F H ls vs ds fp → OutsR w F' H ls vs ds fp
  | [], [], [], _, h => h
  | 0 :: ls, v :: vs, ds, fp, h => by
    have h : OutsR w F H ls vs ds fp := by cases ds <;> exact h
    have := OutsR.mono s h
    cases ds <;> exact this
  | (l + 1) :: ls, v :: vs, d :: ds, fp, ⟨f, g, h1, h2, e⟩ => ⟨f, g, Ow.mono s _ _ _ _ h1 fun _ _ _ z => z, OutsR.mono s h2, e⟩
  | [], _ :: _, _, _, h => by cases h
  | [], [], _ :: _, _, h => by cases h
  | 0 :: _, [], ds, _, h => by cases ds <;> cases h
  | (_ + 1) :: _, [], _, _, h => by cases h
  | (_ + 1) :: _, _ :: _, [], _, h => by cases h
/-- the lent slots' trees at the end -/
theorem outs_of {σ : List (Option V)} {ρ : Env} (hl : ρ.length = σ.length) : ∀ {ls : List Nat} {vs : List V} {i : Nat} {os : List PyData} {O : List Addr}, ItsR w F H (zs (σ.drop i) (ρ.drop i)) O → outsOf ls i ρ = some os → vs.length = ls.length →
    (∀ (j l : Nat) (v : V), ls[j]? = some (l + 1) → vs[j]? = some v → σ[i + j]? = some (some v)) → ∃ L', OutsR w F H ls vs os L' ∧ L'.Sublist O
  | [], [], i, os, O, h, e, _, _ => by
    cases e
    exact ⟨[], rfl, List.nil_sublist _⟩
  | 0 :: ls, v :: vs, i, os, O, h, e, hv, hp => by
    have step : ∃ g, ItsR w F H (zs (σ.drop (i + 1)) (ρ.drop (i + 1))) g ∧ g.Sublist O := by
      by_cases hi : i < σ.length
      · rw [List.drop_eq_getElem_cons (l := σ) hi, List.drop_eq_getElem_cons (l := ρ) (by rw [hl]; exact hi)] at h
        obtain ⟨f, g, _, h2, rfl⟩ := (show ItsR w F H ((σ[i], ρ[i]'(by rw [hl]; exact hi)) :: zs (σ.drop (i + 1)) (ρ.drop (i + 1))) O from h)
        exact ⟨g, h2, List.sublist_append_right _ _⟩
      · refine ⟨[], ?_, List.nil_sublist _⟩
        rw [List.drop_eq_nil_of_le (by omega : σ.length ≤ i + 1), List.drop_eq_nil_of_le (by omega : ρ.length ≤ i + 1)]
        exact rfl
    obtain ⟨g, h2, hs⟩ := step
    obtain ⟨L', r, sl⟩ := outs_of hl (vs := vs) h2 (show outsOf ls (i + 1) ρ = some os from e) (by simpa using hv) fun j l v h1 h2 => by
      have := hp (j + 1) l v (by simpa using h1) (by simpa using h2)
      rwa [show i + 1 + j = i + (j + 1) by omega]
    exact ⟨L', by cases os <;> exact r, sl.trans hs⟩
  | (l + 1) :: ls, v :: vs, i, os, O, h, e, hv, hp => by
    have e : (match ρ[i]? with | some (some s) => if s.n = l + 1 ∧ s.prot = true then (outsOf ls (i + 1) ρ).map (s.d :: ·) else none | _ => none) = some os := e
    cases eρ : ρ[i]? with
    | none => rw [eρ] at e; cases e
    | some s => cases s with
      | none => rw [eρ] at e; cases e
      | some s =>
        rw [eρ] at e
        simp only at e
        split at e
        · rename_i hc
          obtain ⟨os', e1, rfl⟩ := Option.map_eq_some_iff.mp e
          have hi : i < ρ.length := (List.getElem?_eq_some_iff.mp eρ).1
          have hi2 : i < σ.length := by rw [← hl]; exact hi
          rw [List.drop_eq_getElem_cons hi, List.drop_eq_getElem_cons hi2] at h
          obtain ⟨f, g, h1, h2, rfl⟩ := (show ItsR w F H ((σ[i], ρ[i]) :: zs (σ.drop (i + 1)) (ρ.drop (i + 1))) O from h)
          have ev : σ[i] = some v := by
            have := hp 0 l v rfl rfl
            rw [Nat.add_zero, List.getElem?_eq_getElem hi2] at this
            exact Option.some.inj this
          have es : ρ[i] = some s := (List.getElem?_eq_some_iff.mp eρ).2
          rw [ev, es] at h1
          obtain ⟨L', r, sl⟩ := outs_of hl (vs := vs) h2 e1 (by simpa using hv) fun j l v h1 h2 => by
            have := hp (j + 1) l v (by simpa using h1) (by simpa using h2)
            rwa [show i + 1 + j = i + (j + 1) by omega]
          have h1 : Ow w F H s.n v s.d f := h1
          rw [hc.1] at h1
          exact ⟨f ++ L', ⟨f, L', h1, r, rfl⟩, List.Sublist.append (List.Sublist.refl _) sl⟩
        · cases e
  | [], _ :: _, _, _, _, _, _, h, _ => by simp at h
  | _ :: _, [], _, _, _, _, _, h, _ => by simp at h
theorem ArgsR.its : ∀ {ls : List Nat} {vs : List V} {ds : List PyData} {fp : List Addr}, ArgsR w F H ls vs ds fp → ItsR w F H (zs (vs.map some) (argSlots ls ds)) fp ∧ vs.length = ls.length ∧ ds.length = ls.length
  | [], [], [], _, h => ⟨h, rfl, rfl⟩
  | l :: ls, v :: vs, d :: ds, _, ⟨f, g, h1, h2, e⟩ => by
    obtain ⟨i1, i2, i3⟩ := ArgsR.its h2
    exact ⟨⟨f, g, h1, i1, e⟩, by simp [i2], by simp [i3]⟩
  | [], [], _ :: _, _, h => h.elim
  | [], _ :: _, _, _, h => by cases ‹List PyData› <;> exact h.elim
  | _ :: _, [], _, _, h => by cases ‹List PyData› <;> exact h.elim
  | _ :: _, _ :: _, [], _, h => h.elim
theorem its_none : ∀ {σ : List (Option V)} {n : Nat}, ItsR w F H (zs σ (List.replicate n none)) []
  | [], n => by unfold zs; cases n <;> exact rfl
  | x :: σ, 0 => rfl
  | x :: σ, n + 1 => ⟨[], [], by cases x <;> exact rfl, its_none, rfl⟩
theorem argSlots_len : ∀ {ls : List Nat} {ds : List PyData}, ds.length = ls.length → (argSlots ls ds).length = ls.length
  | [], [], _ => rfl
  | _ :: ls, _ :: ds, h => by show (argSlots ls ds).length + 1 = _; rw [argSlots_len (by simpa using h)]; rfl
  | [], _ :: _, h => by simp at h
  | _ :: _, [], h => by simp at h
theorem argSlots_get : ∀ {ls : List Nat} {ds : List PyData} {j l : Nat}, ds.length = ls.length → ls[j]? = some l → ∃ d, (argSlots ls ds)[j]? = some (some ⟨d, l, l != 0, false⟩)
  | _ :: ls, d :: ds, 0, l, _, h => by simp at h; subst h; exact ⟨d, rfl⟩
  | _ :: ls, _ :: ds, j + 1, l, hl, h => by
    obtain ⟨d, e⟩ := argSlots_get (ls := ls) (ds := ds) (j := j) (by simpa using hl) (by simpa using h)
    exact ⟨d, by simpa [argSlots] using e⟩
  | [], _, _, _, _, h => by simp at h
  | _ :: _, [], _, _, h, _ => by simp at h
theorem zs_app {a b : List (Option V)} {c d : Env} (h : a.length = c.length) : zs (a ++ b) (c ++ d) = zs a c ++ zs b d := by
  unfold zs
  rw [List.zip_append h]
end
section
variable {Y : Tx} {P : Program} {w : World} {K : Fg} {mg : Str → Option Value} {base : Heap}
theorem fns_all (D : ∀ f d, Y.T.fns[f]? = some d → FnDef Y K mg f d) (hc : ∀ (j : Nat) (n : String) (i : Int), Y.cons[j]? = some n → Y.T.cons[j]? = some i → ∃ t, mg (n : Str) = some (.int i t)) (hf : ∀ n ∈ Y.free, mg (n : Str) = none) :
    ∀ (k f : Nat) (d : FnI), Y.T.fns[f]? = some d → FnHere P w K mg base Y.T k f d
  | 0, f, d, hd => by
    obtain ⟨a, x, qual, params, body, scope, fd, N, ps, e1, e2, _⟩ := (D f d hd).ex
    refine ⟨a, e1, e2, ⟨fun A o s H us vs Q hr hg e hv hs => ?_⟩⟩
    obtain ⟨_, _, _, _, _, _, _, _, _, h, _⟩ := hs
    exact (show False from h).elim
  | k + 1, f, d, hd => by
    have IH := fns_all D hc hf k
    obtain ⟨a, x, qual, params, body, scope, fd, N, ps, e1, e2, FD, S, hb, l1, l2, l3, nd, tr⟩ := (D f d hd).ex
    have sg : sigOf Y.T f = d.lend := by unfold sigOf; rw [hd]
    refine ⟨a, e1, e2, fnG_of FD S hb (fun vs H Q h => ?_) fun cdv A outer s H vs Q hr hg hsp => ⟨tS w (ctx Y.T k noX) d.body, ?_, ?_⟩⟩
    · obtain ⟨_, _, _, _, _, _, _, hl, _⟩ := h
      rw [hl, sg, l3, l1]
    · have A' : At Y N ⟨scope, none⟩ k (cxOf CX0 P w K mg base N qual scope a cdv A outer s H fun _ _ _ => False).nox :=
        ⟨rfl, nd, rfl, rfl, rfl, hr, hg, rfl, hc, hf, IH⟩
      exact sSs A' d.body body tr
    · obtain ⟨B, ds, L, q, hB, hL, hLB, hlen, hargs, hw, fin⟩ := hsp
      rw [sg] at hlen hargs fin
      have hw : match Y.T.fns[f]? with | some x => ds.length = x.np ∧ wpS (ctx Y.T k noX) x.body (envOf x ds) (endsOf x q) | none => False := hw
      rw [hd] at hw
      obtain ⟨hdl, hw⟩ := hw
      obtain ⟨i1, i2, i3⟩ := hargs.its
      have hvl : vs.length = d.np := by rw [i2, l3]
      have es : (argSlots d.lend ds).length = d.np := by rw [argSlots_len i3, l3]
      have eσ : L2.start N vs = vs.map some ++ List.replicate (d.ns - d.np) none := by unfold L2.start; rw [l2, hvl]
      let pins : List (Nat × V) := ((List.range vs.length).zip vs).filter fun p => d.lend[p.1]?.getD 0 != 0
      let c : Fr := ⟨B, H, L, pins⟩
      have hpin : ∀ p, p ∈ pins ↔ vs[p.1]? = some p.2 ∧ d.lend[p.1]?.getD 0 ≠ 0 := fun p => by
        simp only [pins, List.mem_filter, bne_iff_ne]
        refine and_congr_left fun _ => ?_
        constructor
        · intro h
          obtain ⟨j, hj⟩ := List.mem_iff_getElem?.mp h
          rw [List.getElem?_zip_eq_some] at hj
          obtain ⟨h1, h2⟩ := hj
          have hjl : j < vs.length := (List.getElem?_eq_some_iff.mp h2).1
          rw [List.getElem?_range hjl] at h1
          rw [← Option.some.inj h1]; exact h2
        · intro h
          refine List.mem_iff_getElem?.mpr ⟨p.1, ?_⟩
          rw [List.getElem?_zip_eq_some]
          exact ⟨List.getElem?_range (List.getElem?_eq_some_iff.mp h).1, h⟩
      have hs0 : Sta w c (L2.start N vs) (envOf d ds) [] H := by
        refine ⟨⟨L, ⟨?_, hL, hLB, hB, fun a o h _ => h, fun a ha => .inl ha⟩⟩, ?_, fun p hp => ?_⟩
        · rw [List.append_nil, eσ]
          show ItsR w (hide (B ++ L) H) H (zs _ (argSlots d.lend ds ++ List.replicate (d.ns - d.np) none)) L
          rw [zs_app (by rw [List.length_map, hvl, es])]
          have := i1.append (its_none (σ := List.replicate (d.ns - d.np) (none : Option V)) (n := d.ns - d.np))
          rwa [List.append_nil] at this
        · rw [eσ]
          show (argSlots d.lend ds ++ List.replicate (d.ns - d.np) none).length = _
          simp [es, hvl]
        · obtain ⟨h1, h2⟩ := (hpin p).mp hp
          have hpl : p.1 < vs.length := (List.getElem?_eq_some_iff.mp h1).1
          refine ⟨?_, ?_⟩
          · rw [eσ, List.getElem?_append_left (by rw [List.length_map]; exact hpl), List.getElem?_map, h1]; rfl
          · cases el : d.lend[p.1]? with
            | none => rw [el] at h2; exact absurd rfl h2
            | some l =>
              rw [el] at h2
              obtain ⟨d0, e0⟩ := argSlots_get i3 el
              refine ⟨⟨d0, l, l != 0, false⟩, ?_, ?_⟩
              · show (argSlots d.lend ds ++ _)[p.1]? = _
                rw [List.getElem?_append_left (by rw [es, ← hvl]; exact hpl)]; exact e0
              · show (l != 0) = true
                exact bne_iff_ne.mpr h2
      have ending : ∀ (d0 : PyData) (n : Nat) (os : List PyData) (ρ : Env) (v : V) (σ : L2.St) (H' : Hp), outsOf d.lend 0 ρ = some os → q d0 n os → Sta w c σ ρ ([] ++ t1 v d0 n) H' → Q v H' := fun d0 n os ρ v σ H' ho hq hs => by
        obtain ⟨⟨O, fo⟩, hl, hpins⟩ := hs
        obtain ⟨f1, g, j1, j2, eO⟩ := fo.its.unappend
        obtain ⟨fv, g2, j3, j4, eg⟩ := (show ItsR w _ H' ((some v, val d0 n) :: []) g from j2)
        have g0 : g2 = [] := j4
        rw [g0, List.append_nil] at eg
        subst eg; subst eO
        obtain ⟨L', r, sl⟩ := outs_of (vs := vs) (i := 0) hl (by rw [List.drop_zero, List.drop_zero]; exact j1) ho i2 fun j l v h1 h2 => by
          rw [Nat.zero_add]
          exact (hpins (j, v) ((hpin (j, v)).mpr ⟨h2, by show (d.lend[j]?).getD 0 ≠ 0; rw [h1]; simp⟩)).1
        have mem : ∀ a ∈ g ++ L', a ∈ f1 ++ g := fun a ha => by
          rcases List.mem_append.mp ha with z | z
          · exact List.mem_append_right _ z
          · exact List.mem_append_left _ (sl.subset z)
        have sv : Sub (hide (c.B ++ (f1 ++ g)) H') (hide (B ++ (g ++ L')) H') := hide_sub Sub.refl fun a ha hn => absurd (by
          rcases List.mem_append.mp ha with z | z
          · exact List.mem_append_left _ z
          · exact List.mem_append_right _ (mem a z)) hn
        refine fin d0 n os v H' g L' hq fo.keep ?_ (fun a ha => ⟨fo.dis a (mem a ha), fo.new a (mem a ha)⟩) (Ow.mono sv _ _ _ _ j3 fun _ _ _ z => z) (r.mono sv)
        have nd := fo.nd
        obtain ⟨n1, n2, n3⟩ := List.nodup_append.mp nd
        exact List.nodup_append.mpr ⟨n2, n1.sublist sl, fun a ha b hb e => n3 b (sl.subset hb) a ha e.symm⟩
      refine ⟨c, [], envOf d ds, endsOf d q, hs0, hw, ?_, ?_, ?_, ?_⟩
      · rintro ρ σ H' ⟨os, h1, h2⟩ hs
        exact ending .none 0 os ρ .non σ H' h1 h2 (hs.atom fun _ => rfl)
      · rintro d0 n ρ v σ H' ⟨os, h1, h2⟩ hs
        exact ending d0 n os ρ v σ H' h1 h2 hs
      · intro ρ σ H' h; exact h.elim
      · intro ρ σ H' h; exact h.elim
end
end PL
end
section
set_option Elab.async false
set_option linter.all false
set_option maxRecDepth 100000
set_option maxHeartbeats 2000000
/-! PL24: a law's end, by a promise that is kept where no repr runs (FnG). -/
namespace PL
open L2 PyProof.Rows PySem.Spec PySem
/-- what a law's call is to come to -/
abbrev Goal (P : Program) (w : World) (fa a : Addr) (t : Shared) : Prop := codeAny (model P w) callerA (.call (.ref fa) ⟨[.ref a], []⟩)
  (fun r s' => r = .ok (.ret (.bool true)) ∧ OldK t.heap s'.heap ∧ s'.os = t.os ∧ AllBare s'.gens) t
abbrev yes : VK := fun v _ => v = .bl true
section
variable {P : Program} {w : World} {K : Fg} {mg mb : Str → Option Value} {k : Nat} {fa a : Addr} {sp : SpG} {t : Shared} {vs : List Value} {ns : List Int}
/-- from an abstract heap that tracks the script at most -/
theorem law_coreG {H : Hp} (kx : K.In t.heap) (gl : t.heap.Ns mainGlobals mg) (bl : t.heap.Ns builtinsNs mb) (bb : ∀ x : Str, x ≠ "__name__" → mb x = bootBuiltins x) (lim : t.heap.NoLimit) (gn : t.gens = #[])
    (scr : t.heap.get? a = some { cls := .type "list", data := .seq vs.toArray }) (rm : Room k callerA)
    (F : ∀ b0 : Heap, K.In b0 → b0.Ns mainGlobals mg → FnG P w K mg b0 k fa sp) (good : sp [.ref a] H yes) (only : Only H) (hok : HOk P w H t.heap) (one : ∀ b, H b ≠ none → b = a) (out : H a ≠ none → K.lookup a = none) : Goal P w fa a t := by
  have up : ∀ {b : Addr} {o : Obj}, t.heap.get? b = some o → H b = none → (hidT t.heap H).get? b = some o := fun e n => hidT_get e n
  have noDict : ∀ {b : Addr} {o : Obj} {es : Array DictEntry} {ep : Nat}, t.heap.get? b = some o → o.data = .dict es ep → H b = none := by
    intro b o es ep e d
    cases q : H b with
    | none => rfl
    | some u =>
      exfalso
      cases one b (by rw [q]; exact Option.some_ne_none _)
      rw [scr] at e
      cases e
      exact Data.noConfusion (show Data.seq vs.toArray _ = Data.dict es ep from d)
  have ns' : ∀ {b : Addr} {m : Str → Option Value}, t.heap.Ns b m → (hidT t.heap H).Ns b m := by
    rintro b m ⟨o, es, ep, e, d, r⟩
    exact ⟨o, es, ep, up e (noDict e d), d, r⟩
  have kb : K.In (hidT t.heap H) := by
    intro b o e
    refine up (kx b o e) ?_
    cases q : H b with
    | none => rfl
    | some u =>
      exfalso
      cases one b (by rw [q]; exact Option.some_ne_none _)
      rw [out (by rw [q]; exact Option.some_ne_none _)] at e
      cases e
  have lim' : (hidT t.heap H).NoLimit := by
    obtain ⟨mc, h1, h2⟩ := lim
    exact ⟨mc, ns' h1, h2⟩
  have md : Mod K mg (hidT t.heap H) := ⟨kb, ns' gl, ⟨mb, ns' bl, bb⟩, lim'⟩
  have e0 : Env0 P w K mg (hidT t.heap H) callerA [] t H := ⟨rfl, md, fun b o e => of_hidT e, Nat.le_of_eq (hidT_size _ _), trivial, (fun b hb => by cases hb), hok, .of_eq gn⟩
  refine codeAny_mono ((F _ kb (ns' gl)).run callerA [] t H [.ref a] [.ref a] yes rm rfl e0 (.cons rfl .nil) good) fun r s' h => ?_
  cases r with
  | error e => exact (show False from h).elim
  | ok fl =>
    cases fl with
    | ret u =>
      obtain ⟨v, H2, os, bare, un, ok2, ru, q⟩ := h
      cases (show v = .bl true from q)
      cases (show u = Value.bool true from ru)
      refine ⟨rfl, OldK.of_keep fun b o e => ?_, os, bare⟩
      cases q : H b with
      | none => exact un.keep b o e q (fun z => by cases z) (fun z => by cases z)
      | some u =>
        rcases only b with z | ⟨ob, xs, z⟩
        · rw [z] at q; cases q
        · obtain ⟨e1, _⟩ := hok b _ z
          obtain ⟨e2, _⟩ := ok2 b _ (un.frzs b ob _ z)
          rw [e1] at e
          cases e
          exact e2
    | next => exact (show False from h).elim
    | brk => exact (show False from h).elim
    | cont => exact (show False from h).elim
/-- a law by the promise of its def -/
theorem law_callG (kx : K.In t.heap) (gl : t.heap.Ns mainGlobals mg) (bl : t.heap.Ns builtinsNs mb) (bb : ∀ x : Str, x ≠ "__name__" → mb x = bootBuiltins x) (lim : t.heap.NoLimit) (gn : t.gens = #[])
    (scr : t.heap.get? a = some { cls := .type "list", data := .seq vs.toArray }) (cells : IntsAre vs ns) (short : ns.length ≤ sizeLine) (rm : Room k callerA)
    (F : ∀ b0 : Heap, K.In b0 → b0.Ns mainGlobals mg → FnG P w K mg b0 k fa sp) (good : ∀ H : Hp, Only H → SqL K H a (ns.map V.int) → sp [.ref a] H yes) : Goal P w fa a t := by
  have lenV := cells.length
  have rv := vals_ints cells
  cases own : K.lookup a with
  | some o =>
    have e := kx a o own
    rw [scr] at e
    cases e
    have sq : SqL K (fun _ => none) a (ns.map V.int) := .inr ⟨_, vs.toArray, _, own, rfl, rfl, rfl, by rw [List.size_toArray, lenV]; exact short, by simpa using rv⟩
    have on : Only (fun _ => none) := fun _ => .inl rfl
    exact law_coreG kx gl bl bb lim gn scr rm F (good _ on sq) on (fun b u z => by cases (show none = some u from z)) (fun b z => absurd rfl z) fun z => absurd rfl z
  | none =>
    let H : Hp := fun b => if b = a then some (.frz { cls := .type "list", data := .seq vs.toArray } (.lst (ns.map V.int))) else none
    have Ha : H a = some (.frz { cls := .type "list", data := .seq vs.toArray } (.lst (ns.map V.int))) := if_pos rfl
    have Hn : ∀ b, b ≠ a → H b = none := fun b h => if_neg h
    have on : Only H := fun b => by
      by_cases e : b = a
      · subst e; exact .inr ⟨_, _, Ha⟩
      · exact .inl (Hn b e)
    have sq : SqL K H a (ns.map V.int) := .inl (.inr ⟨_, Ha⟩)
    refine law_coreG kx gl bl bb lim gn scr rm F (good H on sq) on (fun b u z => ?_) (fun b z => ?_) fun _ => own
    · by_cases e : b = a
      · subst e
        rw [Ha] at z
        cases z
        exact ⟨scr, by rw [List.length_map]; exact short, vs, _, rv, scr⟩
      · rw [Hn b e] at z; cases z
    · by_cases e : b = a
      · exact e
      · exact absurd (Hn b e) z
end
/-- the goal that the head leaves -/
theorem walk_ofG {l : PySem.W.OpenLaw} {n k : Nat} {q : Program} {loose : List Str} {XP : (Str → Option Value) → Heap → Prop} {YP : World → Heap → Prop} {d : DefRec} (most : l.most = some n) (small : n ≤ sizeLine) (nodf : d.params.defaults = []) (rm : Room k callerA)
    (F : ∀ (w : World) (mg : Str → Option Value) (fa : Addr) (h : Heap), YP w h → h.Ns mainGlobals mg → mg d.name = some (.ref fa) → ∃ (K : Fg) (sp : SpG), K.In h ∧
        (∀ (H : Hp) (a : Addr) (ns : List Int), ns.length ≤ n → Only H → SqL K H a (ns.map V.int) → sp [.ref a] H yes) ∧ ∀ b0 : Heap, K.In b0 → b0.Ns mainGlobals mg → FnG l.prog w K mg b0 k fa sp) :
    PySem.W.WalkO q loose XP YP l.row.toRowW d [] (fun f vs => PySem.call f vs) := by
  refine Att.attach_call most nodf fun w s0 t mg mb fa o pm cd doc a vs ns G Y ho hd hcd hmg scr cells hlen gn => ?_
  obtain ⟨K, sp, kx, good, ok⟩ := F w mg fa _ Y G.T.g hmg
  exact law_callG kx G.T.g G.T.b G.T.builtins G.T.nolimit gn scr cells (Nat.le_trans hlen small) rm ok fun H on sq => good H a ns hlen on sq
end PL
end
section
set_option Elab.async false
set_option linter.all false
set_option maxRecDepth 100000
set_option maxHeartbeats 2000000
/-! PL25: the bag that each law makes of its script; the law's own def. -/
namespace PL
open L2 PyProof.Rows PySem.Spec PySem
def bagCells (ns : List Int) : List PyData := (ns.take 63).map fun i => .int (if i < 0 then -i else i)
def bagD (ns : List Int) : PyData := .list [.int 0, .int 1234567891, .int 0, .list (bagCells ns)]
def spBag (K : Fg) : SpG := fun vs H Q => ∃ (a : Addr) (ns : List Int), vs = [.ref a] ∧ SqL K H a (ns.map V.int) ∧
  ∀ H' p q, H' p = some (.lst [.int 0, .int 1234567891, .int 0, .ref q]) → p ≠ q → H' q = some (.lst ((ns.take 63).map fun i => V.int (if i < 0 then -i else i))) → Q (.ref p) H'
/-- the text of it -/
def isBag (N : List Str) (c : Sc) : List Stmt → Bool
  | [.Return (some (.List [.Constant (.int a0) _ _, .Constant (.int a1) _ _, .Constant (.int a2) _ _, .ListComp (.Call (.Name fx _) [.Name y _] [] _) [⟨.Name z _, .Subscript (.Name x _) (.Slice none (some (.Constant (.int a3) _ _)) none _) _, [], 0⟩] scope _] _)) _] =>
    decide (a0 = 0) && decide (a1 = 1234567891) && decide (a2 = 0) && decide (a3 = 63) && decide (fx = ("abs" : Str)) && nmOk N c 0 x && nmOk N (c.blk scope) 1 y && (N[1]? == some z && isLoc (c.blk scope) z) && blkOk N c scope [1] && isGl (c.blk scope) fx
  | _ => false
section
variable {Y : Tx} {N : List Str} {c : Sc} {k : Nat} {X : Cx}
theorem bag_body {body : List Stmt} (A : At Y N c k X) (habs : X.mg ("abs" : Str) = none) (h : isBag N c body = true) : ∃ t : TS, PSs X body t ∧ ∀ (D : Ends) (a : Addr) (ns : List Int) (H : Hp) (σ : L2.St), σ[0]? = some (some (.ref a)) → σ.length = N.length → SqL X.K H a (ns.map V.int) →
    (∀ H' p q, H' p = some (.lst [.int 0, .int 1234567891, .int 0, .ref q]) → p ≠ q → H' q = some (.lst ((ns.take 63).map fun i => V.int (if i < 0 then -i else i))) → D.rt (.ref p) H') → t D σ H := by
  unfold isBag at h
  split at h
  · rename_i a0 _ _ a1 _ _ a2 _ _ fx _ y py _ z pz x px a3 _ _ _ _ scope _ _ _
    simp only [Bool.and_eq_true, decide_eq_true_eq] at h
    obtain ⟨⟨⟨⟨⟨⟨⟨⟨⟨rfl, rfl⟩, rfl⟩, rfl⟩, rfl⟩, hx⟩, hy⟩, hz⟩, hb⟩, hg⟩ := h
    unfold blkOk at hb
    simp only [Bool.and_eq_true, decide_eq_true_eq] at hb
    obtain ⟨hb1, hb2⟩ := hb
    have hz0 : N[1]? = some z := by simpa using hz.1
    have hgz : ∀ (s : Shared) (H : Hp) (C : Addr) (cl : List (Str × Addr)) (fp : List Addr), PG (X.blk s H scope (compEnvC scope cl C X.env) fp) (.Name z pz) (gName 1) := fun s H C cl fp => by
      have B := A.blk s H scope C cl fp
      obtain ⟨l1, l2⟩ := loc_of B hz.2
      exact pg_name (by rw [B.names]; exact B.nd) (by rw [B.names]; exact hz0) l1 l2
    have hcomp := fun (p pos : Pos) (s : Shared) (H : Hp) (C : Addr) (cl : List (Str × Addr)) (fp : List Addr) =>
      (pe_callB (X := X.blk s H scope (compEnvC scope cl C X.env) fp) (pos := pos) (p := p) cr_abs (gl_of (A.blk s H scope C cl fp) hg) habs (by decide +kernel) (pa_cons (pe_slot (A.blk s H scope C cl fp) hy py) pa_nil rfl))
    refine ⟨_, pss_one (ps_ret (pe_lst (pa_cons pe_int (pa_cons pe_int (pa_cons pe_int (pa_cons (pe_lc (own := ownOf N [1]) (g := gName 1) (te := tCB (RF X.w .abs) (tCons (tVar 1) tNil)) A.calm (by rw [A.names]; exact A.nd) (pi_list (pe_slice sl_list (pe_slot A hx px) po_none (po_some pe_int)))
      (by rw [A.names, A.scope]; exact blkOk_by hb1) hgz (fun s H C cl fp => pts_nil) (hcomp _ _)) pa_nil)))))), fun D a ns H σ h0 hl hS fin => ?_⟩
    rw [hb2]
    show tLc (iList X.K (tSl (rSlL X.K) (tVar 0) tNoPart (tPart (tC (V.int 63))))) (gName 1) tYes (tCB (RF X.w .abs) (tCons (tVar 1) tNil)) [1] σ H (fun y H1 => [V.int 0, V.int 1234567891, V.int 0, y].length ≤ sizeLine ∧ ∀ p, H1 p = none → D.rt (.ref p) (upd H1 p (.lst [V.int 0, V.int 1234567891, V.int 0, y])))
    refine ⟨_, h0, _, rfl, a, ns.map V.int, rfl, hS, fun q hq => ⟨q, rfl, ⟨_, SqL.of upd_same⟩, fun L hL => ?_⟩⟩
    have e63 : cutV (ns.map V.int) none (some 63) = (ns.take 63).map V.int := by
      unfold cutV HT.sIx
      simp
    rw [e63] at hL ⊢
    generalize hms : ns.take 63 = ms at hL ⊢
    have neq : L ≠ q := fun e => by rw [e, upd_same] at hL; cases hL
    have one : 1 < σ.length := by rw [hl]; exact (List.getElem?_eq_some_iff.mp hz0).1
    refine lc_it (walk_list (xs := ms.map V.int)) (fun i H2 => H2 q = some (.lst (ms.map V.int)) ∧ H2 L = some (.lst ((ms.take i).map fun i => V.int (if i < 0 then -i else i)))) ⟨by rw [upd_ne (Ne.symm neq), upd_same], by rw [upd_same]; rfl⟩ (fun i H2 _ h2 => SqL.of h2.1) (fun i x H2 H3 hi h2 hy2 => ?_) fun H2 h2 => ?_
    · obtain ⟨rfl, hx2⟩ := hy2
      have hi' : i < ms.length := by simpa using hi
      rw [List.getElem?_map, List.getElem?_eq_getElem hi'] at hx2
      cases hx2
      refine ⟨?_, ?_⟩
      · show (wipe ((wipe σ [1]).set 1 (some (V.int ms[i]))) [1]) = wipe σ [1]
        simp [wipe, List.set_set]
      · simp only [tYes, ↓reduceIte]
        refine ⟨V.int ms[i], ?_, H3, [.int ms[i]], fun d n => d = .int (if ms[i] < 0 then -ms[i] else ms[i]) ∧ n = 0, Sub.refl, ⟨rfl, trivial⟩, ⟨rfl, rfl⟩, ?_⟩
        · simp [wipe, one]
        · rintro d n v H4 ⟨rfl, rfl⟩ o
          obtain ⟨sb, F2, fp, s1, s2, s3, s4, s5, ow⟩ := o
          have ev : v = V.int (if ms[i] < 0 then -ms[i] else ms[i]) := ow.1
          subst ev
          refine ⟨_, sb _ _ h2.2, ?_, ?_, ?_⟩
          · rw [List.length_map, List.length_take]
            have hm : ms.length ≤ 63 := by rw [← hms, List.length_take]; omega
            have : 63 < sizeLine := by decide
            omega
          · rw [upd_ne (Ne.symm neq)]; exact sb _ _ h2.1
          · rw [upd_same, List.take_add_one, List.getElem?_eq_getElem hi', List.map_append]
            rfl
    · refine ⟨(show 4 ≤ sizeLine by decide), fun p hp => ?_⟩
      have npL : p ≠ L := fun e => by rw [e, h2.2] at hp; cases hp
      refine fin _ p L upd_same npL ?_
      rw [upd_ne (Ne.symm npL), h2.2]
      rw [hms, List.length_map, List.take_length]
  · exact absurd h Bool.false_ne_true
end
/-! ### the law's def -/
/-- where a law's own def begins: its bag -/
def isHead (N : List Str) (c : Sc) : Stmt → Bool
  | .Assign [.Name y _] (.Call (.Name f _) [.Name x _] [] _) _ => decide (f = ("_law_bag" : Str)) && nmOk N c 0 x && (N[1]? == some y && isLoc c y) && isGl c f
  | _ => false
def lawEnv (n : Nat) (ns : List Int) : Env := none :: val (bagD ns) 2 :: List.replicate (n - 2) none
def lawEnds : KS := ⟨fun _ => False, fun d _ _ => d = .bool true, fun _ => False, fun _ => False⟩
def spLaw (K : Fg) : SpG := fun vs H Q => ∃ (a : Addr) (ns : List Int), vs = [.ref a] ∧ ns.length ≤ 63 ∧ SqL K H a (ns.map V.int) ∧ ∀ H', Q (.bl true) H'
section
variable {Y : Tx} {P : Program} {w : World} {K : Fg} {mg : Str → Option Value} {base : Heap} {k : Nat}
theorem bag_ok {x qual ps : Str} {params : Arguments} {body : List Stmt} {scope : Scope} {fd : FuncData} {f : Addr} {N : List Str} (FD : FunD K x qual params body scope [] [] f fd) (S : FnScope N [ps] scope)
    (hb : ∀ (s : Shared) (us : List Value), us.length = 1 → BindsTo s fd ⟨us, []⟩ ([ps].zip us)) (habs : mg ("abs" : Str) = none) (nd : N.Nodup) (h : isBag N ⟨scope, none⟩ body = true)
    (fns : ∀ (f : Nat) (d : FnI), Y.T.fns[f]? = some d → FnHere P w K mg base Y.T k f d) (hc : ∀ (j : Nat) (n : String) (i : Int), Y.cons[j]? = some n → Y.T.cons[j]? = some i → ∃ t, mg (n : Str) = some (.int i t)) (hf : ∀ n ∈ Y.free, mg (n : Str) = none) : FnG P w K mg base (k + 1) f (spBag K) := by
  refine fnG_of FD S hb (fun vs H Q h => ?_) fun cdv A outer s H vs Q hr hg hsp => ?_
  · obtain ⟨a, ns, rfl, _⟩ := h; rfl
  · have A' : At Y N ⟨scope, none⟩ k (cxOf CX0 P w K mg base N qual scope f cdv A outer s H fun _ _ _ => False).nox := ⟨rfl, nd, rfl, rfl, rfl, hr, hg, rfl, hc, hf, fns⟩
    obtain ⟨t, h1, h2⟩ := bag_body A' habs h
    obtain ⟨a, ns, rfl, hS, fin⟩ := hsp
    refine ⟨t, h1, h2 _ a ns H _ rfl ?_ hS fun H' p q e1 e2 e3 => fin H' p q e1 e2 e3⟩
    have hl : 1 ≤ N.length := by
      have := congrArg List.length S.pre
      rw [List.length_take] at this
      simp at this
      omega
    simp [L2.start]; omega
/-- the law: its text behind the bag ends in True -/
theorem law_ok {x qual ps : Str} {params : Arguments} {st : Stmt} {rest : List Stmt} {scope : Scope} {fd : FuncData} {f fb : Addr} {N : List Str} {m : Sm} (FD : FunD K x qual params (st :: rest) scope [] [] f fd) (S : FnScope N [ps] scope)
    (hb : ∀ (s : Shared) (us : List Value), us.length = 1 → BindsTo s fd ⟨us, []⟩ ([ps].zip us)) (nd : N.Nodup) (hbag : mg ("_law_bag" : Str) = some (.ref fb)) (kbag : PySem.W.keepIn K (.ref fb) = true) (B : FnG P w K mg base k fb (spBag K))
    (hh : isHead N ⟨scope, none⟩ st = true) (ht : trSs Y N ⟨scope, none⟩ m rest = true)
    (fns : ∀ (f : Nat) (d : FnI), Y.T.fns[f]? = some d → FnHere P w K mg base Y.T k f d) (hc : ∀ (j : Nat) (n : String) (i : Int), Y.cons[j]? = some n → Y.T.cons[j]? = some i → ∃ t, mg (n : Str) = some (.int i t)) (hf : ∀ n ∈ Y.free, mg (n : Str) = none)
    (law : ∀ ns : List Int, ns.length ≤ 63 → wpS (ctx Y.T k noX) m (lawEnv N.length ns) lawEnds) : FnG P w K mg base (k + 1) f (spLaw K) := by
  refine fnG_of FD S hb (fun vs H Q h => ?_) fun cdv A outer s H vs Q hr hg hsp => ?_
  · obtain ⟨a, ns, rfl, _⟩ := h; rfl
  · have A' : At Y N ⟨scope, none⟩ k (cxOf CX0 P w K mg base N qual scope f cdv A outer s H fun _ _ _ => False).nox := ⟨rfl, nd, rfl, rfl, rfl, hr, hg, rfl, hc, hf, fns⟩
    unfold isHead at hh
    split at hh
    · rename_i y py fx pf x2 px pc pos
      simp only [Bool.and_eq_true, decide_eq_true_eq] at hh
      obtain ⟨⟨⟨rfl, hx⟩, hy⟩, hgl⟩ := hh
      have hy0 : N[1]? = some y := by simpa using hy.1
      obtain ⟨l1, l2⟩ := loc_of A' hy.2
      refine ⟨_, pss_cons (ps_set (i := 1) nd hy0 l1 (pe_callG B A'.room A'.gd (gl_of A' hgl) hbag kbag (pa_cons (pe_slot A' hx px) pa_nil) (by decide +kernel) rfl rfl) rfl l2) (sSs A' m rest ht), ?_⟩
      obtain ⟨a, ns, rfl, hl, hS, fin⟩ := hsp
      have hN : 2 ≤ N.length := by have := (List.getElem?_eq_some_iff.mp hy0).1; omega
      refine ⟨.ref a, rfl, a, ns, rfl, hS, fun H' p q e1 e2 e3 => ?_⟩
      have eσ : (L2.start N [V.ref a]).set 1 (some (.ref p)) = some (.ref a) :: some (.ref p) :: List.replicate (N.length - 2) none := by
        obtain ⟨n, hn⟩ : ∃ n, N.length = n + 2 := ⟨N.length - 2, by omega⟩
        unfold L2.start
        rw [hn]
        rfl
      refine ⟨⟨[], fun _ => none, [], []⟩, [], lawEnv N.length ns, lawEnds, ?_, law ns hl, ⟨fun ρ σ H h => h.elim, fun d n ρ v σ H h hs => ?_, fun ρ σ H h => h.elim, fun ρ σ H h => h.elim⟩⟩
      · show Sta w _ ((L2.start N [V.ref a]).set 1 (some (.ref p))) _ [] H'
        rw [eσ]
        refine ⟨⟨[p, q], ⟨?_, by simp [e2], fun a _ => by simp, fun a ha => by simp at ha, fun a o h => (by cases h), fun a _ => .inr rfl⟩⟩, by simp [lawEnv], fun p hp => by simp at hp⟩
        rw [List.append_nil]
        show ItsR w (hide ([] ++ [p, q]) H') H' ((some (V.ref a), none) :: (some (V.ref p), val (bagD ns) 2) :: zs (List.replicate (N.length - 2) none) (List.replicate (N.length - 2) none)) [p, q]
        refine ⟨[], [p, q], rfl, ⟨[p, q], [], ?_, its_none, by simp⟩, by simp⟩
        refine ⟨p, _, [q], rfl, e1, ?_, rfl⟩
        have fq : OwAll (Ow w (hide ([] ++ [p, q]) H') H' 0) ((ns.take 63).map fun i => V.int (if i < 0 then -i else i)) (bagCells ns) [] := by
          unfold bagCells
          generalize ns.take 63 = l
          induction l with
          | nil => rfl
          | cons i l ih => exact ⟨[], [], ⟨rfl, rfl⟩, ih, rfl⟩
        refine ⟨[], [q], ⟨rfl, rfl⟩, ⟨[], [q], ⟨rfl, rfl⟩, ⟨[], [q], ⟨rfl, rfl⟩, ⟨[q], [], ⟨q, _, [], rfl, e3, fq, rfl⟩, rfl, rfl⟩, rfl⟩, rfl⟩, rfl⟩
      · have hd : d = .bool true := h
        subst hd
        obtain ⟨O, so, z⟩ := hs.take1
        rw [show v = .bl true from z]
        exact fin H
    · exact absurd hh Bool.false_ne_true
end
end PL
end
section
set_option Elab.async false
set_option linter.all false
set_option maxRecDepth 100000
set_option maxHeartbeats 2000000
/-! PP1: the law's own defs that all laws share: take, some, mixed, alike. -/
namespace PL
open L2 PySem.Spec PySem
def bTake : Sm := .seq (.ite (.cmp .eq (.idxS 0 (.int 0)) (.int 0)) (.seq (.asg 4 (.idx (.bin .add (.slc2S 0 (.int 3) (.cons (.idxS 0 (.int 2)) .nil) (.nil)) (.lst 0 (.cons (.int 0) (.nil)))) (.int 0))) (.seq (.frz 4) (.seq (.augIx 0 (.int 2) .add (.int 1)) (.seq (.ite (.cmp .ge (.slot 4) (.bin .pow (.int 10) (.int 18))) (.seq (.setIx 0 (.int 0) (.slot 4)) (.nil)) (.nil)) (.seq (.asg 5 (.bin .add (.bin .add (.bin .mul (.idxS 0 (.int 1)) (.int 48271)) (.bin .mod (.fn .int (.cons (.slot 4) (.nil))) (.int 2147483647))) (.bin .mul (.int 7919) (.idxS 0 (.int 2))))) (.seq (.frz 5) (.seq (.setIx 0 (.int 1) (.bin .mod (.fn .int (.cons (.slot 5) (.nil))) (.int 2147483647))) (.nil)))))))) (.nil)) (.seq (.ite (.cmp .gt (.idxS 0 (.int 0)) (.int 0)) (.seq (.asg 6 (.bin .mod (.fn .int (.cons (.idxS 0 (.int 0)) (.nil))) (.slot 1))) (.seq (.frz 6) (.seq (.setIx 0 (.int 0) (.bin .fdiv (.fn .int (.cons (.idxS 0 (.int 0)) (.nil))) (.slot 1))) (.seq (.ret (.slot 6)) (.nil))))) (.nil)) (.seq (.asg 2 (.bin .mod (.fn .int (.cons (.bin .mul (.bin .add (.idxS 0 (.int 1)) (.int 1)) (.int 39373)) (.nil))) (.int 1000000007))) (.seq (.frz 2) (.seq (.asg 3 (.bin .mod (.fn .int (.cons (.bin .mul (.bin .mod (.fn .int (.cons (.bin .mul (.slot 2) (.slot 2)) (.nil))) (.int 998244353)) (.int 30011)) (.nil))) (.int 998244353))) (.seq (.frz 3) (.seq (.ret (.bin .mod (.fn .int (.cons (.bin .fdiv (.slot 3) (.int 7)) (.nil))) (.slot 1))) (.nil)))))))
def takeI : FnI := ⟨"_law_take", 2, 7, [2, 0], bTake⟩
/-- a bag whose place is at most B -/
def Bag (B : Nat) (d : PyData) : Prop := ∃ (a s i : Int) (cells : List Int), d = .list [.int a, .int s, .int i, .list (cells.map .int)] ∧ 0 ≤ a ∧ 0 ≤ s ∧ s < 2147483647 ∧ 0 ≤ i ∧ i ≤ B ∧ cells.length ≤ 63 ∧ ∀ c ∈ cells, 0 ≤ c
theorem Bag.mono {B B' : Nat} {d : PyData} (h : Bag B d) (l : B ≤ B') : Bag B' d := by
  obtain ⟨a, s, i, cells, h1, h2, h3, h4, h5, h6, h7, h8⟩ := h
  exact ⟨a, s, i, cells, h1, h2, h3, h4, h5, by omega, h7, h8⟩
theorem log_lt {i : Int} {n : Nat} (h0 : 0 ≤ i) (h : i < (2 ^ n : Nat)) : i.natAbs.log2 ≤ n := by
  by_cases z : i.natAbs = 0
  · rw [z]; simp
  · have h2 : (i.natAbs : Int) = i := Int.natAbs_of_nonneg h0
    have : i.natAbs < 2 ^ n := by
      have : (i.natAbs : Int) < ((2 ^ n : Nat) : Int) := by rw [h2]; exact h
      exact Int.ofNat_lt.mp this
    have := (Nat.log2_lt z).mpr this
    omega
/-! ### readings at what is known -/
theorem at0 {α : Type} {x : α} {xs : List α} : atI (x :: xs) 0 = some x := by
  have : ixN (x :: xs).length 0 = some 0 := by unfold ixN; simp
  unfold atI; rw [this]; rfl
theorem at1 {α : Type} {x y : α} {xs : List α} : atI (x :: y :: xs) 1 = some y := by
  have : ixN (x :: y :: xs).length 1 = some 1 := by unfold ixN; simp; omega
  unfold atI; rw [this]; rfl
theorem at2 {α : Type} {x y z : α} {xs : List α} : atI (x :: y :: z :: xs) 2 = some z := by
  have : ixN (x :: y :: z :: xs).length 2 = some 2 := by unfold ixN; simp; omega
  unfold atI; rw [this]; rfl
theorem at3 {α : Type} {x y z u : α} {xs : List α} : atI (x :: y :: z :: u :: xs) 3 = some u := by
  have : ixN (x :: y :: z :: u :: xs).length 3 = some 3 := by unfold ixN; simp; omega
  unfold atI; rw [this]; rfl
section
variable {k : PyData → Prop} {kd : KD} {kb : Bool → Prop} {ds es : List PyData} {a b c d x : PyData} {i j : Int}
theorem ix_l : idxP (.list ds) (.int i) k = ∃ d, atI ds i = some d ∧ k d := rfl
theorem ix_t : idxP (.tuple ds) (.int i) k = ∃ d, atI ds i = some d ∧ k d := rfl
theorem put0 : putP (.list [a, b, c, d]) (.int 0) x k = k (.list [x, b, c, d]) := propext ⟨fun ⟨_, e, h⟩ => by cases e; exact h, fun h => ⟨0, rfl, h⟩⟩
theorem put1 : putP (.list [a, b, c, d]) (.int 1) x k = k (.list [a, x, c, d]) := propext ⟨fun ⟨_, e, h⟩ => by cases e; exact h, fun h => ⟨1, rfl, h⟩⟩
theorem put2 : putP (.list [a, b, c, d]) (.int 2) x k = k (.list [a, b, x, d]) := propext ⟨fun ⟨_, e, h⟩ => by cases e; exact h, fun h => ⟨2, rfl, h⟩⟩
theorem b_add : binP .add (.int i) (.int j) kd = kd (.int (i + j)) 0 := rfl
theorem b_sub : binP .sub (.int i) (.int j) kd = kd (.int (i - j)) 0 := rfl
theorem b_mul : binP .mul (.int i) (.int j) kd = (CMulW i j ∧ kd (.int (i * j)) 0) := rfl
theorem b_mod : binP .mod (.int i) (.int j) kd = (0 < j ∧ kd (.int (i % j)) 0) := rfl
theorem b_fdiv : binP .fdiv (.int i) (.int j) kd = (CDivW i j ∧ kd (.int (i / j)) 0) := rfl
theorem b_pow : binP .pow (.int i) (.int j) kd = (CPow i j ∧ kd (.int (i ^ j.toNat)) 0) := rfl
theorem b_cat : binP .add (.list ds) (.list es) kd = (ds.length + es.length ≤ sizeLine ∧ kd (.list (ds ++ es)) 1) := rfl
theorem eqOk_int : eqOk (.int i) (.int j) := ⟨rfl, rfl, by show min 0 0 ≤ dLow; decide⟩
theorem eqv_int : PyData.eqv (.int i) (.int j) = decide (i = j) := by
  unfold PyData.eqv
  rfl
theorem c_eq : cmpP .eq (.int i) (.int j) kb = kb (decide (i = j)) := propext ⟨fun h => eqv_int ▸ h.2, fun h => ⟨eqOk_int, eqv_int.symm ▸ h⟩⟩
theorem c_gt : cmpP .gt (.int i) (.int j) kb = kb (decide (j < i)) := rfl
theorem c_ge : cmpP .ge (.int i) (.int j) kb = kb (decide (j ≤ i)) := rfl
theorem c_lt : cmpP .lt (.int i) (.int j) kb = kb (decide (i < j)) := rfl
theorem c_le : cmpP .le (.int i) (.int j) kb = kb (decide (i ≤ j)) := rfl
theorem f_int : fnP .int [.int i] kd = kd (.int i) 0 := rfl
theorem f_lenL : fnP .len [.list ds] kd = kd (.int ds.length) 0 := rfl
theorem f_lenT : fnP .len [.tuple ds] kd = kd (.int ds.length) 0 := rfl
theorem s_l {lo hi : Option Int} : slcP (.list ds) lo hi kd = kd (.list (cutD ds lo hi)) 1 := rfl
theorem isl {P : Prop} {ρ : Env} {n : Nat} {p l : Bool} {i : Nat} (h : ρ[i]? = some (some ⟨.list ds, n, p, l⟩)) : isLst i ρ := ⟨_, h, ds, rfl⟩
end
theorem cut_bag {a s i : Int} {cs : List PyData} {p l : Bool} {ρ : Env} {k : KE} : cutP 0 (.int 3) (.cons (.idxS 0 (.int 2)) .nil) .nil (some ⟨.list [.int a, .int s, .int i, .list cs], 2, p, l⟩ :: ρ) k = k (.list (cutD cs (some i) none)) 1 (some ⟨.list [.int a, .int s, .int i, .list cs], 2, p, l⟩ :: ρ) := by
  refine propext ⟨?_, fun h => ⟨_, _, _, cs, _, i, rfl, rfl, rfl, at3, rfl, at2, .inl (Nat.le_refl 2), h⟩⟩
  rintro ⟨s1, s2, ds, es, ds2, q, e1, e2, d1, a1, d2, a2, hf, hk⟩
  cases e1; cases e2; cases d1; cases d2
  rw [at3] at a1; cases a1
  rw [at2] at a2; cases a2
  exact hk
section
variable {T : Tab} {k t : Nat}
theorem wpF_step {T : Tab} {k f : Nat} {x : FnI} {ds : List PyData} {Q : KF} {ex : String → PyData → Prop} (hx : T.fns[f]? = some x) (hl : ds.length = x.np) (h : wpS (ctx T k ex) x.body (envOf x ds) (endsOf x Q)) : wpF T (k + 1) f ds Q ex := by
  show match T.fns[f]? with | some x => _ | none => False
  rw [hx]
  exact ⟨hl, h⟩
theorem take_ok (hT : T.fns[t]? = some takeI) {B : Nat} {bag : PyData} {m : Int} {Q : KF} (hb : Bag B bag) (hB : B < 2 ^ 200) (hm : 0 < m) (hm2 : m.natAbs.log2 < 9000)
    (h : ∀ v bag', 0 ≤ v → v < m → Bag (B + 1) bag' → Q (.int v) 0 [bag']) : wpF T (k + 1) t [bag, .int m] Q noX := by
  refine wpF_step hT rfl ?_
  obtain ⟨a, s, i, cells, rfl, h2, h3, h4, h5, h6, h7, h8⟩ := hb
  show wpS _ bTake [some ⟨.list [.int a, .int s, .int i, .list (cells.map .int)], 2, true, false⟩, some ⟨.int m, 0, false, false⟩, none, none, none, none, none] _
  unfold bTake
  obtain ⟨c, ec, hc⟩ : ∃ c : Int, atI (cutD (cells.map .int) (some i) none ++ [PyData.int 0]) 0 = some (.int c) ∧ 0 ≤ c := by
    have : ∃ l : List Int, cutD (cells.map PyData.int) (some i) none = l.map .int ∧ ∀ c ∈ l, 0 ≤ c := by
      refine ⟨(cells.drop (HT.sIx cells.length 0 (some i))).take (HT.sIx cells.length cells.length none - HT.sIx cells.length 0 (some i)), ?_, fun c hc => h8 c (List.mem_of_mem_drop (List.mem_of_mem_take hc))⟩
      unfold cutD
      rw [List.length_map, ← List.map_drop, ← List.map_take]
    obtain ⟨l, e, hl⟩ := this
    rw [e]
    cases l with
    | nil => exact ⟨0, at0, by omega⟩
    | cons x l => exact ⟨x, at0, hl x (by simp)⟩
  have hcut : (cutD (List.map PyData.int cells) (some i) none).length + [PyData.int 0].length ≤ sizeLine := by
    have e1 : (cutD (List.map PyData.int cells) (some i) none).length ≤ cells.length := by
      unfold cutD
      rw [List.length_take, List.length_drop, List.length_map]; omega
    have : 64 ≤ sizeLine := by decide
    simp; omega
  have mW : ∀ x y : Int, 0 ≤ x → x < (2 ^ 210 : Nat) → 0 ≤ y → y < (2 ^ 210 : Nat) → CMulW x y := fun x y x0 x1 y0 y1 => by
    have := log_lt (n := 210) x0 x1
    have := log_lt (n := 210) y0 y1
    show x.natAbs.log2 + y.natAbs.log2 < 1000000
    omega
  have pw : CPow 10 18 := by unfold CPow; decide
  have dW : ∀ x : Int, CDivW x m := fun x => ⟨hm, hm2⟩
  have dW7 : ∀ x : Int, CDivW x 7 := fun x => ⟨by decide, by decide⟩
  have okI : ∀ (n k : Nat) (x : Int), okOwn n k (.int x) := fun _ _ _ => .inr (.inr rfl)
  have ok0 : ∀ p ∈ [(PyData.int 0, 0)], okOwn 0 p.2 p.1 := fun p hp => .inr (.inl rfl)
  have one : [(PyData.int 0, 0)].length ≤ sizeLine := by show 1 ≤ sizeLine; decide
  have ic : ∀ x : Int, isCont (.int x) = false := fun _ => rfl
  have z2 : 0 < 2 := by decide
  simp (config := { decide := false }) only [ic, z2, or_true, wpS, wpT, wpE, wpL, wpO, rdS, rdV, rdM, free, val, List.getElem?_cons_zero, List.getElem?_cons_succ, Option.some.injEq, exists_eq_left', List.set_cons_zero, List.set_cons_succ, true_and, and_true, Nat.le_refl, true_or, isLst,
    cut_bag, ix_l, put0, put1, put2, b_add, b_mul, b_mod, b_fdiv, b_pow, b_cat, c_eq, c_gt, c_ge, f_int, s_l, at0, at1, at2, at3, List.map_cons, List.map_nil, PyData.list.injEq, exists_eq', ec, dW, dW7, okI, hm, Nat.zero_lt_one]
  have hB2 : (B : Int) < 2 ^ 200 := by exact_mod_cast hB
  have fin : ∀ (v x y z : Int) (cs : List Int) (ρ : List (Option Slot)) (n : Nat), 0 ≤ v → v < m → 0 ≤ x → 0 ≤ y → y < 2147483647 → 0 ≤ z → z ≤ B + 1 → cs = cells → (endsOf takeI Q).rt (.int v) 0 (some ⟨.list [.int x, .int y, .int z, .list (cs.map .int)], 2, true, false⟩ :: ρ) := fun v x y z cs ρ n v0 v1 x0 y0 y1 z0 z1 e => by
    subst e
    exact ⟨[_], rfl, h v _ v0 v1 ⟨x, y, z, cs, rfl, x0, y0, y1, z0, z1, h7, h8⟩⟩
  have md : ∀ x n : Int, 0 < n → 0 ≤ x % n ∧ x % n < n := fun x n h => ⟨Int.emod_nonneg _ (by omega), Int.emod_lt_of_pos _ h⟩
  have mM : ∀ x y n k : Int, 0 < n → n < 2 ^ 60 → 0 ≤ y → y < 2 ^ 60 → k = 0 ∨ k = 1 → CMulW (x % n + k) y := fun x y n k h1 h2 h3 h4 h5 => by
    have := md x n h1
    refine mW _ _ ?_ ?_ h3 ?_
    · rcases h5 with rfl | rfl <;> omega
    · have : (2 ^ 60 : Int) + 1 < ((2 ^ 210 : Nat) : Int) := by decide
      rcases h5 with rfl | rfl <;> omega
    · have : (2 ^ 60 : Int) < ((2 ^ 210 : Nat) : Int) := by decide
      omega
  have mM0 : ∀ x y n : Int, 0 < n → n < 2 ^ 60 → 0 ≤ y → y < 2 ^ 60 → CMulW (x % n) y := fun x y n h1 h2 h3 h4 => by
    have := mM x y n 0 h1 h2 h3 h4 (.inl rfl)
    rwa [Int.add_zero] at this
  have e48 : CMulW s 48271 := by
    have : (2147483647 : Int) < ((2 ^ 210 : Nat) : Int) := by decide
    exact mW _ _ h3 (by omega) (by decide) (by decide)
  have e79 : CMulW 7919 (i + 1) := by
    have : (2 ^ 200 : Int) + 5 < ((2 ^ 210 : Nat) : Int) := by decide
    exact mW _ _ (by decide) (by decide) (by omega) (by omega)
  have sq : ∀ x : Int, CMulW (x % 1000000007) (x % 1000000007) := fun x => by
    have := md x 1000000007 (by decide)
    exact mM0 _ _ _ (by decide) (by decide) this.1 (by omega)
  have tail : ∀ s' : Int, 0 ≤ s' → s' < 2147483647 → CMulW (s' + 1) 39373 := fun s' z0 z1 => by
    have : (2147483648 : Int) < ((2 ^ 210 : Nat) : Int) := by decide
    exact mW _ _ (by omega) (by omega) (by decide) (by decide)
  have p1 : (0 : Int) < 2147483647 := by decide
  have p2 : (0 : Int) < 1000000007 := by decide
  have p3 : (0 : Int) < 998244353 := by decide
  have dm : ∀ x : Int, 0 ≤ x → 0 ≤ x / m := fun x hx => Int.ediv_nonneg hx (by omega)
  split
  · refine ⟨⟨one, ok0⟩, hcut, pw, ?_⟩
    split
    · refine ⟨e48, p1, e79, p1, ?_⟩
      have ms := md (s * 48271 + c % 2147483647 + 7919 * (i + 1)) 2147483647 p1
      split
      · exact fin _ _ _ _ cells _ 0 (md _ _ hm).1 (md _ _ hm).2 (dm _ hc) ms.1 ms.2 (by omega) (by omega) rfl
      · exact ⟨tail _ ms.1 ms.2, p2, sq _, p3, mM0 _ _ _ p3 (by decide) (by decide) (by decide), p3, fin _ _ _ _ cells _ 0 (md _ _ hm).1 (md _ _ hm).2 hc ms.1 ms.2 (by omega) (by omega) rfl⟩
    · refine ⟨e48, p1, e79, p1, ?_⟩
      have ms := md (s * 48271 + c % 2147483647 + 7919 * (i + 1)) 2147483647 p1
      split
      · exact fin _ _ _ _ cells _ 0 (md _ _ hm).1 (md _ _ hm).2 (dm _ h2) ms.1 ms.2 (by omega) (by omega) rfl
      · exact ⟨tail _ ms.1 ms.2, p2, sq _, p3, mM0 _ _ _ p3 (by decide) (by decide) (by decide), p3, fin _ _ _ _ cells _ 0 (md _ _ hm).1 (md _ _ hm).2 h2 ms.1 ms.2 (by omega) (by omega) rfl⟩
  · split
    · exact fin _ _ _ _ cells _ 0 (md _ _ hm).1 (md _ _ hm).2 (dm _ h2) h3 h4 h5 (by omega) rfl
    · exact ⟨tail _ h3 h4, p2, sq _, p3, mM0 _ _ _ p3 (by decide) (by decide) (by decide), p3, fin _ _ _ _ cells _ 0 (md _ _ hm).1 (md _ _ hm).2 h2 h3 h4 h5 (by omega) rfl⟩
end
end PL
end
section
set_option Elab.async false
set_option linter.all false
set_option maxRecDepth 100000
set_option maxHeartbeats 2000000
/-! PP2: folds by an invariant; some, mixed, alike. -/
namespace PL
open L2 PySem.Spec PySem
theorem forFold_inv {step : PyData → Env → (Env → Prop) → Prop} {xs : List PyData} {ρ : Env} {k : Env → Prop} (P : Nat → Env → Prop) (h0 : P 0 ρ)
    (hs : ∀ (i : Nat) (x : PyData) (ρ : Env) (K : Env → Prop), xs[i]? = some x → P i ρ → (∀ ρ', P (i + 1) ρ' → K ρ') → step x ρ K) (hd : ∀ ρ, P xs.length ρ → k ρ) : forFold step xs ρ k := by
  induction xs generalizing ρ P with
  | nil => exact hd ρ h0
  | cons x xs ih =>
    show step x ρ fun ρ' => forFold step xs ρ' k
    refine hs 0 x ρ _ rfl h0 fun ρ' h1 => ?_
    exact ih (fun i => P (i + 1)) h1 (fun i y ρ K e => hs (i + 1) y ρ K (by simpa using e)) hd
theorem lcFold_inv {α : Type} {step : PyData → α → Env → (α → Env → Prop) → Prop} {xs : List PyData} {acc : α} {ρ : Env} {k : α → Env → Prop} (P : Nat → α → Env → Prop) (h0 : P 0 acc ρ)
    (hs : ∀ (i : Nat) (x : PyData) (acc : α) (ρ : Env) (K : α → Env → Prop), xs[i]? = some x → P i acc ρ → (∀ acc' ρ', P (i + 1) acc' ρ' → K acc' ρ') → step x acc ρ K) (hd : ∀ acc ρ, P xs.length acc ρ → k acc ρ) : lcFold step xs acc ρ k := by
  induction xs generalizing ρ acc P with
  | nil => exact hd acc ρ h0
  | cons x xs ih =>
    show step x acc ρ fun acc' ρ' => lcFold step xs acc' ρ' k
    refine hs 0 x acc ρ _ rfl h0 fun acc' ρ' h1 => ?_
    exact ih (fun i => P (i + 1)) h1 (fun i y acc ρ K e => hs (i + 1) y acc ρ K (by simpa using e)) hd
theorem atI_nat {α : Type} {xs : List α} {v : Int} (h0 : 0 ≤ v) (h1 : v < xs.length) : ∃ x, atI xs v = some x ∧ x ∈ xs ∧ xs[v.toNat]? = some x := by
  have hv : v.toNat < xs.length := by omega
  refine ⟨xs[v.toNat], ?_, List.getElem_mem _, List.getElem?_eq_getElem hv⟩
  unfold atI ixN
  rw [if_pos h0, if_pos h1]
  exact List.getElem?_eq_getElem hv
mutual
theorem eqvR : ∀ d : PyData, d.plain = true → PyData.eqv d d = true
  | .none, _ => by rw [PyData.eqv]
  | .bool b, _ => by simp [PyData.eqv]
  | .int i, _ => by simp [PyData.eqv]
  | .str x, _ => by simp [PyData.eqv]
  | .list xs, h => by rw [PyData.eqv]; exact eqvRs xs (by simpa [PyData.plain] using h)
  | .tuple xs, h => by rw [PyData.eqv]; exact eqvRs xs (by simpa [PyData.plain] using h)
  | .dict _, h => by simp [PyData.plain] at h
theorem eqvRs : ∀ xs : List PyData, PyData.plainAll xs = true → PyData.eqvAll xs xs = true
  | [], _ => by rw [PyData.eqvAll]
  | x :: xs, h => by
    have h : x.plain = true ∧ PyData.plainAll xs = true := by simpa [PyData.plainAll] using h
    rw [PyData.eqvAll, eqvR x h.1, eqvRs xs h.2]; rfl
end
def bSome (t : Nat) : Sm := .seq (.ret (.idx (.slot 1) (.call t (.cons (.lend 0) (.cons (.fn .len (.cons (.slot 1) (.nil))) (.nil)))))) (.nil)
def someI (t : Nat) : FnI := ⟨"_law_some", 2, 2, [2, 0], bSome t⟩
def bMixed (t : Nat) : Sm := .seq (.asg 2 (.lst 0 (.nil))) (.seq (.for_ (.nm 3) (.itv (.slot 1)) (.seq (.insert 2 (.call t (.cons (.lend 0) (.cons (.bin .add (.fnS .len 2) (.int 1)) (.nil)))) (.slot 3)) (.nil))) (.seq (.retS 2) (.nil)))
def mixedI (t : Nat) : FnI := ⟨"_law_mixed", 2, 4, [2, 0], bMixed t⟩
def bAlike : Sm := .seq (.ret (.and (.cmp .eq (.slot 0) (.slot 1)) (.cmp .eq (.fn .repr (.cons (.slot 0) (.nil))) (.fn .repr (.cons (.slot 1) (.nil)))))) (.nil)
def alikeI : FnI := ⟨"_law_alike", 2, 2, [0, 0], bAlike⟩
theorem sig_of {T : Tab} {f : Nat} {x : FnI} (h : T.fns[f]? = some x) : sigOf T f = x.lend := by unfold sigOf; rw [h]
theorem log_size {n : Nat} (h : n ≤ sizeLine) : (n : Int).natAbs.log2 < 9000 := by
  have h1 := log_lt (i := (n : Int)) (n := 200) (by omega) (by
    have : (sizeLine : Int) < ((2 ^ 200 : Nat) : Int) := by decide
    omega)
  omega
section
variable {T : Tab} {k t f : Nat} {B : Nat} {bag : PyData} {Q : KF}
theorem some_ok {things : PyData} {ds : List PyData} (hT : T.fns[t]? = some takeI) (hf : T.fns[f]? = some (someI t)) (hb : Bag B bag) (hB : B < 2 ^ 200) (hd : things = .list ds ∨ things = .tuple ds) (ne : ds ≠ []) (hl : ds.length ≤ sizeLine)
    (h : ∀ d bag', d ∈ ds → Bag (B + 1) bag' → Q d 0 [bag']) : wpF T (k + 2) f [bag, things] Q noX := by
  refine wpF_step hf rfl ?_
  have h0 : 0 < ds.length := List.length_pos_iff.mpr ne
  have go : ∀ things, (things = .list ds ∨ things = .tuple ds) → wpS (ctx T (k + 1) noX) (bSome t) [some ⟨bag, 2, true, false⟩, some ⟨things, 0, false, false⟩] (endsOf (someI t) Q) := by
    intro things hd
    unfold bSome
    have e1 : ∀ (P : PyData → Prop) (j : Int), (∃ d, atI ds j = some d ∧ P d) → idxP things (.int j) P := fun P j h => by rcases hd with rfl | rfl <;> exact h
    have e2 : ∀ (kd : KD), kd (.int ds.length) 0 → fnP .len [things] kd := fun kd h => by rcases hd with rfl | rfl <;> exact h
    refine ⟨_, rfl, .inl rfl, ?_⟩
    refine ⟨_, rfl, ⟨_, rfl, .inl rfl, e2 _ ?_⟩⟩
    refine ⟨[bag, .int ds.length], rfl, ?_, ⟨Nat.le_refl 1, fun i _ => by simp [bors]⟩, ?_⟩
    · show lendOk _ _ (sigOf T t) = true
      rw [sig_of hT]; rfl
    · refine take_ok hT hb hB (by omega) (log_size hl) fun v bag' v0 v1 hb' => ⟨.inl rfl, ?_⟩
      obtain ⟨d, e, hm, _⟩ := atI_nat (xs := ds) v0 (by omega)
      exact e1 _ _ ⟨d, e, [bag'], rfl, h d bag' hm hb'⟩
  exact go things hd
theorem wpS_seq {G : Ctx} {a r : Sm} {ρ : Env} {D : KS} : wpS G (.seq a r) ρ D = wpS G a ρ { D with nx := fun ρ1 => wpS G r ρ1 D } := rfl
theorem wpS_for {G : Ctx} {tg : Tg} {it : E} {body : Sm} {ρ : Env} {D : KS} : wpS G (.for_ tg it body) ρ D = wpI G it ρ fun items ρ1 => forFold (fun x ρ2 k2 => lkIs it ρ1 ρ2 ∧ bindT tg x ρ2 fun ρ3 => wpS G body ρ3 { nx := k2, rt := D.rt, bk := fun ρ4 => lkOut it ρ1 ρ4 D.nx, ct := k2 }) items (lkIn it ρ1) fun ρ5 => lkOut it ρ1 ρ5 D.nx := rfl
theorem mixed_ok {things : PyData} {ds : List PyData} (hT : T.fns[t]? = some takeI) (hf : T.fns[f]? = some (mixedI t)) (hb : Bag B bag) (hB : B + ds.length < 2 ^ 200) (hd : things = .list ds ∨ things = .tuple ds) (hl : ds.length ≤ sizeLine)
    (h : ∀ out bag', out.Perm ds → Bag (B + ds.length) bag' → Q (.list out) 1 [bag']) : wpF T (k + 2) f [bag, things] Q noX := by
  refine wpF_step hf rfl ?_
  show wpS (ctx T (k + 1) noX) (bMixed t) [some ⟨bag, 2, true, false⟩, some ⟨things, 0, false, false⟩, none, none] (endsOf (mixedI t) Q)
  unfold bMixed
  refine ⟨⟨by decide, fun p hp => by cases hp⟩, trivial, ?_⟩
  have hw : ∀ K : List PyData → Env → Prop, ∀ ρ : Env, ρ[1]? = some (some ⟨things, 0, false, false⟩) → K ds ρ → wpI (ctx T (k + 1) noX) (.itv (.slot 1)) ρ K := fun K ρ e q => by
    refine ⟨_, e, .inl rfl, ?_⟩
    rcases hd with rfl | rfl <;> exact q
  show wpS (ctx T (k + 1) noX) (.seq (.for_ (.nm 3) (.itv (.slot 1)) (.seq (.insert 2 (.call t (.cons (.lend 0) (.cons (.bin .add (.fnS .len 2) (.int 1)) (.nil)))) (.slot 3)) (.nil))) (.seq (.retS 2) (.nil))) [some ⟨bag, 2, true, false⟩, some ⟨things, 0, false, false⟩, some ⟨.list [], 1, false, false⟩, none] (endsOf (mixedI t) Q)
  rw [wpS_seq, wpS_for]
  refine hw _ _ rfl ?_
  refine forFold_inv (fun i ρ => ∃ (out : List PyData) (bag' : PyData) (s3 : Option Slot), ρ = [some ⟨bag', 2, true, false⟩, some ⟨things, 0, false, false⟩, some ⟨.list out, 1, false, false⟩, s3] ∧ (s3 = none ∨ ∃ d, s3 = some ⟨d, 0, false, false⟩) ∧ out.Perm (ds.take i) ∧ Bag (B + i) bag') ⟨[], bag, none, rfl, .inl rfl, List.Perm.refl _, hb⟩ ?_ ?_
  · rintro i x ρ K hx ⟨out, bag', s3, rfl, h3, hp, hb'⟩ fin
    have hi : i < ds.length := (List.getElem?_eq_some_iff.mp hx).1
    have hol : out.length = i := by rw [hp.length_eq, List.length_take]; omega
    refine ⟨trivial, ⟨?_, ?_⟩⟩
    · rcases h3 with rfl | ⟨d, rfl⟩
      · trivial
      · rfl
    · refine ⟨⟨_, rfl, out, rfl⟩, ?_⟩
      refine ⟨_, rfl, ⟨_, rfl, rfl, ?_⟩⟩
      refine ⟨[bag', .int (out.length + 1)], rfl, ?_, ⟨Nat.le_refl 1, fun i _ => by simp [bors]⟩, ?_⟩
      · show lendOk _ _ (sigOf T t) = true
        rw [sig_of hT]; rfl
      · have e1 : (out.length : Int) + 1 = ((out.length + 1 : Nat) : Int) := by omega
        refine take_ok hT hb' (by omega) (by omega) (by rw [e1]; exact log_size (by omega)) fun v bag2 v0 v1 hb2 => ⟨.inl rfl, ?_⟩
        refine ⟨_, rfl, .inl rfl, _, rfl, rfl, ⟨Nat.zero_lt_one, .inr (.inl rfl), v0, by omega, by omega⟩, ?_⟩
        refine fin _ ⟨out.take v.toNat ++ x :: out.drop v.toNat, bag2, _, rfl, .inr ⟨_, rfl⟩, ?_, hb2⟩
        have e2 : ds.take (i + 1) = ds.take i ++ [x] := by rw [List.take_add_one, hx]; rfl
        rw [e2]
        refine (List.perm_middle).trans ?_
        rw [List.take_append_drop]
        exact ((List.Perm.cons x hp).trans (List.perm_append_comm (l₁ := [x])))
  · rintro ρ ⟨out, bag', s3, rfl, h3, hp, hb'⟩
    refine ⟨_, rfl, rfl, [bag'], rfl, h out bag' ?_ hb'⟩
    rwa [List.take_length] at hp
/-- what may be compared and shown -/
structure Shows (d : PyData) : Prop where
  plain : d.plain = true
  depth : d.depth ≤ dLow
  show_ : d.showable = true
  size : d.shown.length ≤ sizeLine
theorem alike_ok {a : PyData} (hf : T.fns[f]? = some alikeI) (ha : Shows a) (h : Q (.bool true) 0 []) : wpF T (k + 1) f [a, a] Q noX := by
  refine wpF_step hf rfl ?_
  show wpS (ctx T k noX) bAlike [some ⟨a, 0, false, false⟩, some ⟨a, 0, false, false⟩] (endsOf alikeI Q)
  unfold bAlike
  refine ⟨_, rfl, .inl rfl, _, rfl, .inl rfl, ⟨ha.plain, ha.plain, (by have := ha.depth; show min a.depth a.depth ≤ dLow; omega)⟩, ?_⟩
  simp only [eqvR a ha.plain]
  refine ⟨_, rfl, .inl rfl, ⟨ha.show_, ha.size, ha.depth⟩, _, rfl, .inl rfl, ⟨ha.show_, ha.size, ha.depth⟩, ⟨rfl, rfl, by show min 0 0 ≤ dLow; decide⟩, ?_⟩
  have : PyData.eqv (.str a.shown) (.str a.shown) = true := eqvR _ rfl
  simp only [this]
  exact ⟨[], rfl, h⟩
end
end PL
end
section
set_option Elab.async false
set_option linter.all false
set_option maxRecDepth 100000
set_option maxHeartbeats 2000000
/-! PP3: pure comprehensions, readings of texts and bools. -/
namespace PL
open L2 PySem.Spec PySem
theorem filterMap_len {f : PyData → Option PyData} : ∀ l : List PyData, (l.filterMap f).length ≤ l.length := fun l => by
  induction l with
  | nil => simp
  | cons x l ih =>
    rw [List.filterMap_cons]
    split
    · simp; omega
    · simp; omega
/-- a comprehension that draws nothing: the slots as they were -/
theorem lc_pure {step : PyData → List PyData → Env → (List PyData → Env → Prop) → Prop} (f : PyData → Option PyData) {items : List PyData} {ρ : Env} {kend : List PyData → Env → Prop} (few : items.length ≤ sizeLine)
    (hs : ∀ x ∈ items, ∀ (acc : List PyData) (K : List PyData → Env → Prop), acc.length < sizeLine → (∀ y, f x = some y → K (acc ++ [y]) ρ) → (f x = none → K acc ρ) → step x acc ρ K) (hk : kend (items.filterMap f) ρ) : lcFold step items [] ρ kend := by
  refine lcFold_inv (fun i acc ρ' => ρ' = ρ ∧ acc = (items.take i).filterMap f) ⟨rfl, rfl⟩ ?_ ?_
  · rintro i x acc _ K hx ⟨rfl, rfl⟩ fin
    have hi : i < items.length := (List.getElem?_eq_some_iff.mp hx).1
    have e : items.take (i + 1) = items.take i ++ [x] := by rw [List.take_add_one, hx]; rfl
    refine hs x (List.mem_of_getElem? hx) _ K ?_ (fun y hy => fin _ _ ⟨rfl, ?_⟩) fun hy => fin _ _ ⟨rfl, ?_⟩
    · have := filterMap_len (f := f) (items.take i)
      rw [List.length_take] at this
      omega
    · rw [e, List.filterMap_append]; simp [hy]
    · rw [e, List.filterMap_append]; simp [hy]
  · rintro acc ρ' ⟨rfl, rfl⟩
    rw [List.take_length]; exact hk
/-- each item gives one -/
theorem lc_map {step : PyData → List PyData → Env → (List PyData → Env → Prop) → Prop} (f : PyData → PyData) {items : List PyData} {ρ : Env} {kend : List PyData → Env → Prop} (few : items.length ≤ sizeLine)
    (hs : ∀ x ∈ items, ∀ (acc : List PyData) (K : List PyData → Env → Prop), acc.length < sizeLine → K (acc ++ [f x]) ρ → step x acc ρ K) (hk : kend (items.map f) ρ) : lcFold step items [] ρ kend := by
  refine lc_pure (fun x => some (f x)) few (fun x hx acc K h1 h2 _ => hs x hx acc K h1 (h2 _ rfl)) ?_
  rw [List.filterMap_eq_map']
  exact hk
section
variable {kb : Bool → Prop} {kd : KD} {x y : Str} {a b : Bool} {ds : List PyData}
theorem eqOk_str : eqOk (.str x) (.str y) := ⟨rfl, rfl, by show min 0 0 ≤ dLow; decide⟩
theorem eqv_str : PyData.eqv (.str x) (.str y) = decide (x = y) := by
  unfold PyData.eqv
  by_cases h : x = y
  · subst h; simp
  · simp [h]
theorem c_eqS : cmpP .eq (.str x) (.str y) kb = kb (decide (x = y)) := propext ⟨fun h => eqv_str ▸ h.2, fun h => ⟨eqOk_str, eqv_str.symm ▸ h⟩⟩
theorem c_neS : cmpP .ne (.str x) (.str y) kb = kb (!decide (x = y)) := propext ⟨fun h => eqv_str ▸ h.2, fun h => ⟨eqOk_str, eqv_str.symm ▸ h⟩⟩
theorem c_ne {i j : Int} : cmpP .ne (.int i) (.int j) kb = kb (!decide (i = j)) := propext ⟨fun h => eqv_int ▸ h.2, fun h => ⟨eqOk_int, eqv_int.symm ▸ h⟩⟩
theorem i_eqS (h : kb (decide (x = y))) : cmpP .eq (.str x) (.str y) kb := c_eqS.symm ▸ h
theorem i_neS (h : kb (!decide (x = y))) : cmpP .ne (.str x) (.str y) kb := c_neS.symm ▸ h
theorem i_eqI {i j : Int} (h : kb (decide (i = j))) : cmpP .eq (.int i) (.int j) kb := c_eq.symm ▸ h
theorem i_neI {i j : Int} (h : kb (!decide (i = j))) : cmpP .ne (.int i) (.int j) kb := c_ne.symm ▸ h
theorem f_tupL : fnP .tuple [.list ds] kd = kd (.tuple ds) 0 := rfl
theorem f_intB : fnP .int [.bool a] kd = kd (.int (if a = true then 1 else 0)) 0 := rfl
theorem bools_map : ∀ (l : List Bool), boolsOf (l.map .bool) = some l
  | [] => rfl
  | b :: l => by rw [List.map_cons, boolsOf, bools_map l]; rfl
theorem ints_map : ∀ (l : List Int), intsOf (l.map .int) = some l
  | [] => rfl
  | b :: l => by rw [List.map_cons, intsOf, ints_map l]; rfl
theorem f_all {l : List Bool} : fnP .all [.list (l.map .bool)] kd = kd (.bool (l.all id)) 0 := propext ⟨fun ⟨bs, e, h⟩ => by rw [bools_map] at e; cases e; exact h, fun h => ⟨l, bools_map l, h⟩⟩
theorem f_sum {l : List Int} : fnP .sum [.list (l.map .int)] kd = kd (.int l.sum) 0 := propext ⟨fun ⟨bs, e, h⟩ => by rw [ints_map] at e; cases e; exact h, fun h => ⟨l, ints_map l, h⟩⟩
end
end PL
namespace PL
open L2 PySem.Spec PySem
section
variable {T : Tab} {k f n1 n2 : Nat} {x y : PyData} {ρ : Env} {K : PyData → Nat → Env → Prop}
/-- a def called with values alone -/
theorem call1 (sg : sigOf T f = [0]) (h : wpF T k f [x] (fun d n _ => K d n ρ) noX) : ∃ ds, argsD ρ [.val x n1] = some ds ∧ lendOk ρ [.val x n1] (sigOf T f) = true ∧ ((lents [.val x n1]).length ≤ 1 ∧ ∀ i ∈ lents [.val x n1], i ∉ bors [.val x n1]) ∧
    wpF T k f ds (fun d n outs => (bors [.val x n1] = [] ∨ (flatN n d = true ∧ outsFlat (sigOf T f) outs = true)) ∧ K d n (putOuts [.val x n1] outs ρ)) noX := by
  refine ⟨[x], rfl, by rw [sg]; rfl, ⟨Nat.zero_le _, fun i hi => by cases hi⟩, ?_⟩
  have e : (fun d n (outs : List PyData) => (bors [.val x n1] = [] ∨ (flatN n d = true ∧ outsFlat (sigOf T f) outs = true)) ∧ K d n (putOuts [.val x n1] outs ρ)) = fun d n _ => K d n ρ := by
    funext d n outs
    have : putOuts [.val x n1] outs ρ = ρ := by cases outs <;> rfl
    rw [this]
    exact propext ⟨fun h => h.2, fun h => ⟨.inl rfl, h⟩⟩
  rw [e]; exact h
theorem call2 (sg : sigOf T f = [0, 0]) (h : wpF T k f [x, y] (fun d n _ => K d n ρ) noX) : ∃ ds, argsD ρ [.val x n1, .val y n2] = some ds ∧ lendOk ρ [.val x n1, .val y n2] (sigOf T f) = true ∧ ((lents [.val x n1, .val y n2]).length ≤ 1 ∧ ∀ i ∈ lents [.val x n1, .val y n2], i ∉ bors [.val x n1, .val y n2]) ∧
    wpF T k f ds (fun d n outs => (bors [.val x n1, .val y n2] = [] ∨ (flatN n d = true ∧ outsFlat (sigOf T f) outs = true)) ∧ K d n (putOuts [.val x n1, .val y n2] outs ρ)) noX := by
  refine ⟨[x, y], rfl, by rw [sg]; rfl, ⟨Nat.zero_le _, fun i hi => by cases hi⟩, ?_⟩
  have e : (fun d n (outs : List PyData) => (bors [.val x n1, .val y n2] = [] ∨ (flatN n d = true ∧ outsFlat (sigOf T f) outs = true)) ∧ K d n (putOuts [.val x n1, .val y n2] outs ρ)) = fun d n _ => K d n ρ := by
    funext d n outs
    have : putOuts [.val x n1, .val y n2] outs ρ = ρ := by cases outs <;> rfl
    rw [this]
    exact propext ⟨fun h => h.2, fun h => ⟨.inl rfl, h⟩⟩
  rw [e]; exact h
end
end PL
namespace PL
open L2 PySem.Spec PySem
/-- a evaluates to x, the slots as they were -/
def Pv (G : Ctx) (a : E) (ρ : Env) (x : PyData) : Prop := ∀ K : KE, K x 0 ρ → wpE G a ρ K
section
variable {G : Ctx} {T : Tab} {k f n1 n2 i : Nat} {a b : E} {x y : PyData} {ρ : Env} {K : KE} {p l : Bool}
theorem pv_slot (h : ρ[i]? = some (some ⟨x, 0, p, l⟩)) : Pv G (.slot i) ρ x := fun K q => ⟨_, h, .inl rfl, q⟩
theorem Pv.arg {r : E} {kk : List Arg → Env → Prop} (ha : Pv G a ρ x) (q : wpA G r ρ fun as ρ2 => kk (.val x 0 :: as) ρ2) : wpA G (.cons a r) ρ kk := by
  have h := ha (fun d n ρ1 => wpA G r ρ1 fun as ρ2 => kk (.val d n :: as) ρ2) q
  cases a <;> first | exact h | exact (show False from h).elim
theorem w_call1 (ha : Pv (ctx T k noX) a ρ x) (sg : sigOf T f = [0]) (h : wpF T k f [x] (fun d n _ => K d n ρ) noX) : wpE (ctx T k noX) (.call f (.cons a .nil)) ρ K := by
  show wpA (ctx T k noX) (.cons a .nil) ρ _
  exact ha.arg (call1 sg h)
theorem w_call2 (ha : Pv (ctx T k noX) a ρ x) (hb : Pv (ctx T k noX) b ρ y) (sg : sigOf T f = [0, 0]) (h : wpF T k f [x, y] (fun d n _ => K d n ρ) noX) : wpE (ctx T k noX) (.call f (.cons a (.cons b .nil))) ρ K := by
  show wpA (ctx T k noX) (.cons a (.cons b .nil)) ρ _
  exact ha.arg (hb.arg (call2 sg h))
end
end PL
namespace PL
open L2 PySem.Spec PySem
section
variable {G : Ctx} {a b : E} {ρ : Env} {K : KE} {D : KS} {i : Nat} {e : E} {m : Sm}
theorem wpS_ret : wpS G (.ret e) ρ D = wpE G e ρ D.rt := rfl
theorem wpS_expr : wpS G (.expr e) ρ D = wpE G e ρ fun _ _ ρ1 => D.nx ρ1 := rfl
theorem wpS_asg : wpS G (.asg i e) ρ D = wpE G e ρ fun d n ρ1 => free i ρ1 ∧ D.nx (ρ1.set i (val d n)) := rfl
theorem wpE_idx : wpE G (.idx a b) ρ K = wpE G a ρ fun x _ ρ1 => wpE G b ρ1 fun y _ ρ2 => idxP x y fun d => K d 0 ρ2 := rfl
end
end PL
end
section
set_option Elab.async false
set_option linter.all false
set_option maxRecDepth 100000
set_option maxHeartbeats 400000
/-! PP4: pure expressions by their values (Pv). -/
namespace PL
open L2 PySem.Spec PySem
section
variable {G : Ctx} {T : Tab} {k f m i : Nat} {a b c elt ifs : E} {tg : Tg} {vs : List Nat} {x y d : PyData} {items ds es : List PyData} {ρ : Env} {K : KE} {t u : Bool} {j l : Int} {z z2 : Str}
theorem pv_int : Pv G (.int j) ρ (.int j) := fun K q => q
theorem pv_bool : Pv G (.bool t) ρ (.bool t) := fun K q => q
theorem pv_none : Pv G .none ρ .none := fun K q => q
theorem pv_str {n : String} : Pv G (.str n) ρ (.str n) := fun K q => q
theorem pv_idxT (ha : Pv G a ρ (.tuple ds)) (hb : Pv G b ρ (.int j)) (e : atI ds j = some d) : Pv G (.idx a b) ρ d := fun K q => ha _ (hb _ ⟨d, e, q⟩)
theorem pv_idxL (ha : Pv G a ρ (.list ds)) (hb : Pv G b ρ (.int j)) (e : atI ds j = some d) : Pv G (.idx a b) ρ d := fun K q => ha _ (hb _ ⟨d, e, q⟩)
theorem pv_not (ha : Pv G a ρ (.bool t)) : Pv G (.not a) ρ (.bool (!t)) := fun K q => ha _ q
theorem pv_and (ha : Pv G a ρ (.bool t)) (hb : t = true → Pv G b ρ (.bool u)) : Pv G (.and a b) ρ (.bool (t && u)) := fun K q => ha _ (by
  cases t with
  | true => exact hb rfl _ q
  | false => exact q)
theorem pv_or (ha : Pv G a ρ (.bool t)) (hb : t = false → Pv G b ρ (.bool u)) : Pv G (.or a b) ρ (.bool (t || u)) := fun K q => ha _ (by
  cases t with
  | true => exact q
  | false => exact hb rfl _ q)
theorem pv_eqS (ha : Pv G a ρ (.str z)) (hb : Pv G b ρ (.str z2)) : Pv G (.cmp .eq a b) ρ (.bool (decide (z = z2))) := fun K q => ha _ (hb _ (i_eqS q))
theorem pv_neS (ha : Pv G a ρ (.str z)) (hb : Pv G b ρ (.str z2)) : Pv G (.cmp .ne a b) ρ (.bool (!decide (z = z2))) := fun K q => ha _ (hb _ (i_neS q))
theorem pv_eqI (ha : Pv G a ρ (.int j)) (hb : Pv G b ρ (.int l)) : Pv G (.cmp .eq a b) ρ (.bool (decide (j = l))) := fun K q => ha _ (hb _ (i_eqI q))
theorem pv_neI (ha : Pv G a ρ (.int j)) (hb : Pv G b ρ (.int l)) : Pv G (.cmp .ne a b) ρ (.bool (!decide (j = l))) := fun K q => ha _ (hb _ (i_neI q))
theorem pv_leI (ha : Pv G a ρ (.int j)) (hb : Pv G b ρ (.int l)) : Pv G (.cmp .le a b) ρ (.bool (decide (j ≤ l))) := fun K q => ha _ (hb _ q)
theorem pv_add (ha : Pv G a ρ (.int j)) (hb : Pv G b ρ (.int l)) : Pv G (.bin .add a b) ρ (.int (j + l)) := fun K q => ha _ (hb _ q)
theorem pv_call1 (ha : Pv (ctx T k noX) a ρ x) (sg : sigOf T f = [0]) (h : ∀ Q : KF, Q y 0 [] → wpF T k f [x] Q noX) : Pv (ctx T k noX) (.call f (.cons a .nil)) ρ y := fun K q => w_call1 ha sg (h _ q)
theorem pv_call2 (ha : Pv (ctx T k noX) a ρ x) (hb : Pv (ctx T k noX) b ρ d) (sg : sigOf T f = [0, 0]) (h : ∀ Q : KF, Q y 0 [] → wpF T k f [x, d] Q noX) : Pv (ctx T k noX) (.call f (.cons a (.cons b .nil))) ρ y := fun K q => w_call2 ha hb sg (h _ q)
/-- an expression whose value has owned levels: Pn -/
def Pn (G : Ctx) (a : E) (ρ : Env) (x : PyData) (n : Nat) : Prop := ∀ K : KE, K x n ρ → wpE G a ρ K
theorem pv_fn1 {n : Nat} {g : BF} (ha : Pn G a ρ x n) (h : ∀ kd : KD, kd y 0 → fnP g [x] kd) : Pv G (.fn g (.cons a .nil)) ρ y := fun K q => ha _ (h _ q)
theorem Pv.pn (h : Pv G a ρ x) : Pn G a ρ x 0 := h
theorem pv_lenT (ha : Pv G a ρ (.tuple ds)) : Pv G (.fn .len (.cons a .nil)) ρ (.int ds.length) := pv_fn1 ha.pn fun kd q => q
theorem pv_intB (ha : Pv G a ρ (.bool t)) : Pv G (.fn .int (.cons a .nil)) ρ (.int (if t = true then 1 else 0)) := pv_fn1 ha.pn fun kd q => q
theorem pv_all {n : Nat} {bs : List Bool} (ha : Pn G a ρ (.list (bs.map .bool)) n) : Pv G (.fn .all (.cons a .nil)) ρ (.bool (bs.all id)) := pv_fn1 ha fun kd q => f_all.symm ▸ q
theorem pv_sum {n : Nat} {bs : List Int} (ha : Pn G a ρ (.list (bs.map .int)) n) : Pv G (.fn .sum (.cons a .nil)) ρ (.int bs.sum) := pv_fn1 ha fun kd q => f_sum.symm ▸ q
theorem pv_tupL {n : Nat} (ha : Pn G a ρ (.list ds) n) : Pv G (.fn .tuple (.cons a .nil)) ρ (.tuple ds) := pv_fn1 ha fun kd q => q
theorem ift {A B : Prop} (h : A) : if true = true then A else B := (if_pos rfl).symm ▸ h
/-- a comprehension of a pure walk, each item bound at ρ3 x, its element f x -/
theorem pn_lcMap {n0 : Nat} (ha : Pn G a ρ d n0) (hd : d = .list items ∨ d = .tuple items) (few : items.length ≤ sizeLine) (g : PyData → PyData) (ρ3 : PyData → Env) (clean : forgetS vs ρ = ρ) (ok : okForget vs ρ)
    (hb : ∀ x ∈ items, ∀ K : Env → Prop, K (ρ3 x) → bindT tg x ρ K) (he : ∀ x ∈ items, Pv G elt (ρ3 x) (g x)) (hf : ∀ x ∈ items, okForget vs (ρ3 x) ∧ forgetS vs (ρ3 x) = ρ) : Pn G (.lc 0 elt tg (.itv a) .nil vs) ρ (.list (items.map g)) 1 := fun K q => by
  have go : ∀ d, (d = .list items ∨ d = .tuple items) → Pn G a ρ d n0 → wpE G (.lc 0 elt tg (.itv a) .nil vs) ρ K := fun d hd ha => by
    refine ha _ ?_
    have body : okForget vs ρ ∧ lcFold (fun x (acc : List PyData) ρ2 k2 => lkIs (.itv a) ρ ρ2 ∧ bindT tg x ρ2 fun ρ3 => wpC G .nil ρ3 fun b ρ4 => if b = true
        then wpE G elt ρ4 fun d n ρ5 => (okOwn 0 n d ∧ acc.length < sizeLine ∧ okForget vs ρ5) ∧ k2 (acc ++ [d]) (forgetS vs ρ5)
        else okForget vs ρ4 ∧ k2 acc (forgetS vs ρ4)) items [] (forgetS vs ρ) fun acc ρ6 => K (.list acc) 1 ρ6 := by
      refine ⟨ok, ?_⟩
      rw [clean]
      refine lc_map g few (fun x hx acc K2 h1 h2 => ?_) q
      refine ⟨trivial, hb x hx _ ?_⟩
      exact he x hx (fun d n ρ5 => (okOwn 0 n d ∧ acc.length < sizeLine ∧ okForget vs ρ5) ∧ K2 (acc ++ [d]) (forgetS vs ρ5)) ⟨⟨.inr (.inl rfl), h1, (hf x hx).1⟩, by rw [(hf x hx).2]; exact h2⟩
    rcases hd with rfl | rfl <;> exact body
  exact go d hd ha
theorem w_ite {t : Bool} {c : E} {m1 m2 : Sm} {D : KS} (hc : Pv G c ρ (.bool t)) (h1 : t = true → wpS G m1 ρ D) (h2 : t = false → wpS G m2 ρ D) : wpS G (.ite c m1 m2) ρ D := hc _ (by
  cases t with
  | true => exact h1 rfl
  | false => exact h2 rfl)
theorem w_ret {c : E} {D : KS} (hc : Pv G c ρ x) (q : D.rt x 0 ρ) : wpS G (.ret c) ρ D := hc _ q
end
end PL
end
section
set_option Elab.async false
set_option linter.all false
set_option maxRecDepth 100000
set_option maxHeartbeats 400000
/-! PP5: comprehensions with a test; lists compared, sorted. -/
namespace PL
open L2 PySem.Spec PySem
theorem fm_if (p : PyData → Bool) (g : PyData → PyData) : ∀ l : List PyData, l.filterMap (fun x => if p x = true then some (g x) else none) = (l.filter p).map g
  | [] => rfl
  | x :: l => by
    rw [List.filterMap_cons, List.filter_cons]
    by_cases h : p x = true
    · rw [if_pos h, if_pos h, List.map_cons, fm_if p g l]
    · rw [if_neg h, if_neg h, fm_if p g l]
section
variable {G : Ctx} {T : Tab} {k f m i n : Nat} {a b c elt : E} {tg : Tg} {vs : List Nat} {x y d : PyData} {items ds es : List PyData} {ρ : Env} {K : KE} {t u : Bool} {z z2 : Str}
theorem pn_lcIf {n0 : Nat} (ha : Pn G a ρ d n0) (hd : d = .list items ∨ d = .tuple items) (few : items.length ≤ sizeLine) (p : PyData → Bool) (g : PyData → PyData) (ρ3 : PyData → Env) (clean : forgetS vs ρ = ρ) (ok : okForget vs ρ)
    (hb : ∀ x ∈ items, ∀ K : Env → Prop, K (ρ3 x) → bindT tg x ρ K) (hp : ∀ x ∈ items, Pv G c (ρ3 x) (.bool (p x))) (he : ∀ x ∈ items, p x = true → Pv G elt (ρ3 x) (g x)) (hf : ∀ x ∈ items, okForget vs (ρ3 x) ∧ forgetS vs (ρ3 x) = ρ) :
    Pn G (.lc 0 elt tg (.itv a) (.cons c .nil) vs) ρ (.list ((items.filter p).map g)) 1 := fun K q => by
  have go : ∀ d, (d = .list items ∨ d = .tuple items) → Pn G a ρ d n0 → wpE G (.lc 0 elt tg (.itv a) (.cons c .nil) vs) ρ K := fun d hd ha => by
    refine ha _ ?_
    have body : okForget vs ρ ∧ lcFold (fun x (acc : List PyData) ρ2 k2 => lkIs (.itv a) ρ ρ2 ∧ bindT tg x ρ2 fun ρ3 => wpC G (.cons c .nil) ρ3 fun b ρ4 => if b = true
        then wpE G elt ρ4 fun d n ρ5 => (okOwn 0 n d ∧ acc.length < sizeLine ∧ okForget vs ρ5) ∧ k2 (acc ++ [d]) (forgetS vs ρ5)
        else okForget vs ρ4 ∧ k2 acc (forgetS vs ρ4)) items [] (forgetS vs ρ) fun acc ρ6 => K (.list acc) 1 ρ6 := by
      refine ⟨ok, ?_⟩
      rw [clean]
      refine lc_pure (fun x => if p x = true then some (g x) else none) few (fun x hx acc K2 h1 h2 h3 => ?_) ?_
      · refine ⟨trivial, hb x hx _ (hp x hx _ ?_)⟩
        cases e : p x with
        | true => exact he x hx e (fun d n ρ5 => (okOwn 0 n d ∧ acc.length < sizeLine ∧ okForget vs ρ5) ∧ K2 (acc ++ [d]) (forgetS vs ρ5)) ⟨⟨.inr (.inl rfl), h1, (hf x hx).1⟩, by rw [(hf x hx).2]; exact h2 _ (by rw [if_pos e])⟩
        | false => exact ⟨(hf x hx).1, by rw [(hf x hx).2]; exact h3 (by rw [if_neg (by rw [e]; exact Bool.false_ne_true)])⟩
      · rw [fm_if]; exact q
    rcases hd with rfl | rfl <;> exact body
  exact go d hd ha
theorem pn_call1 (ha : Pv (ctx T k noX) a ρ x) (sg : sigOf T f = [0]) (h : ∀ Q : KF, Q y n [] → wpF T k f [x] Q noX) : Pn (ctx T k noX) (.call f (.cons a .nil)) ρ y n := fun K q => w_call1 ha sg (h _ q)
theorem pn_call2 (ha : Pv (ctx T k noX) a ρ x) (hb : Pv (ctx T k noX) b ρ d) (sg : sigOf T f = [0, 0]) (h : ∀ Q : KF, Q y n [] → wpF T k f [x, d] Q noX) : Pn (ctx T k noX) (.call f (.cons a (.cons b .nil))) ρ y n := fun K q => w_call2 ha hb sg (h _ q)
theorem pn_eq {n m : Nat} (ha : Pn G a ρ x n) (hb : Pn G b ρ y m) (ok : eqOk x y) : Pv G (.cmp .eq a b) ρ (.bool (PyData.eqv x y)) := fun K q => ha _ (hb _ ⟨ok, q⟩)
theorem pn_ne {n m : Nat} (ha : Pn G a ρ x n) (hb : Pn G b ρ y m) (ok : eqOk x y) : Pv G (.cmp .ne a b) ρ (.bool (!PyData.eqv x y)) := fun K q => ha _ (hb _ ⟨ok, q⟩)
theorem pn_nil : Pn G (.lst 0 .nil) ρ (.list []) 1 := fun K q => ⟨⟨Nat.zero_le _, fun p hp => by cases hp⟩, q⟩
theorem eqv_nil : PyData.eqv (.list ds) (.list []) = ds.isEmpty := by
  unfold PyData.eqv
  cases ds with
  | nil => rw [PyData.eqvAll]; rfl
  | cons x l => rw [PyData.eqvAll]; rfl
theorem w_retN {D : KS} {n : Nat} (hc : Pn G c ρ x n) (q : D.rt x n ρ) : wpS G (.ret c) ρ D := hc _ q
theorem w_asg {D : KS} {n : Nat} (hc : Pn G c ρ x n) (q : free i ρ ∧ D.nx (ρ.set i (val x n))) : wpS G (.asg i c) ρ D := hc _ q
theorem texts_like (l : List Str) : allLike (l.map .str) := by
  refine ⟨fun x hx y hy => ?_, .inr fun x hx => ?_, fun x hx => ?_⟩
  · obtain ⟨a, _, rfl⟩ := List.mem_map.mp hx
    obtain ⟨b, _, rfl⟩ := List.mem_map.mp hy
    rfl
  · obtain ⟨a, _, rfl⟩ := List.mem_map.mp hx
    exact ⟨nofun, nofun⟩
  · obtain ⟨a, _, rfl⟩ := List.mem_map.mp hx
    show 0 ≤ dLow; decide
theorem pn_sortS {l : List Str} (ha : Pn G a ρ (.list (l.map .str)) n) : Pn G (.fn .sorted (.cons a .nil)) ρ (.list (sortD (l.map .str))) 1 := fun K q => ha _ ⟨texts_like l, q⟩
theorem pn_lcEnm {n0 : Nat} (ha : Pn G a ρ d n0) (hd : d = .list ds ∨ d = .tuple ds) (hit : items = enumD 0 ds) (few : items.length ≤ sizeLine) (p : PyData → Bool) (g : PyData → PyData) (ρ3 : PyData → Env) (clean : forgetS vs ρ = ρ) (ok : okForget vs ρ)
    (hb : ∀ x ∈ items, ∀ K : Env → Prop, K (ρ3 x) → bindT tg x ρ K) (hp : ∀ x ∈ items, Pv G c (ρ3 x) (.bool (p x))) (he : ∀ x ∈ items, p x = true → Pv G elt (ρ3 x) (g x)) (hf : ∀ x ∈ items, okForget vs (ρ3 x) ∧ forgetS vs (ρ3 x) = ρ) :
    Pn G (.lc 0 elt tg (.enm a) (.cons c .nil) vs) ρ (.list ((items.filter p).map g)) 1 := fun K q => by
  have go : ∀ d, (d = .list ds ∨ d = .tuple ds) → Pn G a ρ d n0 → wpE G (.lc 0 elt tg (.enm a) (.cons c .nil) vs) ρ K := fun d hd ha => by
    refine ha _ ?_
    have body : okForget vs ρ ∧ lcFold (fun x (acc : List PyData) ρ2 k2 => lkIs (.enm a) ρ ρ2 ∧ bindT tg x ρ2 fun ρ3 => wpC G (.cons c .nil) ρ3 fun b ρ4 => if b = true
        then wpE G elt ρ4 fun d n ρ5 => (okOwn 0 n d ∧ acc.length < sizeLine ∧ okForget vs ρ5) ∧ k2 (acc ++ [d]) (forgetS vs ρ5)
        else okForget vs ρ4 ∧ k2 acc (forgetS vs ρ4)) items [] (forgetS vs ρ) fun acc ρ6 => K (.list acc) 1 ρ6 := by
      refine ⟨ok, ?_⟩
      rw [clean]
      refine lc_pure (fun x => if p x = true then some (g x) else none) few (fun x hx acc K2 h1 h2 h3 => ?_) ?_
      · refine ⟨trivial, hb x hx _ (hp x hx _ ?_)⟩
        cases e : p x with
        | true => exact he x hx e (fun d n ρ5 => (okOwn 0 n d ∧ acc.length < sizeLine ∧ okForget vs ρ5) ∧ K2 (acc ++ [d]) (forgetS vs ρ5)) ⟨⟨.inr (.inl rfl), h1, (hf x hx).1⟩, by rw [(hf x hx).2]; exact h2 _ (by rw [if_pos e])⟩
        | false => exact ⟨(hf x hx).1, by rw [(hf x hx).2]; exact h3 (by rw [if_neg (by rw [e]; exact Bool.false_ne_true)])⟩
      · rw [fm_if]; exact q
    rw [hit] at body
    rcases hd with rfl | rfl <;> exact body
  exact go d hd ha
theorem atI_last {α : Type} {l : List α} {x : α} : atI (l ++ [x]) (-1) = some x := by
  unfold atI ixN
  rw [if_neg (by omega), if_pos (by rw [List.length_append]; simp; omega)]
  show (l ++ [x])[(-1 + ((l ++ [x]).length : Int)).toNat]? = some x
  have : (-1 + ((l ++ [x]).length : Int)).toNat = l.length := by rw [List.length_append]; simp; omega
  rw [this]; simp
theorem pv_idxS {pr lk : Bool} {j : Int} (hs : ρ[i]? = some (some ⟨.list ds, n, pr, lk⟩)) (hb : Pv G b ρ (.int j)) (e : atI ds j = some d) (hn : n ≤ 1 ∨ isCont d = false) : Pv G (.idxS i b) ρ d := fun K q => ⟨_, hs, hb _ ⟨_, hs, d, e, hn, q⟩⟩
theorem pv_neg {j : Int} (ha : Pv G a ρ (.int j)) : Pv G (.neg a) ρ (.int (-j)) := fun K q => ha _ q
theorem pn_idxL {j : Int} (ha : Pn G a ρ (.list ds) n) (hb : Pv G b ρ (.int j)) (e : atI ds j = some d) : Pv G (.idx a b) ρ d := fun K q => ha _ (hb _ ⟨d, e, q⟩)
theorem w_iteE {t : Bool} (hc : Pv G c ρ (.bool t)) (h1 : t = true → wpE G a ρ K) (h2 : t = false → wpE G b ρ K) : wpE G (.ite c a b) ρ K := hc _ (by
  cases t with
  | true => exact h1 rfl
  | false => exact h2 rfl)
end
end PL
end
section
set_option Elab.async false
set_option linter.all false
set_option maxRecDepth 100000
set_option maxHeartbeats 400000
/-! PP6: take, some, mixed called with the bag lent. -/
namespace PL
open L2 PySem.Spec PySem
section
variable {T : Tab} {k t f i B n : Nat} {bag x y : PyData} {a : E} {ρ : Env} {K : KE} {pr : Bool} {m : Int} {ds : List PyData}
theorem Pn.arg {G : Ctx} {r : E} {kk : List Arg → Env → Prop} (ha : Pn G a ρ x n) (q : wpA G r ρ fun as ρ2 => kk (.val x n :: as) ρ2) : wpA G (.cons a r) ρ kk := by
  have h := ha (fun d n ρ1 => wpA G r ρ1 fun as ρ2 => kk (.val d n :: as) ρ2) q
  cases a <;> first | exact h | exact (show False from h).elim
/-- a def called with the bag lent and one value -/
theorem w_lend (hr : ρ[i]? = some (some ⟨bag, 2, pr, false⟩)) (sg : sigOf T f = [2, 0]) (ha : Pn (ctx T k noX) a ρ x n) (h : wpF T k f [bag, x] (fun d m os => ∃ bag', os = [bag'] ∧ K d m (ρ.set i (some ⟨bag', 2, pr, false⟩))) noX)
    (mono : ∀ Q Q' : KF, (∀ d m os, Q d m os → Q' d m os) → wpF T k f [bag, x] Q noX → wpF T k f [bag, x] Q' noX) : wpE (ctx T k noX) (.call f (.cons (.lend i) (.cons a .nil))) ρ K := by
  show wpA (ctx T k noX) (.cons (.lend i) (.cons a .nil)) ρ _
  refine ⟨_, hr, ha.arg ?_⟩
  refine ⟨[bag, x], ?_, ?_, ⟨Nat.le_refl 1, fun j _ => by simp [bors]⟩, ?_⟩
  · show (match ρ[i]? with | some (some s) => ([x] : List PyData) |> some |>.map (s.d :: ·) | _ => none) = _
    rw [hr]; rfl
  · show lendOk ρ [.lend i, .val x n] (sigOf T f) = true
    rw [sg]
    show (2 != 0 && (match ρ[i]? with | some (some s) => s.n == 2 && !s.lk | _ => false) && (0 == 0 && true)) = true
    rw [hr]; rfl
  · refine mono _ _ (fun d m os ⟨bag', e, q⟩ => ⟨.inl rfl, ?_⟩) h
    subst e
    show K d m (putD ρ i bag')
    unfold putD
    rw [hr]; exact q
/-- take -/
theorem w_take (hT : T.fns[t]? = some takeI) (hb : Bag B bag) (hB : B < 2 ^ 200) (hr : ρ[i]? = some (some ⟨bag, 2, pr, false⟩)) (ha : Pv (ctx T (k + 1) noX) a ρ (.int m)) (hm : 0 < m) (hm2 : m < 2 ^ 60)
    (h : ∀ v bag', 0 ≤ v → v < m → Bag (B + 1) bag' → K (.int v) 0 (ρ.set i (some ⟨bag', 2, pr, false⟩))) : wpE (ctx T (k + 1) noX) (.call t (.cons (.lend i) (.cons a .nil))) ρ K := by
  have l : m.natAbs.log2 < 9000 := by
    have := log_lt (i := m) (n := 60) (by omega) (by have : (2 ^ 60 : Int) = ((2 ^ 60 : Nat) : Int) := by decide
                                                     omega)
    omega
  show wpA (ctx T (k + 1) noX) (.cons (.lend i) (.cons a .nil)) ρ _
  refine ⟨_, hr, ha.pn.arg ?_⟩
  refine ⟨[bag, .int m], ?_, ?_, ⟨Nat.le_refl 1, fun j _ => by simp [bors]⟩, ?_⟩
  · show (match ρ[i]? with | some (some s) => (some [PyData.int m]).map (s.d :: ·) | _ => none) = _
    rw [hr]; rfl
  · show lendOk ρ [.lend i, .val (.int m) 0] (sigOf T t) = true
    rw [sig_of hT]
    show (2 != 0 && (match ρ[i]? with | some (some s) => s.n == 2 && !s.lk | _ => false) && (0 == 0 && true)) = true
    rw [hr]; rfl
  · refine take_ok hT hb hB hm l fun v bag' v0 v1 hb' => ⟨.inl rfl, ?_⟩
    show K (.int v) 0 (putD ρ i bag')
    unfold putD
    rw [hr]; exact h v bag' v0 v1 hb'
/-- some -/
theorem w_some (hT : T.fns[t]? = some takeI) (hf : T.fns[f]? = some (someI t)) (hb : Bag B bag) (hB : B < 2 ^ 200) (hr : ρ[i]? = some (some ⟨bag, 2, pr, false⟩)) (ha : Pn (ctx T (k + 2) noX) a ρ x n) (hd : x = .list ds ∨ x = .tuple ds) (ne : ds ≠ []) (few : ds.length ≤ sizeLine)
    (h : ∀ d bag', d ∈ ds → Bag (B + 1) bag' → K d 0 (ρ.set i (some ⟨bag', 2, pr, false⟩))) : wpE (ctx T (k + 2) noX) (.call f (.cons (.lend i) (.cons a .nil))) ρ K := by
  show wpA (ctx T (k + 2) noX) (.cons (.lend i) (.cons a .nil)) ρ _
  refine ⟨_, hr, ha.arg ?_⟩
  refine ⟨[bag, x], ?_, ?_, ⟨Nat.le_refl 1, fun j _ => by simp [bors]⟩, ?_⟩
  · show (match ρ[i]? with | some (some s) => (some [x]).map (s.d :: ·) | _ => none) = _
    rw [hr]; rfl
  · show lendOk ρ [.lend i, .val x n] (sigOf T f) = true
    rw [sig_of hf]
    show (2 != 0 && (match ρ[i]? with | some (some s) => s.n == 2 && !s.lk | _ => false) && (0 == 0 && true)) = true
    rw [hr]; rfl
  · refine some_ok hT hf hb hB hd ne few fun d bag' hd' hb' => ⟨.inl rfl, ?_⟩
    show K d 0 (putD ρ i bag')
    unfold putD
    rw [hr]; exact h d bag' hd' hb'
/-- mixed -/
theorem w_mixed (hT : T.fns[t]? = some takeI) (hf : T.fns[f]? = some (mixedI t)) (hb : Bag B bag) (hB : B + ds.length < 2 ^ 200) (hr : ρ[i]? = some (some ⟨bag, 2, pr, false⟩)) (ha : Pn (ctx T (k + 2) noX) a ρ x n) (hd : x = .list ds ∨ x = .tuple ds) (few : ds.length ≤ sizeLine)
    (h : ∀ out bag', out.Perm ds → Bag (B + ds.length) bag' → K (.list out) 1 (ρ.set i (some ⟨bag', 2, pr, false⟩))) : wpE (ctx T (k + 2) noX) (.call f (.cons (.lend i) (.cons a .nil))) ρ K := by
  show wpA (ctx T (k + 2) noX) (.cons (.lend i) (.cons a .nil)) ρ _
  refine ⟨_, hr, ha.arg ?_⟩
  refine ⟨[bag, x], ?_, ?_, ⟨Nat.le_refl 1, fun j _ => by simp [bors]⟩, ?_⟩
  · show (match ρ[i]? with | some (some s) => (some [x]).map (s.d :: ·) | _ => none) = _
    rw [hr]; rfl
  · show lendOk ρ [.lend i, .val x n] (sigOf T f) = true
    rw [sig_of hf]
    show (2 != 0 && (match ρ[i]? with | some (some s) => s.n == 2 && !s.lk | _ => false) && (0 == 0 && true)) = true
    rw [hr]; rfl
  · refine mixed_ok hT hf hb hB hd few fun out bag' hp hb' => ⟨.inl rfl, ?_⟩
    show K (.list out) 1 (putD ρ i bag')
    unfold putD
    rw [hr]; exact h out bag' hp hb'
end
end PL
end
section
set_option Elab.async false
set_option linter.all false
set_option maxRecDepth 100000
set_option maxHeartbeats 400000
/-! PP7: what may be compared and shown, by composition. -/
namespace PL
open L2 PySem.Spec PySem
/-- at most k deep, at most w heavy, each whole number below 10^12 -/
structure Sh (k w : Nat) (d : PyData) : Prop where
  plain : d.plain = true
  depth : d.depth ≤ k
  show_ : d.showable = true
  leaves : d.leavesShort 13 = true
  weight : d.weight ≤ w
theorem Sh.shows {k w : Nat} {d : PyData} (h : Sh k w d) (hk : k ≤ 60) (hw : w ≤ 2 ^ 20) : Shows d :=
  ⟨h.plain, by have := h.depth; show d.depth ≤ 60; omega, h.show_, PyData.shown_fits (B := 13) (by decide) (by decide) h.leaves (by have := h.weight; omega)⟩
theorem Sh.mono {k k' w w' : Nat} {d : PyData} (h : Sh k w d) (hk : k ≤ k') (hw : w ≤ w') : Sh k' w' d := ⟨h.plain, Nat.le_trans h.depth hk, h.show_, h.leaves, Nat.le_trans h.weight hw⟩
theorem sh_none {k w : Nat} : Sh k w .none := ⟨rfl, Nat.zero_le _, rfl, rfl, Nat.zero_le _⟩
theorem sh_bool {k w : Nat} {b : Bool} : Sh k w (.bool b) := ⟨rfl, Nat.zero_le _, rfl, rfl, Nat.zero_le _⟩
theorem sh_int {k : Nat} {i : Int} (h : i.natAbs < 10 ^ 12) : Sh k 41 (.int i) := by
  have l : i.natAbs.log2 ≤ 40 := by
    by_cases z : i.natAbs = 0
    · rw [z]; decide
    · have h40 : i.natAbs < 2 ^ 40 := Nat.lt_of_lt_of_le h (by decide)
      have := (Nat.log2_lt z).mpr h40
      omega
  refine ⟨rfl, Nat.zero_le _, decide_eq_true (by omega), decide_eq_true (PyData.shown_int_le h), ?_⟩
  show (if i == 0 then 0 else i.natAbs.log2 + 1) ≤ 41
  split <;> omega
theorem sh_str {k w : Nat} {x : Str} (h : x.cps.toList.all (fun c => decide (c < 16 ^ 8)) = true) (hw : x.cps.size ≤ w) : Sh k w (.str x) := ⟨rfl, Nat.zero_le _, rfl, h, hw⟩
section
variable {k w n : Nat}
theorem sh_all : ∀ {ds : List PyData}, (∀ x ∈ ds, Sh k w x) → PyData.plainAll ds = true ∧ PyData.depthAll ds ≤ k ∧ PyData.showableAll ds = true ∧ PyData.leavesShortAll 13 ds = true ∧ PyData.weightAll ds ≤ ds.length * (w + 1)
  | [], _ => ⟨rfl, Nat.zero_le _, rfl, rfl, Nat.zero_le _⟩
  | x :: ds, h => by
    have hx := h x List.mem_cons_self
    obtain ⟨a1, a2, a3, a4, a6⟩ := sh_all (ds := ds) fun y hy => h y (List.mem_cons_of_mem _ hy)
    refine ⟨?_, ?_, ?_, ?_, ?_⟩
    · rw [PyData.plainAll, hx.plain, a1]; rfl
    · rw [PyData.depthAll]; exact Nat.max_le.mpr ⟨hx.depth, a2⟩
    · rw [PyData.showableAll, hx.show_, a3]; rfl
    · rw [PyData.leavesShortAll, hx.leaves, a4]; rfl
    · rw [PyData.weightAll, List.length_cons, Nat.succ_mul]
      have := hx.weight
      omega
theorem sh_tuple {ds : List PyData} (h : ∀ x ∈ ds, Sh k w x) (hl : ds.length ≤ n) : Sh (k + 1) (n * (w + 1)) (.tuple ds) := by
  obtain ⟨a1, a2, a3, a4, a6⟩ := sh_all h
  refine ⟨?_, ?_, ?_, ?_, ?_⟩
  · rw [PyData.plain]; exact a1
  · rw [PyData.depth]; omega
  · rw [PyData.showable]; exact a3
  · rw [PyData.leavesShort]; exact a4
  · rw [PyData.weight]; exact Nat.le_trans a6 (Nat.mul_le_mul_right _ hl)
theorem sh_list {ds : List PyData} (h : ∀ x ∈ ds, Sh k w x) (hl : ds.length ≤ n) : Sh (k + 1) (n * (w + 1)) (.list ds) := by
  obtain ⟨a1, a2, a3, a4, a6⟩ := sh_all h
  refine ⟨?_, ?_, ?_, ?_, ?_⟩
  · rw [PyData.plain]; exact a1
  · rw [PyData.depth]; omega
  · rw [PyData.showable]; exact a3
  · rw [PyData.leavesShort]; exact a4
  · rw [PyData.weight]; exact Nat.le_trans a6 (Nat.mul_le_mul_right _ hl)
end
end PL
end
section
set_option Elab.async false
set_option linter.all false
set_option maxRecDepth 100000
set_option maxHeartbeats 400000
/-! PP8: rules to walk drawn defs: sequences, tuples, loops. -/
namespace PL
open L2 PySem.Spec PySem
section
variable {G : Ctx} {T : Tab} {k f i n : Nat} {a b e es r lo hi c : E} {s t : Sm} {tg : Tg} {x y d : PyData} {items ds : List PyData} {ρ : Env} {K : KE} {KL : List (PyData × Nat) → Env → Prop} {D : KS} {is : List Nat}
theorem w_seq (h : wpS G s ρ { D with nx := fun ρ1 => wpS G t ρ1 D }) : wpS G (.seq s t) ρ D := h
theorem w_par (h : wpL G es ρ fun ds ρ1 => (ds.length = is.length ∧ is.Nodup ∧ okForget is ρ1) ∧ D.nx (setAll is ds ρ1)) : wpS G (.par is es) ρ D := h
theorem w_nil (h : D.nx ρ) : wpS G .nil ρ D := h
theorem w_asgE (h : wpE G e ρ fun d n ρ1 => free i ρ1 ∧ D.nx (ρ1.set i (val d n))) : wpS G (.asg i e) ρ D := h
theorem w_retE (h : wpE G e ρ D.rt) : wpS G (.ret e) ρ D := h
theorem w_unp (h : wpE G e ρ fun d _ ρ1 => bindT tg d ρ1 D.nx) : wpS G (.unp tg e) ρ D := h
theorem w_frz {p l : Bool} (hs : ρ[i]? = some (some ⟨d, n, p, l⟩)) (hp : p = false) (h : D.nx (ρ.set i (val d 0))) : wpS G (.frz i) ρ D := ⟨_, hs, hp, h⟩
theorem wl_nil (h : KL [] ρ) : wpL G .nil ρ KL := h
theorem wl_cons (h : wpE G a ρ fun d n ρ1 => wpL G r ρ1 fun ds ρ2 => KL ((d, n) :: ds) ρ2) : wpL G (.cons a r) ρ KL := h
theorem w_tupE (h : wpL G es ρ fun ds ρ1 => ds.length ≤ sizeLine ∧ K (.tuple (ds.map (·.1))) 0 ρ1) : wpE G (.tup es) ρ K := h
theorem w_lstE (h : wpL G es ρ fun ds ρ1 => (ds.length ≤ sizeLine ∧ ∀ p ∈ ds, okOwn 0 p.2 p.1) ∧ K (.list (ds.map (·.1))) 1 ρ1) : wpE G (.lst 0 es) ρ K := h
theorem w_fnE {f : BF} (h : wpL G es ρ fun ds ρ1 => fnP f (ds.map (·.1)) fun d n => K d n ρ1) : wpE G (.fn f es) ρ K := h
theorem w_binE {op : BOp} (h : wpE G a ρ fun x _ ρ1 => wpE G b ρ1 fun y _ ρ2 => binP op x y fun d n => K d n ρ2) : wpE G (.bin op a b) ρ K := h
theorem w_cmpE {op : COp} (h : wpE G a ρ fun x _ ρ1 => wpE G b ρ1 fun y _ ρ2 => cmpP op x y fun b => K (.bool b) 0 ρ2) : wpE G (.cmp op a b) ρ K := h
theorem w_andE (h : wpE G a ρ fun x _ ρ1 => match x with | .bool true => wpE G b ρ1 K | .bool false => K (.bool false) 0 ρ1 | _ => False) : wpE G (.and a b) ρ K := h
theorem w_iteE2 (h : wpE G c ρ fun x _ ρ1 => match x with | .bool true => wpE G a ρ1 K | .bool false => wpE G b ρ1 K | _ => False) : wpE G (.ite c a b) ρ K := h
theorem w_idxE (h : wpE G a ρ fun x _ ρ1 => wpE G b ρ1 fun y _ ρ2 => idxP x y fun d => K d 0 ρ2) : wpE G (.idx a b) ρ K := h
theorem w_slcTo (h : wpE G a ρ fun x _ ρ1 => wpE G b ρ1 fun y _ ρ2 => match y with | .int i => slcP x none (some i) fun d n => K d n ρ2 | _ => False) : wpE G (.slc a .nil (.cons b .nil)) ρ K := h
theorem w_iteS {m1 m2 : Sm} (h : wpE G c ρ fun d _ ρ1 => match d with | .bool b => (if b = true then wpS G m1 ρ1 D else wpS G m2 ρ1 D) | _ => False) : wpS G (.ite c m1 m2) ρ D := h
theorem w_forL (ha : Pn G a ρ d n) (hd : d = .list items ∨ d = .tuple items) (I : Nat → Env → Prop) (h0 : I 0 ρ) (hs : ∀ i x ρ (K : Env → Prop), items[i]? = some x → I i ρ → (∀ ρ', I (i + 1) ρ' → K ρ') → bindT tg x ρ fun ρ3 => wpS G s ρ3 { nx := K, rt := D.rt, bk := D.nx, ct := K })
    (he : ∀ ρ, I items.length ρ → D.nx ρ) : wpS G (.for_ tg (.itv a) s) ρ D := by
  rw [wpS_for]
  refine ha _ ?_
  have go : forFold (fun x ρ2 k2 => lkIs (.itv a) ρ ρ2 ∧ bindT tg x ρ2 fun ρ3 => wpS G s ρ3 { nx := k2, rt := D.rt, bk := fun ρ4 => lkOut (.itv a) ρ ρ4 D.nx, ct := k2 }) items (lkIn (.itv a) ρ) fun ρ5 => lkOut (.itv a) ρ ρ5 D.nx :=
    forFold_inv I h0 (fun i x ρ K e h1 h2 => ⟨trivial, hs i x ρ K e h1 h2⟩) he
  rcases hd with rfl | rfl <;> exact go
theorem w_forR (h : wpE G a ρ fun d _ ρ1 => match d with
    | .int j => (-(2 ^ 62) ≤ j ∧ j < 2 ^ 62) ∧ forFold (fun x ρ2 k2 => lkIs (.rng a) ρ1 ρ2 ∧ bindT tg x ρ2 fun ρ3 => wpS G s ρ3 { nx := k2, rt := D.rt, bk := fun ρ4 => lkOut (.rng a) ρ1 ρ4 D.nx, ct := k2 }) (rangeD 0 j) ρ1 fun ρ5 => lkOut (.rng a) ρ1 ρ5 D.nx
    | _ => False) : wpS G (.for_ tg (.rng a) s) ρ D := h
theorem fold_rng {j : Int} {ρ1 : Env} (I : Nat → Env → Prop) (h0 : I 0 ρ1) (hs : ∀ (i : Nat) x ρ (K : Env → Prop), (i : Int) < j → x = .int i → I i ρ → (∀ ρ', I (i + 1) ρ' → K ρ') → bindT tg x ρ fun ρ3 => wpS G s ρ3 { nx := K, rt := D.rt, bk := D.nx, ct := K }) (he : ∀ ρ, I j.toNat ρ → D.nx ρ) :
    forFold (fun x ρ2 k2 => lkIs (.rng a) ρ1 ρ2 ∧ bindT tg x ρ2 fun ρ3 => wpS G s ρ3 { nx := k2, rt := D.rt, bk := fun ρ4 => lkOut (.rng a) ρ1 ρ4 D.nx, ct := k2 }) (rangeD 0 j) ρ1 fun ρ5 => lkOut (.rng a) ρ1 ρ5 D.nx := by
  have l : (rangeD 0 j).length = j.toNat := by unfold rangeD; simp
  refine forFold_inv I h0 (fun i x ρ K e h1 h2 => ⟨trivial, hs i x ρ K ?_ ?_ h1 h2⟩) fun ρ h => he ρ (by rwa [l] at h)
  · have := (List.getElem?_eq_some_iff.mp e).1
    rw [l] at this; omega
  · have hi := (List.getElem?_eq_some_iff.mp e).1
    unfold rangeD at e
    rw [List.getElem?_map, List.getElem?_range (by rw [l] at hi; omega)] at e
    have e : some (PyData.int (0 + (i : Int))) = some x := e
    cases e
    rw [Int.zero_add]
theorem bi_add {i j : Int} {kd : KD} (h : kd (.int (i + j)) 0) : binP .add (.int i) (.int j) kd := h
theorem bi_cat {ds es : List PyData} {kd : KD} (few : ds.length + es.length ≤ sizeLine) (h : kd (.list (ds ++ es)) 1) : binP .add (.list ds) (.list es) kd := ⟨few, h⟩
theorem fi_tup {ds : List PyData} {n : Nat} {kd : KD} (h : kd (.tuple ds) 0) : fnP .tuple ([(PyData.list ds, n)].map (·.1)) kd := h
theorem fi_intB {t : Bool} {n : Nat} {kd : KD} (h : kd (.int (if t = true then 1 else 0)) 0) : fnP .int ([(PyData.bool t, n)].map (·.1)) kd := h
theorem ci_gt {i j : Int} {kb : Bool → Prop} (h : kb (decide (j < i))) : cmpP .gt (.int i) (.int j) kb := h
theorem wa_bin {op : BOp} {kk : List Arg → Env → Prop} (h : wpE G (.bin op a b) ρ fun d n ρ1 => wpA G r ρ1 fun as ρ2 => kk (.val d n :: as) ρ2) : wpA G (.cons (.bin op a b) r) ρ kk := h
theorem w_forP {it : E} (hl : lockOf it = none) (hI : ∀ KI : List PyData → Env → Prop, KI items ρ → wpI G it ρ KI) (I : Nat → Env → Prop) (h0 : I 0 ρ) (hs : ∀ i x ρ (K : Env → Prop), items[i]? = some x → I i ρ → (∀ ρ', I (i + 1) ρ' → K ρ') → bindT tg x ρ fun ρ3 => wpS G s ρ3 { nx := K, rt := D.rt, bk := D.nx, ct := K })
    (he : ∀ ρ, I items.length ρ → D.nx ρ) : wpS G (.for_ tg it s) ρ D := by
  rw [wpS_for]
  have e1 : ∀ ρ, lkIn it ρ = ρ := fun ρ => by unfold lkIn; rw [hl]
  have e2 : ∀ (ρ ρ2 : Env) (k : Env → Prop), lkOut it ρ ρ2 k = k ρ2 := fun ρ ρ2 k => by unfold lkOut; rw [hl]
  have e3 : ∀ ρ ρ2 : Env, lkIs it ρ ρ2 := fun ρ ρ2 => by unfold lkIs; rw [hl]; trivial
  refine hI _ ?_
  simp only [e1, e2]
  exact forFold_inv I h0 (fun i x ρ K e h1 h2 => ⟨e3 _ _, hs i x ρ K e h1 h2⟩) he
theorem wi_zip {n m : Nat} {es : List PyData} (ha : Pn G a ρ (.list ds) n) (hb : Pn G b ρ (.list es) m) : ∀ KI : List PyData → Env → Prop, KI (zipD ds es) ρ → wpI G (.zp a b) ρ KI := fun KI q => ha _ (hb _ q)
/-- a comprehension that draws -/
theorem w_lcL {n0 : Nat} {vs : List Nat} {elt : E} (ha : Pn G a ρ d n0) (hd : d = .list items ∨ d = .tuple items) (clean : forgetS vs ρ = ρ) (ok : okForget vs ρ) (I : Nat → List PyData → Env → Prop) (h0 : I 0 [] ρ)
    (hs : ∀ (i : Nat) x acc ρ (KA : List PyData → Env → Prop), items[i]? = some x → I i acc ρ → (∀ acc' ρ', I (i + 1) acc' ρ' → KA acc' ρ') → bindT tg x ρ fun ρ3 => wpE G elt ρ3 fun d n ρ5 => (okOwn 0 n d ∧ acc.length < sizeLine ∧ okForget vs ρ5) ∧ KA (acc ++ [d]) (forgetS vs ρ5))
    (he : ∀ acc ρ, I items.length acc ρ → K (.list acc) 1 ρ) : wpE G (.lc 0 elt tg (.itv a) .nil vs) ρ K := by
  have go : ∀ d, (d = .list items ∨ d = .tuple items) → Pn G a ρ d n0 → wpE G (.lc 0 elt tg (.itv a) .nil vs) ρ K := fun d hd ha => by
    refine ha _ ?_
    have body : okForget vs ρ ∧ lcFold (fun x (acc : List PyData) ρ2 k2 => lkIs (.itv a) ρ ρ2 ∧ bindT tg x ρ2 fun ρ3 => wpC G .nil ρ3 fun b ρ4 => if b = true
        then wpE G elt ρ4 fun d n ρ5 => (okOwn 0 n d ∧ acc.length < sizeLine ∧ okForget vs ρ5) ∧ k2 (acc ++ [d]) (forgetS vs ρ5)
        else okForget vs ρ4 ∧ k2 acc (forgetS vs ρ4)) items [] (forgetS vs ρ) fun acc ρ6 => K (.list acc) 1 ρ6 := by
      refine ⟨ok, ?_⟩
      rw [clean]
      exact lcFold_inv I h0 (fun i x acc ρ KA e h1 h2 => ⟨trivial, hs i x acc ρ KA e h1 h2⟩) he
    rcases hd with rfl | rfl <;> exact body
  exact go d hd ha
def PvL (G : Ctx) (es : E) (ρ : Env) (ds : List PyData) : Prop := ∀ KL : List (PyData × Nat) → Env → Prop, KL (ds.map fun d => (d, 0)) ρ → wpL G es ρ KL
theorem pvl_nil : PvL G .nil ρ [] := fun KL q => q
theorem pvl_cons (ha : Pv G a ρ x) (hr : PvL G r ρ ds) : PvL G (.cons a r) ρ (x :: ds) := fun KL q => ha _ (hr (fun ds ρ2 => KL ((x, 0) :: ds) ρ2) q)
theorem pv_tupP (h : PvL G es ρ ds) (few : ds.length ≤ sizeLine) : Pv G (.tup es) ρ (.tuple ds) := fun K q => h _ ⟨by rw [List.length_map]; exact few, by rw [List.map_map]; show K (.tuple (ds.map id)) 0 ρ; rw [List.map_id]; exact q⟩
theorem pn_lstP (h : PvL G es ρ ds) (few : ds.length ≤ sizeLine) : Pn G (.lst 0 es) ρ (.list ds) 1 := fun K q => h _ ⟨⟨by rw [List.length_map]; exact few, fun p hp => by
  obtain ⟨d, _, rfl⟩ := List.mem_map.mp hp
  exact .inr (.inl rfl)⟩, by rw [List.map_map]; show K (.list (ds.map id)) 1 ρ; rw [List.map_id]; exact q⟩
theorem wl_consP (ha : Pn G a ρ d n) (h : wpL G r ρ fun ds ρ2 => KL ((d, n) :: ds) ρ2) : wpL G (.cons a r) ρ KL := ha _ h
/-- a slot free to be stored: empty or a value -/
def Fr1 (s : Option Slot) : Prop := s = none ∨ ∃ d, s = some ⟨d, 0, false, false⟩
theorem fr1_free {s : Option Slot} (h : Fr1 s) (e : ρ[i]? = some s) : free i ρ := by
  unfold free
  rw [e]
  rcases h with rfl | ⟨d, rfl⟩
  · trivial
  · rfl
def strsE : List String → E
  | [] => .nil
  | x :: l => .cons (.str x) (strsE l)
theorem wpL_strs : ∀ (l : List String) (KL : List (PyData × Nat) → Env → Prop), KL (l.map fun s : String => (PyData.str (s : Str), 0)) ρ → wpL G (strsE l) ρ KL
  | [], KL, h => h
  | x :: l, KL, h => wpL_strs l (fun ds ρ2 => KL ((.str x, 0) :: ds) ρ2) h
theorem pn_strs {l : List String} (few : l.length ≤ sizeLine) : Pn G (.lst 0 (strsE l)) ρ (.list (l.map fun s : String => PyData.str (s : Str))) 1 := fun K q => by
  refine wpL_strs l _ ⟨⟨by rw [List.length_map]; exact few, fun p hp => ?_⟩, ?_⟩
  · obtain ⟨s, _, rfl⟩ := List.mem_map.mp hp
    exact .inr (.inl rfl)
  · rw [List.map_map]; exact q
theorem cutTo {ds : List PyData} {m : Int} (h : 0 ≤ m) : cutD ds none (some m) = ds.take m.toNat := by
  unfold cutD
  rw [HT.sIx_none, List.drop_zero, Nat.sub_zero]
  show ds.take (if m < 0 then (m + (ds.length : Int)).toNat else min m.toNat ds.length) = _
  rw [if_neg (by omega)]
  by_cases z : m.toNat ≤ ds.length
  · rw [Nat.min_eq_left z]
  · rw [Nat.min_eq_right (by omega), List.take_length, List.take_of_length_le (by omega)]
theorem perm_of_map {α : Type} {f : α → PyData} {g : PyData → α} (hg : ∀ a, g (f a) = a) {out : List PyData} {l : List α} (p : out.Perm (l.map f)) : ∃ l' : List α, out = l'.map f ∧ l'.Perm l := by
  refine ⟨out.map g, ?_, ?_⟩
  · rw [List.map_map]
    conv => lhs; rw [← List.map_id out]
    refine List.map_congr_left fun x hx => ?_
    obtain ⟨a, _, rfl⟩ := List.mem_map.mp (p.mem_iff.mp hx)
    show f a = f (g (f a))
    rw [hg]
  · have := p.map g
    rw [List.map_map] at this
    have e : l.map (g ∘ f) = l := by
      conv => rhs; rw [← List.map_id l]
      exact List.map_congr_left fun a _ => hg a
    rwa [e] at this
end
/-- a call of a def with the bag lent and one value -/
theorem w_lend1 {T : Tab} {k f n : Nat} {bag x : PyData} {a : E} {ρ : Env} {K : KE} {pr : Bool} {i : Nat} (sg : sigOf T f = [2, 0]) (hr : ρ[i]? = some (some ⟨bag, 2, pr, false⟩)) (ha : Pn (ctx T k noX) a ρ x n)
    (h : ∀ Q : KF, (∀ d m bag', K d m (ρ.set i (some ⟨bag', 2, pr, false⟩)) → Q d m [bag']) → wpF T k f [bag, x] Q noX) : wpE (ctx T k noX) (.call f (.cons (.lend i) (.cons a .nil))) ρ K := by
  show wpA (ctx T k noX) (.cons (.lend i) (.cons a .nil)) ρ _
  refine ⟨_, hr, ha.arg ?_⟩
  refine ⟨[bag, x], ?_, ?_, ⟨Nat.le_refl 1, fun j _ => by simp [bors]⟩, ?_⟩
  · show (match ρ[i]? with | some (some s) => (some [x]).map (s.d :: ·) | _ => none) = _
    rw [hr]; rfl
  · show lendOk ρ [.lend i, .val x n] (sigOf T f) = true
    rw [sg]
    show (2 != 0 && (match ρ[i]? with | some (some s) => s.n == 2 && !s.lk | _ => false) && (0 == 0 && true)) = true
    rw [hr]; rfl
  · refine h _ fun d m bag' q => ⟨.inl rfl, ?_⟩
    show K d m (putD ρ i bag')
    unfold putD
    rw [hr]; exact q
/-- with the bag lent and two values -/
theorem w_lend2 {T : Tab} {k f n n2 : Nat} {bag x y : PyData} {a b : E} {ρ : Env} {K : KE} {pr : Bool} {i : Nat} (sg : sigOf T f = [2, 0, 0]) (hr : ρ[i]? = some (some ⟨bag, 2, pr, false⟩)) (ha : Pn (ctx T k noX) a ρ x n) (hb : Pn (ctx T k noX) b ρ y n2)
    (h : ∀ Q : KF, (∀ d m bag', K d m (ρ.set i (some ⟨bag', 2, pr, false⟩)) → Q d m [bag']) → wpF T k f [bag, x, y] Q noX) : wpE (ctx T k noX) (.call f (.cons (.lend i) (.cons a (.cons b .nil)))) ρ K := by
  show wpA (ctx T k noX) (.cons (.lend i) (.cons a (.cons b .nil))) ρ _
  refine ⟨_, hr, ha.arg (hb.arg ?_)⟩
  refine ⟨[bag, x, y], ?_, ?_, ⟨Nat.le_refl 1, fun j _ => by simp [bors]⟩, ?_⟩
  · show (match ρ[i]? with | some (some s) => (some [x, y]).map (s.d :: ·) | _ => none) = _
    rw [hr]; rfl
  · show lendOk ρ [.lend i, .val x n, .val y n2] (sigOf T f) = true
    rw [sg]
    show (2 != 0 && (match ρ[i]? with | some (some s) => s.n == 2 && !s.lk | _ => false) && (0 == 0 && (0 == 0 && true))) = true
    rw [hr]; rfl
  · refine h _ fun d m bag' q => ⟨.inl rfl, ?_⟩
    show K d m (putD ρ i bag')
    unfold putD
    rw [hr]; exact q
theorem bag_flat {B : Nat} {bag : PyData} (h : Bag B bag) : flatN 2 bag = true := by
  obtain ⟨a, s, i, cells, rfl, _⟩ := h
  have : cells.all (fun c => noCont (.int c)) = true := List.all_eq_true.mpr fun _ _ => rfl
  simp only [flatN, List.all_cons, List.all_nil, noCont, Bool.and_true, Bool.true_and, List.all_map]
  exact this
/-- some of a borrowed list -/
theorem w_someB {T : Tab} {k t f B : Nat} {bag : PyData} {ρ : Env} {K : KE} {pr p2 l2 : Bool} {i j n2 : Nat} {ds : List PyData} (hT : T.fns[t]? = some takeI) (hf : T.fns[f]? = some (someI t)) (hb : Bag B bag) (hB : B < 2 ^ 200) (hr : ρ[i]? = some (some ⟨bag, 2, pr, false⟩)) (hj : ρ[j]? = some (some ⟨.list ds, n2, p2, l2⟩)) (hij : i ≠ j)
    (ne : ds ≠ []) (few : ds.length ≤ sizeLine) (nc : ds.all noCont = true) (h : ∀ d bag', d ∈ ds → Bag (B + 1) bag' → K d 0 (ρ.set i (some ⟨bag', 2, pr, false⟩))) : wpE (ctx T (k + 2) noX) (.call f (.cons (.lend i) (.cons (.bor j) .nil))) ρ K := by
  show wpA (ctx T (k + 2) noX) (.cons (.lend i) (.cons (.bor j) .nil)) ρ _
  refine ⟨_, hr, _, hj, ?_⟩
  refine ⟨[bag, .list ds], ?_, ?_, ⟨Nat.le_refl 1, fun q hq => ?_⟩, ?_⟩
  · show (match ρ[i]? with | some (some s) => (match ρ[j]? with | some (some s) => (some []).map (s.d :: ·) | _ => none).map (s.d :: ·) | _ => none) = _
    rw [hr, hj]; rfl
  · show lendOk ρ [.lend i, .bor j] (sigOf T f) = true
    rw [sig_of hf]
    show (2 != 0 && (match ρ[i]? with | some (some s) => s.n == 2 && !s.lk | _ => false) && (0 == 0 && true)) = true
    rw [hr]; rfl
  · have : q = i := by simpa [lents] using hq
    simp [bors, this, hij]
  · refine some_ok hT hf hb hB (.inl rfl) ne few fun d bag' hd hb' => ⟨.inr ⟨?_, ?_⟩, ?_⟩
    · exact List.all_eq_true.mp nc d hd
    · show outsFlat (sigOf T f) [bag'] = true
      rw [sig_of hf]
      show (flatN 2 bag' && outsFlat [0] []) = true
      rw [bag_flat hb']; rfl
    · show K d 0 (putD ρ i bag')
      unfold putD
      rw [hr]; exact h d bag' hd hb'
/-- a borrowed list mixed -/
theorem w_mixedB {T : Tab} {k t f B : Nat} {bag : PyData} {ρ : Env} {K : KE} {pr p2 l2 : Bool} {i j n2 : Nat} {ds : List PyData} (hT : T.fns[t]? = some takeI) (hf : T.fns[f]? = some (mixedI t)) (hb : Bag B bag) (hB : B + ds.length < 2 ^ 200) (hr : ρ[i]? = some (some ⟨bag, 2, pr, false⟩)) (hj : ρ[j]? = some (some ⟨.list ds, n2, p2, l2⟩)) (hij : i ≠ j)
    (few : ds.length ≤ sizeLine) (nc : ds.all noCont = true) (h : ∀ out bag', out.Perm ds → Bag (B + ds.length) bag' → K (.list out) 1 (ρ.set i (some ⟨bag', 2, pr, false⟩))) : wpE (ctx T (k + 2) noX) (.call f (.cons (.lend i) (.cons (.bor j) .nil))) ρ K := by
  show wpA (ctx T (k + 2) noX) (.cons (.lend i) (.cons (.bor j) .nil)) ρ _
  refine ⟨_, hr, _, hj, ?_⟩
  refine ⟨[bag, .list ds], ?_, ?_, ⟨Nat.le_refl 1, fun q hq => ?_⟩, ?_⟩
  · show (match ρ[i]? with | some (some s) => (match ρ[j]? with | some (some s) => (some []).map (s.d :: ·) | _ => none).map (s.d :: ·) | _ => none) = _
    rw [hr, hj]; rfl
  · show lendOk ρ [.lend i, .bor j] (sigOf T f) = true
    rw [sig_of hf]
    show (2 != 0 && (match ρ[i]? with | some (some s) => s.n == 2 && !s.lk | _ => false) && (0 == 0 && true)) = true
    rw [hr]; rfl
  · have : q = i := by simpa [lents] using hq
    simp [bors, this, hij]
  · refine mixed_ok hT hf hb hB (.inl rfl) few fun out bag' hp hb' => ⟨.inr ⟨?_, ?_⟩, ?_⟩
    · show out.all noCont = true
      exact List.all_eq_true.mpr fun x hx => List.all_eq_true.mp nc x (hp.mem_iff.mp hx)
    · show outsFlat (sigOf T f) [bag'] = true
      rw [sig_of hf]
      show (flatN 2 bag' && outsFlat [0] []) = true
      rw [bag_flat hb']; rfl
    · show K (.list out) 1 (putD ρ i bag')
      unfold putD
      rw [hr]; exact h out bag' hp hb'
end PL
end
section
set_option Elab.async false
set_option linter.all false
set_option maxRecDepth 100000
set_option maxHeartbeats 400000
/-! PP9: more rules: slices of tuples, comprehensions that forget, alike. -/
namespace PL
open L2 PySem.Spec PySem
theorem ifF {A B : Prop} (h : B) : if false = true then A else B := by rw [if_neg Bool.false_ne_true]; exact h
theorem eqv_nilT {ds : List PyData} : PyData.eqv (.tuple ds) (.tuple []) = ds.isEmpty := by
  unfold PyData.eqv
  cases ds with
  | nil => rw [PyData.eqvAll]; rfl
  | cons x l => rw [PyData.eqvAll]; rfl
theorem cutFrom {ds : List PyData} {m : Int} (h : 0 ≤ m) : cutD ds (some m) none = ds.drop m.toNat := by
  unfold cutD
  rw [HT.sIx_none]
  have e : HT.sIx ds.length 0 (some m) = min m.toNat ds.length := by
    show (if m < 0 then (m + (ds.length : Int)).toNat else min m.toNat ds.length) = _
    rw [if_neg (by omega)]
  rw [e]
  by_cases z : m.toNat ≤ ds.length
  · rw [Nat.min_eq_left z, List.take_of_length_le (by rw [List.length_drop]; omega)]
  · rw [Nat.min_eq_right (by omega), List.drop_length, List.take_nil, List.drop_eq_nil_of_le (by omega)]
theorem cut_at {α : Type} : ∀ {l : List α} {i : Nat} {x : α}, l[i]? = some x → l = l.take i ++ x :: l.drop (i + 1)
  | [], _, _, h => by simp at h
  | a :: l, 0, x, h => by simp at h; subst h; rfl
  | a :: l, i + 1, x, h => by
    have := cut_at (l := l) (i := i) (by simpa using h)
    show a :: l = a :: (l.take i ++ x :: l.drop (i + 1))
    rw [← this]
theorem strs_map : ∀ l : List Str, strsOf (l.map .str) = some l
  | [] => rfl
  | x :: l => by rw [List.map_cons, strsOf, strs_map l]; rfl
section
variable {G : Ctx} {T : Tab} {k f i n m : Nat} {a b e es r c elt : E} {tg : Tg} {x y d : PyData} {items ds : List PyData} {ρ : Env} {K : KE} {vs : List Nat} {v w : Int}
theorem wa_lst {mm : Nat} {kk : List Arg → Env → Prop} (h : wpE G (.lst mm es) ρ fun d n ρ1 => wpA G r ρ1 fun as ρ2 => kk (.val d n :: as) ρ2) : wpA G (.cons (.lst mm es) r) ρ kk := h
theorem pv_addI (ha : Pv G a ρ (.int v)) (hb : Pv G b ρ (.int w)) : Pv G (.bin .add a b) ρ (.int (v + w)) := fun K q => ha _ (hb _ q)
theorem pv_cutTo (ha : Pv G a ρ (.tuple ds)) (hb : Pv G b ρ (.int v)) (h0 : 0 ≤ v) : Pv G (.slc a .nil (.cons b .nil)) ρ (.tuple (ds.take v.toNat)) := fun K q => ha _ (hb _ (by
  rw [← cutTo h0] at q
  exact q))
theorem pv_cutFrom (ha : Pv G a ρ (.tuple ds)) (hb : Pv G b ρ (.int v)) (h0 : 0 ≤ v) : Pv G (.slc a (.cons b .nil) .nil) ρ (.tuple (ds.drop v.toNat)) := fun K q => ha _ (hb _ (by
  rw [← cutFrom h0] at q
  exact q))
theorem pv_lset {l : List Str} (ha : Pn G a ρ (.list (l.map .str)) n) (few : l.length ≤ 4000) : Pv G (.lset a) ρ (.int (nubS l).length) := fun K q => ha _ ⟨l, strs_map l, few, q⟩
theorem pv_lenL (ha : Pn G a ρ (.list ds) n) : Pv G (.fn .len (.cons a .nil)) ρ (.int ds.length) := pv_fn1 ha fun kd q => q
theorem pn_ite {t : Bool} (hc : Pv G c ρ (.bool t)) (h1 : t = true → Pn G a ρ x n) (h2 : t = false → Pn G b ρ x n) : Pn G (.ite c a b) ρ x n := fun K q => hc _ (by
  cases t with
  | true => exact h1 rfl _ q
  | false => exact h2 rfl _ q)
theorem pv_alike {g : Nat} (hg : T.fns[g]? = some alikeI) (ha : Pn (ctx T (k + 1) noX) a ρ x n) (hb : Pn (ctx T (k + 1) noX) b ρ x m) (S : Shows x) : Pv (ctx T (k + 1) noX) (.call g (.cons a (.cons b .nil))) ρ (.bool true) := fun K q => by
  show wpA (ctx T (k + 1) noX) (.cons a (.cons b .nil)) ρ _
  exact ha.arg (hb.arg (call2 (sig_of hg) (alike_ok hg S q)))
/-- a comprehension of a pure walk whose names held something before -/
theorem w_lcMapF {n0 : Nat} (ha : Pn G a ρ d n0) (hd : d = .list items ∨ d = .tuple items) (few : items.length ≤ sizeLine) (g : PyData → PyData) (ρ3 : PyData → Env) (ok : okForget vs ρ)
    (hb : ∀ x ∈ items, ∀ K : Env → Prop, K (ρ3 x) → bindT tg x (forgetS vs ρ) K) (he : ∀ x ∈ items, Pv G elt (ρ3 x) (g x)) (hf : ∀ x ∈ items, okForget vs (ρ3 x) ∧ forgetS vs (ρ3 x) = forgetS vs ρ) (q : K (.list (items.map g)) 1 (forgetS vs ρ)) : wpE G (.lc 0 elt tg (.itv a) .nil vs) ρ K := by
  have go : ∀ d, (d = .list items ∨ d = .tuple items) → Pn G a ρ d n0 → wpE G (.lc 0 elt tg (.itv a) .nil vs) ρ K := fun d hd ha => by
    refine ha _ ?_
    have body : okForget vs ρ ∧ lcFold (fun x (acc : List PyData) ρ2 k2 => lkIs (.itv a) ρ ρ2 ∧ bindT tg x ρ2 fun ρ3 => wpC G .nil ρ3 fun b ρ4 => if b = true
        then wpE G elt ρ4 fun d n ρ5 => (okOwn 0 n d ∧ acc.length < sizeLine ∧ okForget vs ρ5) ∧ k2 (acc ++ [d]) (forgetS vs ρ5)
        else okForget vs ρ4 ∧ k2 acc (forgetS vs ρ4)) items [] (forgetS vs ρ) fun acc ρ6 => K (.list acc) 1 ρ6 := by
      refine ⟨ok, ?_⟩
      refine lc_map g few (fun x hx acc K2 h1 h2 => ?_) q
      refine ⟨trivial, hb x hx _ ?_⟩
      exact he x hx (fun d n ρ5 => (okOwn 0 n d ∧ acc.length < sizeLine ∧ okForget vs ρ5) ∧ K2 (acc ++ [d]) (forgetS vs ρ5)) ⟨⟨.inr (.inl rfl), h1, (hf x hx).1⟩, by rw [(hf x hx).2]; exact h2⟩
    rcases hd with rfl | rfl <;> exact body
  exact go d hd ha
end
end PL
end
section
set_option Elab.async false
set_option linter.all false
set_option maxRecDepth 100000
set_option maxHeartbeats 400000
/-! PP10: comprehensions over any walk; more pure values. -/
namespace PL
open L2 PySem.Spec PySem
def sl (d : PyData) : Option PL.Slot := some ⟨d, 0, false, false⟩
theorem vs1 {ρ : PL.Env} {v : Nat} (e : free v ρ) : okForget [v] ρ := fun i hi => by cases List.mem_singleton.mp hi; exact e
theorem cut1 (ds : List PyData) : cutD ds (some 1) none = ds.drop 1 := by
  unfold cutD HT.sIx
  cases ds with
  | nil => rfl
  | cons x l => simp
theorem pv_tail {G : PL.Ctx} {a : PL.E} {ρ : PL.Env} {ds : List PyData} (ha : Pv G a ρ (.tuple ds)) : Pv G (.slc a (.cons (.int 1) .nil) .nil) ρ (.tuple (ds.drop 1)) := fun K q => ha _ (by rw [← cut1] at q; exact q)
theorem pn_tail {G : PL.Ctx} {a : PL.E} {ρ : PL.Env} {ds : List PyData} {n : Nat} (ha : Pn G a ρ (.list ds) n) : Pn G (.slc a (.cons (.int 1) .nil) .nil) ρ (.list (ds.drop 1)) 1 := fun K q => ha _ (by rw [← cut1] at q; exact q)
section
variable {G : Ctx} {T : Tab} {k f i n m : Nat} {a b c elt it ifs : E} {tg : Tg} {vs : List Nat} {x y d : PyData} {items ds es : List PyData} {ρ ρ0 : Env} {K : KE} {t u : Bool} {v w : Int} {z : Str}
theorem w_lcG (hl : lockOf it = none) (hI : ∀ KI : List PyData → Env → Prop, KI items ρ → wpI G it ρ KI) (few : items.length ≤ sizeLine) (p : PyData → Bool) (g : PyData → PyData) (ρ3 : PyData → Env) (e0 : forgetS vs ρ = ρ0) (ok : okForget vs ρ)
    (hb : ∀ x ∈ items, ∀ K : Env → Prop, K (ρ3 x) → bindT tg x ρ0 K) (hc : ∀ x ∈ items, ∀ K : Bool → Env → Prop, K (p x) (ρ3 x) → wpC G ifs (ρ3 x) K) (he : ∀ x ∈ items, p x = true → Pv G elt (ρ3 x) (g x)) (hf : ∀ x ∈ items, okForget vs (ρ3 x) ∧ forgetS vs (ρ3 x) = ρ0)
    (q : K (.list ((items.filter p).map g)) 1 ρ0) : wpE G (.lc 0 elt tg it ifs vs) ρ K := by
  refine hI _ ?_
  have e1 : lkIn it ρ = ρ := by unfold lkIn; rw [hl]
  have e2 : ∀ (ρ2 : Env) (k : Env → Prop), lkOut it ρ ρ2 k = k ρ2 := fun ρ2 k => by unfold lkOut; rw [hl]
  have e3 : ∀ ρ2 : Env, lkIs it ρ ρ2 := fun ρ2 => by unfold lkIs; rw [hl]; trivial
  rw [e1]
  simp only [e2]
  refine ⟨ok, ?_⟩
  rw [e0]
  refine lc_pure (fun x => if p x = true then some (g x) else none) few (fun x hx acc K2 h1 h2 h3 => ?_) ?_
  · refine ⟨e3 _, hb x hx _ (hc x hx _ ?_)⟩
    cases e : p x with
    | true => exact he x hx e (fun d n ρ5 => (okOwn 0 n d ∧ acc.length < sizeLine ∧ okForget vs ρ5) ∧ K2 (acc ++ [d]) (forgetS vs ρ5)) ⟨⟨.inr (.inl rfl), h1, (hf x hx).1⟩, by rw [(hf x hx).2]; exact h2 _ (by rw [if_pos e])⟩
    | false => exact ⟨(hf x hx).1, by rw [(hf x hx).2]; exact h3 (by rw [if_neg (by rw [e]; exact Bool.false_ne_true)])⟩
  · rw [fm_if]; exact q
theorem wc_nil {ρ3 : Env} : ∀ K : Bool → Env → Prop, K true ρ3 → wpC G .nil ρ3 K := fun K q => q
theorem wc_one {ρ3 : Env} {t : Bool} (hc : Pv G c ρ3 (.bool t)) : ∀ K : Bool → Env → Prop, K t ρ3 → wpC G (.cons c .nil) ρ3 K := fun K q => hc _ q
/-- without a test -/
theorem w_lcA (hl : lockOf it = none) (hI : ∀ KI : List PyData → Env → Prop, KI items ρ → wpI G it ρ KI) (few : items.length ≤ sizeLine) (g : PyData → PyData) (ρ3 : PyData → Env) (e0 : forgetS vs ρ = ρ0) (ok : okForget vs ρ)
    (hb : ∀ x ∈ items, ∀ K : Env → Prop, K (ρ3 x) → bindT tg x ρ0 K) (he : ∀ x ∈ items, Pv G elt (ρ3 x) (g x)) (hf : ∀ x ∈ items, okForget vs (ρ3 x) ∧ forgetS vs (ρ3 x) = ρ0)
    (q : K (.list (items.map g)) 1 ρ0) : wpE G (.lc 0 elt tg it .nil vs) ρ K :=
  w_lcG hl hI few (fun _ => true) g ρ3 e0 ok hb (fun x hx => wc_nil) (fun x hx _ => he x hx) hf (by rw [List.filter_eq_self.mpr (fun _ _ => rfl)]; exact q)
theorem wi_l (ha : Pn G a ρ (.list ds) n) : ∀ KI : List PyData → Env → Prop, KI ds ρ → wpI G (.itv a) ρ KI := fun KI q => ha _ q
theorem wi_t (ha : Pn G a ρ (.tuple ds) n) : ∀ KI : List PyData → Env → Prop, KI ds ρ → wpI G (.itv a) ρ KI := fun KI q => ha _ q
theorem wi_zipT (ha : Pn G a ρ (.tuple ds) n) (hb : Pn G b ρ (.tuple es) m) : ∀ KI : List PyData → Env → Prop, KI (zipD ds es) ρ → wpI G (.zp a b) ρ KI := fun KI q => ha _ (hb _ q)
theorem wi_enmT (ha : Pn G a ρ (.tuple ds) n) : ∀ KI : List PyData → Env → Prop, KI (enumD 0 ds) ρ → wpI G (.enm a) ρ KI := fun KI q => ha _ q
theorem pv_isT {ty : TyN} (ha : Pn G a ρ x n) : Pv G (.isT [ty] a) ρ (.bool (isTy ty x)) := fun K q => ha _ (by simpa using q)
theorem pv_subI (ha : Pv G a ρ (.int v)) (hb : Pv G b ρ (.int w)) : Pv G (.bin .sub a b) ρ (.int (v - w)) := fun K q => ha _ (hb _ q)
theorem pv_mulI (ha : Pv G a ρ (.int v)) (hb : Pv G b ρ (.int w)) (ok : CMulW v w) : Pv G (.bin .mul a b) ρ (.int (v * w)) := fun K q => ha _ (hb _ ⟨ok, q⟩)
theorem pv_min2 (ha : Pv G a ρ (.int v)) (hb : Pv G b ρ (.int w)) : Pv G (.fn .min (.cons a (.cons b .nil))) ρ (.int (if w < v then w else v)) := fun K q => ha _ (hb _ q)
theorem pv_max2 (ha : Pv G a ρ (.int v)) (hb : Pv G b ρ (.int w)) : Pv G (.fn .max (.cons a (.cons b .nil))) ρ (.int (if w > v then w else v)) := fun K q => ha _ (hb _ q)
theorem pv_sumT {l : List Int} (ha : Pn G a ρ (.tuple (l.map .int)) n) : Pv G (.fn .sum (.cons a .nil)) ρ (.int l.sum) := pv_fn1 ha fun kd q => ⟨l, ints_map l, q⟩
theorem pv_mulT (ha : Pv G a ρ (.tuple ds)) (hb : Pv G b ρ (.int v)) (h1 : -(2 ^ 63) ≤ v) (h2 : v ≤ 1000) (h3 : ds.length ≤ 1000) : Pv G (.bin .mul a b) ρ (.tuple (List.replicate v.toNat ds).flatten) := fun K q => ha _ (hb _ ⟨⟨h1, h2, h3⟩, q⟩)
theorem pv_iteE (hc : Pv G c ρ (.bool t)) (h1 : t = true → Pv G a ρ x) (h2 : t = false → Pv G b ρ x) : Pv G (.ite c a b) ρ x := fun K q => hc _ (by
  cases t with
  | true => exact h1 rfl _ q
  | false => exact h2 rfl _ q)
theorem w_ext {ds es : List PyData} {e : E} {D : KS} {pr : Bool} (hs : ρ[i]? = some (some ⟨.list ds, 1, pr, false⟩)) (few : ds.length + es.length ≤ sizeLine) (he : Pn G e ρ (.list es) n) (q : D.nx (ρ.set i (some ⟨.list (ds ++ es), 1, pr, false⟩))) : wpS G (.extend i e) ρ D :=
  ⟨⟨_, hs, ds, rfl⟩, he _ ⟨_, hs, rfl, ⟨rfl, few⟩, q⟩⟩
theorem w_extE {ds : List PyData} {e : E} {D : KS} {pr : Bool} (hs : ρ[i]? = some (some ⟨.list ds, 1, pr, false⟩)) (he : wpE G e ρ fun d _ ρ1 => match d with | .list es => ρ1[i]? = some (some ⟨.list ds, 1, pr, false⟩) ∧ ds.length + es.length ≤ sizeLine ∧ D.nx (ρ1.set i (some ⟨.list (ds ++ es), 1, pr, false⟩)) | _ => False)
    (mono : ∀ K K' : KE, (∀ d n ρ, K d n ρ → K' d n ρ) → wpE G e ρ K → wpE G e ρ K') : wpS G (.extend i e) ρ D :=
  ⟨⟨_, hs, ds, rfl⟩, mono _ _ (fun d n ρ1 h => by
    cases d <;> try exact h.elim
    obtain ⟨h1, h2, h3⟩ := h
    exact ⟨_, h1, rfl, ⟨rfl, h2⟩, h3⟩) he⟩
theorem pn_add2 (ha : Pn G a ρ (.list ds) n) (hb : Pn G b ρ (.list es) m) (few : ds.length + es.length ≤ sizeLine) : Pn G (.bin .add a b) ρ (.list (ds ++ es)) 1 := fun K q => ha _ (hb _ ⟨few, q⟩)
theorem pv_tupS {pr lk : Bool} (hs : ρ[i]? = some (some ⟨.list ds, n, pr, lk⟩)) (nc : noConts ds = true) : Pv G (.fnS .tuple i) ρ (.tuple ds) := fun K q => ⟨_, hs, (show noConts ds = true ∧ _ from ⟨nc, q⟩)⟩
theorem w_app {ds : List PyData} {e : E} {D : KS} {pr : Bool} (hs : ρ[i]? = some (some ⟨.list ds, 1, pr, false⟩)) (few : ds.length < sizeLine) (he : Pn G e ρ d n) (q : D.nx (ρ.set i (some ⟨.list (ds ++ [d]), 1, pr, false⟩))) : wpS G (.append i e) ρ D :=
  ⟨⟨_, hs, ds, rfl⟩, he _ ⟨_, hs, rfl, ⟨Nat.zero_lt_one, .inr (.inl rfl), few⟩, q⟩⟩
end
end PL
end
section
set_option Elab.async false
set_option linter.all false
set_option maxRecDepth 100000
/-! PG0: the defs that many laws share, as terms (printed by lib.py). -/
namespace PL
def ii_B : Sm := .seq (.ret (.and (.isT [.int] (.slot 0)) (.not (.isT [.bool] (.slot 0))))) (.nil)
def ii_I : FnI := ⟨"_law_is_int", 1, 1, [0], ii_B⟩
def na_B : Sm := .seq (.ret (.lc 0 (.idx (.slot 1) (.int 0)) (.nm 1) (.itv (.idx (.slot 0) (.int 0))) (.nil) [1])) (.nil)
def na_I : FnI := ⟨"_law_names", 1, 2, [0], na_B⟩
def ar_B : Sm := .seq (.asg 2 (.lst 0 (.cons (.tup (.cons (.tup (.cons (.str "next") (.cons (.slot 1) (.nil)))) (.cons (.slot 1) (.cons (.int 1) (.nil))))) (.nil)))) (.seq (.extend 2 (.lc 0 (.tup (.cons (.tup (.cons (.str "down") (.cons (.slot 3) (.nil)))) (.cons (.idx (.slot 4) (.int 1)) (.cons (.idx (.slot 4) (.int 3)) (.nil))))) (.tup (.cons (.nm 3) (.cons (.nm 4) (.nil)))) (.enm (.idx (.slot 0) (.int 1))) (.cons (.cmp .eq (.idx (.slot 4) (.int 0)) (.slot 1)) (.nil)) [3, 4])) (.seq (.frz 2) (.seq (.ret (.bin .add (.slot 2) (.lc 0 (.tup (.cons (.tup (.cons (.str "up") (.cons (.slot 3) (.nil)))) (.cons (.idx (.slot 4) (.int 0)) (.cons (.bin .sub (.idx (.slot 4) (.int 2)) (.idx (.slot 4) (.int 3))) (.nil))))) (.tup (.cons (.nm 3) (.cons (.nm 4) (.nil)))) (.enm (.idx (.slot 0) (.int 1))) (.cons (.cmp .eq (.idx (.slot 4) (.int 1)) (.slot 1)) (.nil)) [3, 4]))) (.nil))))
def ar_I : FnI := ⟨"_law_arcs", 2, 5, [0, 0], ar_B⟩
def lv_B (na ar : Nat) : Sm := .seq (.asg 1 (.call na (.cons (.slot 0) (.nil)))) (.seq (.frz 1) (.seq (.for_ (.nm 2) (.rng (.fn .len (.cons (.slot 1) (.nil)))) (.seq (.asg 3 (.lst 0 (.nil))) (.seq (.for_ (.nm 4) (.itv (.slot 1)) (.seq (.extend 3 (.lc 0 (.slot 6) (.tup (.cons (.nm 5) (.cons (.nm 6) (.cons (.nm 7) (.nil))))) (.itv (.call ar (.cons (.slot 0) (.cons (.slot 4) (.nil))))) (.cons (.cmp .eq (.slot 7) (.int 0)) (.nil)) [5, 6, 7])) (.nil))) (.seq (.asg 1 (.lc 0 (.slot 4) (.nm 4) (.itv (.slot 1)) (.cons (.cmpS .inn (.slot 4) 3) (.nil)) [4])) (.seq (.frz 1) (.nil)))))) (.seq (.ret (.cmp .eq (.slot 1) (.lst 0 (.nil)))) (.nil))))
def lv_I (na ar : Nat) : FnI := ⟨"_law_is_live", 1, 8, [0], lv_B na ar⟩
def pu_B (so ta : Nat) : Sm := .seq (.asg 2 (.call so (.cons (.lend 0) (.cons (.lst 0 (.cons (.int 1) (.cons (.int 0) (.cons (.int 1) (.cons (.int 1) (.cons (.int 2) (.nil))))))) (.nil))))) (.seq (.frz 2) (.seq (.ret (.fn .tuple (.cons (.lc 0 (.tup (.cons (.bin .add (.int 1) (.call ta (.cons (.lend 0) (.cons (.slot 1) (.nil))))) (.cons (.call so (.cons (.lend 0) (.cons (.lst 0 (.cons (.int 0) (.cons (.int 0) (.cons (.int 1) (.cons (.int 2) (.cons (.int 1) (.nil))))))) (.nil)))) (.nil)))) (.nm 3) (.rng (.slot 2)) (.nil) [3]) (.nil)))) (.nil)))
def pu_I (so ta : Nat) : FnI := ⟨"_law_purses", 2, 4, [2, 0], pu_B so ta⟩
def fi_B (so ta : Nat) : Sm := .seq (.ret (.call so (.cons (.lend 0) (.cons (.lst 0 (.cons (.slot 1) (.cons (.slot 1) (.cons (.int 0) (.cons (.call ta (.cons (.lend 0) (.cons (.bin .add (.slot 1) (.int 1)) (.nil)))) (.nil)))))) (.nil))))) (.nil)
def fi_I (so ta : Nat) : FnI := ⟨"_law_first", 2, 2, [2, 0], fi_B so ta⟩
def we_B (mi so ta pu fi : Nat) : Sm := .seq (.asg 3 (.slc (.call mi (.cons (.lend 0) (.cons (.lst 0 (.cons (.str "cap") (.cons (.str "box") (.cons (.str "wash") (.cons (.str "sort") (.cons (.str "lab") (.cons (.str "a") (.cons (.str "tray") (.cons (.str "z") (.nil)))))))))) (.nil)))) (.nil) (.cons (.slot 1) .nil))) (.seq (.frz 3) (.seq (.par [6, 7] (.cons (.call so (.cons (.lend 0) (.cons (.lst 0 (.cons (.str "fill") (.cons (.str "m") (.cons (.str "fill") (.nil))))) (.nil)))) (.cons (.bin .add (.int 2) (.call ta (.cons (.lend 0) (.cons (.int 6) (.nil))))) (.nil)))) (.seq (.frz 6) (.seq (.frz 7) (.seq (.par [8, 9, 10] (.cons (.lst 0 (.cons (.tup (.cons (.slot 6) (.cons (.slot 7) (.cons (.tup (.nil)) (.nil))))) (.nil))) (.cons (.lst 0 (.nil)) (.cons (.lst 0 (.cons (.slot 6) (.nil))) (.nil))))) (.seq (.for_ (.nm 4) (.itv (.slot 3)) (.seq (.asg 11 (.bin .add (.int 1) (.call ta (.cons (.lend 0) (.cons (.bin .add (.slot 7) (.fn .int (.cons (.cmp .eq (.call ta (.cons (.lend 0) (.cons (.int 6) (.nil)))) (.int 0)) (.nil)))) (.nil)))))) (.seq (.frz 11) (.seq (.append 8 (.tup (.cons (.slot 4) (.cons (.slot 11) (.cons (.call pu (.cons (.lend 0) (.cons (.slot 2) (.nil)))) (.nil)))))) (.seq (.par [13, 14] (.cons (.bin .add (.int 1) (.call ta (.cons (.lend 0) (.cons (.int 4) (.nil))))) (.cons (.call so (.cons (.lend 0) (.cons (.bor 10) (.nil)))) (.nil)))) (.seq (.frz 13) (.seq (.frz 14) (.seq (.asg 12 (.call fi (.cons (.lend 0) (.cons (.slot 13) (.nil))))) (.seq (.frz 12) (.seq (.append 9 (.ite (.cmp .gt (.call ta (.cons (.lend 0) (.cons (.int 3) (.nil)))) (.int 0)) (.tup (.cons (.slot 4) (.cons (.slot 14) (.cons (.slot 13) (.cons (.slot 12) (.nil)))))) (.tup (.cons (.slot 14) (.cons (.slot 4) (.cons (.slot 13) (.cons (.slot 12) (.nil)))))))) (.seq (.append 10 (.slot 4)) (.nil)))))))))))) (.seq (.for_ (.nm 5) (.rng (.ite (.cmp .gt (.slot 1) (.int 0)) (.call so (.cons (.lend 0) (.cons (.lst 0 (.cons (.int 0) (.cons (.int 0) (.cons (.int 1) (.cons (.int 2) (.nil)))))) (.nil)))) (.int 0))) (.seq (.unp (.tup (.cons (.nm 15) (.cons (.nm 16) (.nil)))) (.slc (.call mi (.cons (.lend 0) (.cons (.bor 10) (.nil)))) (.nil) (.cons (.int 2) .nil))) (.seq (.asg 13 (.bin .add (.int 1) (.call ta (.cons (.lend 0) (.cons (.int 4) (.nil)))))) (.seq (.frz 13) (.seq (.append 9 (.tup (.cons (.slot 15) (.cons (.slot 16) (.cons (.slot 13) (.cons (.call fi (.cons (.lend 0) (.cons (.slot 13) (.nil)))) (.nil))))))) (.nil)))))) (.seq (.ret (.tup (.cons (.fn .tuple (.cons (.fnS .sorted 8) (.nil))) (.cons (.fn .tuple (.cons (.call mi (.cons (.lend 0) (.cons (.bor 9) (.nil)))) (.nil))) (.cons (.slot 6) (.nil)))))) (.nil)))))))))
def we_I (mi so ta pu fi : Nat) : FnI := ⟨"_law_web", 3, 17, [2, 0, 0], we_B mi so ta pu fi⟩
def ha_B (we lv : Nat) : Sm := .seq (.asg 3 (.call we (.cons (.lend 0) (.cons (.slot 1) (.cons (.slot 2) (.nil)))))) (.seq (.frz 3) (.seq (.ite (.call lv (.cons (.slot 3) (.nil))) (.seq (.ret (.slot 3)) (.nil)) (.nil)) (.seq (.asg 4 (.lst 0 (.nil))) (.seq (.for_ (.tup (.cons (.nm 5) (.cons (.nm 6) (.cons (.nm 7) (.cons (.nm 8) (.nil)))))) (.itv (.idx (.slot 3) (.int 1))) (.seq (.asg 7 (.fn .max (.cons (.int 2) (.cons (.slot 7) (.nil))))) (.seq (.frz 7) (.seq (.append 4 (.tup (.cons (.slot 5) (.cons (.slot 6) (.cons (.slot 7) (.cons (.fn .min (.cons (.bin .sub (.slot 7) (.int 1)) (.cons (.fn .max (.cons (.int 1) (.cons (.slot 8) (.nil)))) (.nil)))) (.nil))))))) (.nil))))) (.seq (.ret (.tup (.cons (.idx (.slot 3) (.int 0)) (.cons (.fnS .tuple 4) (.cons (.idx (.slot 3) (.int 2)) (.nil)))))) (.nil))))))
def ha_I (we lv : Nat) : FnI := ⟨"_law_hall", 3, 9, [2, 0, 0], ha_B we lv⟩
def li_B (mi ta pu : Nat) : Sm := .seq (.asg 3 (.bin .add (.slc (.call mi (.cons (.lend 0) (.cons (.lst 0 (.cons (.str "cap") (.cons (.str "box") (.cons (.str "wash") (.cons (.str "sort") (.cons (.str "lab") (.cons (.str "a") (.cons (.str "tray") (.nil))))))))) (.nil)))) (.nil) (.cons (.slot 1) .nil)) (.lst 0 (.cons (.str "fill") (.nil))))) (.seq (.frz 3) (.seq (.asg 4 (.bin .add (.int 3) (.call ta (.cons (.lend 0) (.cons (.int 7) (.nil)))))) (.seq (.frz 4) (.seq (.asg 5 (.bin .add (.lc 0 (.tup (.cons (.slot 10) (.cons (.bin .add (.int 1) (.call ta (.cons (.lend 0) (.cons (.slot 4) (.nil))))) (.cons (.call pu (.cons (.lend 0) (.cons (.slot 2) (.nil)))) (.nil))))) (.nm 10) (.itv (.slc (.slot 3) (.nil) (.cons (.neg (.int 1)) .nil))) (.nil) [10]) (.lst 0 (.cons (.tup (.cons (.str "fill") (.cons (.slot 4) (.cons (.tup (.nil)) (.nil))))) (.nil))))) (.seq (.frz 5) (.seq (.asg 6 (.lst 0 (.nil))) (.seq (.for_ (.tup (.cons (.nm 7) (.cons (.nm 8) (.nil)))) (.zp (.slot 3) (.slc (.slot 3) (.cons (.int 1) .nil) (.nil))) (.seq (.asg 9 (.bin .add (.int 1) (.call ta (.cons (.lend 0) (.cons (.int 5) (.nil)))))) (.seq (.frz 9) (.seq (.append 6 (.tup (.cons (.slot 7) (.cons (.slot 8) (.cons (.slot 9) (.cons (.slot 9) (.nil))))))) (.nil))))) (.seq (.ret (.tup (.cons (.fn .tuple (.cons (.fn .sorted (.cons (.slot 5) (.nil))) (.nil))) (.cons (.fn .tuple (.cons (.call mi (.cons (.lend 0) (.cons (.bor 6) (.nil)))) (.nil))) (.cons (.str "fill") (.nil)))))) (.nil)))))))))
def li_I (mi ta pu : Nat) : FnI := ⟨"_law_line", 3, 11, [2, 0, 0], li_B mi ta pu⟩
def tr_B (mi ta pu so : Nat) : Sm := .seq (.par [4, 5] (.cons (.slc (.call mi (.cons (.lend 0) (.cons (.lst 0 (.cons (.str "cap") (.cons (.str "box") (.cons (.str "wash") (.cons (.str "sort") (.cons (.str "lab") (.cons (.str "a") (.cons (.str "tray") (.nil))))))))) (.nil)))) (.nil) (.cons (.slot 1) .nil)) (.cons (.bin .add (.int 3) (.call ta (.cons (.lend 0) (.cons (.int 7) (.nil))))) (.nil)))) (.seq (.frz 4) (.seq (.frz 5) (.seq (.par [6, 7, 8] (.cons (.lst 0 (.cons (.tup (.cons (.str "fill") (.cons (.slot 5) (.cons (.tup (.nil)) (.nil))))) (.nil))) (.cons (.lst 0 (.nil)) (.cons (.lst 0 (.cons (.str "fill") (.nil))) (.nil))))) (.seq (.for_ (.nm 3) (.itv (.slot 4)) (.seq (.asg 9 (.bin .add (.int 1) (.call ta (.cons (.lend 0) (.cons (.int 5) (.nil)))))) (.seq (.frz 9) (.seq (.append 6 (.tup (.cons (.slot 3) (.cons (.bin .add (.int 1) (.call ta (.cons (.lend 0) (.cons (.slot 5) (.nil))))) (.cons (.call pu (.cons (.lend 0) (.cons (.slot 2) (.nil)))) (.nil)))))) (.seq (.append 7 (.tup (.cons (.slot 3) (.cons (.call so (.cons (.lend 0) (.cons (.bor 8) (.nil)))) (.cons (.slot 9) (.cons (.slot 9) (.nil))))))) (.seq (.append 8 (.slot 3)) (.nil))))))) (.seq (.ret (.tup (.cons (.fn .tuple (.cons (.fnS .sorted 6) (.nil))) (.cons (.fn .tuple (.cons (.call mi (.cons (.lend 0) (.cons (.bor 7) (.nil)))) (.nil))) (.cons (.str "fill") (.nil)))))) (.nil))))))
def tr_I (mi ta pu so : Nat) : FnI := ⟨"_law_tree", 3, 10, [2, 0, 0], tr_B mi ta pu so⟩
def fu_B : Sm := .seq (.ret (.fn .tuple (.cons (.lc 0 (.fn .tuple (.cons (.lc 0 (.slot 4) (.tup (.cons (.nm 4) (.cons (.nm 5) (.nil)))) (.itv (.slot 3)) (.nil) [4, 5]) (.nil))) (.tup (.cons (.nm 1) (.cons (.nm 2) (.cons (.nm 3) (.nil))))) (.itv (.idx (.slot 0) (.int 0))) (.nil) [1, 2, 3]) (.nil)))) (.nil)
def fu_I : FnI := ⟨"_law_full", 1, 6, [0], fu_B⟩
def be_B (ar : Nat) : Sm := .seq (.unp (.tup (.cons (.nm 3) (.cons (.nm 4) (.nil)))) (.slot 1)) (.seq (.unp (.tup (.cons (.nm 5) (.cons (.nm 6) (.nil)))) (.idx (.lc 0 (.tup (.cons (.slot 5) (.cons (.slot 6) (.nil)))) (.tup (.cons (.nm 13) (.cons (.nm 5) (.cons (.nm 6) (.nil))))) (.itv (.call ar (.cons (.slot 0) (.cons (.slot 3) (.nil))))) (.cons (.cmp .eq (.slot 13) (.slot 2)) (.nil)) [13, 5, 6]) (.int 0))) (.seq (.par [7, 8] (.cons (.int 0) (.cons (.lst 0 (.nil)) (.nil)))) (.seq (.frz 7) (.seq (.for_ (.tup (.cons (.tup (.cons (.nm 10) (.cons (.nm 11) (.cons (.nm 12) (.nil))))) (.cons (.nm 9) (.nil)))) (.zp (.idx (.slot 0) (.int 0)) (.slot 4)) (.seq (.ite (.and (.cmp .eq (.slot 10) (.slot 3)) (.cmp .ne (.idx (.slot 2) (.int 0)) (.str "up"))) (.seq (.par [7, 9] (.cons (.bin .add (.slot 11) (.fn .sum (.cons (.slot 9) (.nil)))) (.cons (.bin .mul (.tup (.cons (.int 0) (.nil))) (.fn .len (.cons (.slot 9) (.nil)))) (.nil)))) (.seq (.frz 7) (.seq (.frz 9) (.nil)))) (.nil)) (.seq (.append 8 (.fn .tuple (.cons (.lc 0 (.fn .min (.cons (.slot 15) (.cons (.bin .add (.slot 14) (.bin .mul (.slot 16) (.slot 6))) (.nil)))) (.tup (.cons (.tup (.cons (.nm 15) (.cons (.nm 16) (.nil)))) (.cons (.nm 14) (.nil)))) (.zp (.slot 12) (.slot 9)) (.nil) [14, 15, 16]) (.nil)))) (.nil)))) (.seq (.ret (.tup (.cons (.tup (.cons (.slot 5) (.cons (.fnS .tuple 8) (.nil)))) (.cons (.slot 7) (.nil))))) (.nil))))))
def be_I (ar : Nat) : FnI := ⟨"_law_behind", 3, 17, [0, 0, 0], be_B ar⟩
def pna_B : Sm := .seq (.ret (.fn .tuple (.cons (.lc 0 (.idx (.slot 1) (.int 0)) (.nm 1) (.itv (.idx (.slot 0) (.int 0))) (.nil) [1]) (.nil)))) (.nil)
def pna_I : FnI := ⟨"names_of", 1, 2, [0], pna_B⟩
def pen_B : Sm := .seq (.unp (.tup (.cons (.nm 2) (.cons (.nm 3) (.nil)))) (.slot 1)) (.seq (.ite (.cmp .eq (.slot 2) (.str "next")) (.seq (.ret (.slot 3)) (.nil)) (.nil)) (.seq (.ret (.idx (.idx (.idx (.slot 0) (.int 1)) (.slot 3)) (.ite (.cmp .eq (.slot 2) (.str "down")) (.int 1) (.int 0)))) (.nil)))
def pen_I : FnI := ⟨"end_of", 2, 4, [0, 0], pen_B⟩
def pgr_B : Sm := .seq (.unp (.tup (.cons (.nm 2) (.cons (.nm 3) (.nil)))) (.slot 1)) (.seq (.ite (.cmp .eq (.slot 2) (.str "next")) (.seq (.ret (.int 1)) (.nil)) (.nil)) (.seq (.unp (.tup (.cons (.nm 4) (.cons (.nm 5) (.cons (.nm 6) (.cons (.nm 7) (.nil)))))) (.idx (.idx (.slot 0) (.int 1)) (.slot 3))) (.seq (.ret (.ite (.cmp .eq (.slot 2) (.str "down")) (.slot 7) (.bin .sub (.slot 6) (.slot 7)))) (.nil))))
def pgr_I : FnI := ⟨"growth_of", 2, 8, [0, 0], pgr_B⟩
def pdo_B : Sm := .seq (.ret (.cmp .ne (.idx (.slot 0) (.int 0)) (.str "up"))) (.nil)
def pdo_I : FnI := ⟨"does_end", 1, 1, [0], pdo_B⟩
def pii_B : Sm := .seq (.ret (.and (.isT [.int] (.slot 0)) (.not (.isT [.bool] (.slot 0))))) (.nil)
def pii_I : FnI := ⟨"is_integer", 1, 1, [0], pii_B⟩
def pfu_B : Sm := .seq (.ret (.tup (.cons (.slot 1) (.cons (.fn .tuple (.cons (.lc 0 (.fn .tuple (.cons (.lc 0 (.slot 5) (.tup (.cons (.nm 5) (.cons (.nm 6) (.nil)))) (.itv (.slot 4)) (.nil) [5, 6]) (.nil))) (.tup (.cons (.nm 2) (.cons (.nm 3) (.cons (.nm 4) (.nil))))) (.itv (.idx (.slot 0) (.int 0))) (.nil) [2, 3, 4]) (.nil))) (.nil))))) (.nil)
def pfu_I : FnI := ⟨"full_state", 2, 7, [0, 0], pfu_B⟩
def pbe_B (pgr pdo pen : Nat) : Sm := .seq (.par [3, 4, 5] (.cons (.call pgr (.cons (.slot 0) (.cons (.slot 2) (.nil)))) (.cons (.int 0) (.cons (.lst 0 (.nil)) (.nil))))) (.seq (.frz 3) (.seq (.frz 4) (.seq (.for_ (.tup (.cons (.tup (.cons (.nm 8) (.cons (.nm 9) (.cons (.nm 10) (.nil))))) (.cons (.nm 6) (.nil)))) (.zp (.idx (.slot 0) (.int 0)) (.idx (.slot 1) (.int 1))) (.seq (.asg 7 (.slot 6)) (.seq (.frz 7) (.seq (.ite (.and (.cmp .eq (.slot 8) (.idx (.slot 1) (.int 0))) (.call pdo (.cons (.slot 2) (.nil)))) (.seq (.par [4, 7] (.cons (.bin .add (.slot 9) (.fn .sum (.cons (.slot 6) (.nil)))) (.cons (.bin .mul (.tup (.cons (.int 0) (.nil))) (.fn .len (.cons (.slot 6) (.nil)))) (.nil)))) (.seq (.frz 4) (.seq (.frz 7) (.nil)))) (.nil)) (.seq (.append 5 (.fn .tuple (.cons (.lc 0 (.fn .min (.cons (.slot 12) (.cons (.bin .add (.slot 11) (.bin .mul (.slot 13) (.slot 3))) (.nil)))) (.tup (.cons (.nm 11) (.cons (.tup (.cons (.nm 12) (.cons (.nm 13) (.nil)))) (.nil)))) (.zp (.slot 7) (.slot 10)) (.nil) [11, 12, 13]) (.nil)))) (.nil)))))) (.seq (.ret (.tup (.cons (.tup (.cons (.call pen (.cons (.slot 0) (.cons (.slot 2) (.nil)))) (.cons (.fnS .tuple 5) (.nil)))) (.cons (.slot 4) (.nil))))) (.nil)))))
def pbe_I (pgr pdo pen : Nat) : FnI := ⟨"behind", 3, 14, [0, 0, 0], pbe_B pgr pdo pen⟩
end PL
end
section
set_option Elab.async false
set_option linter.all false
set_option maxRecDepth 100000
set_option maxHeartbeats 400000
/-! PG1: halls; purses and first contents drawn, whatever the numbers of the defs. -/
namespace PL
open L2 PySem.Spec PySem
structure Mc where
  nm : Str
  tm : Int
  ps : List (Int × Int)
structure Bt where
  s : Str
  e : Str
  room : Int
  first : Int
structure Hall where
  ms : List Mc
  bs : List Bt
  fl : Str
def pD (p : Int × Int) : PyData := .tuple [.int p.1, .int p.2]
def mD (m : Mc) : PyData := .tuple [.str m.nm, .int m.tm, .tuple (m.ps.map pD)]
def bD (b : Bt) : PyData := .tuple [.str b.s, .str b.e, .int b.room, .int b.first]
def hD (h : Hall) : PyData := .tuple [.tuple (h.ms.map mD), .tuple (h.bs.map bD), .str h.fl]
theorem big : 4000 ≤ sizeLine := by decide
section
variable {T : Tab} {k B ta so pu fi : Nat} {bag : PyData} {Q : KF}
theorem sg_take {ρ : PL.Env} {as : List Arg} (h : T.fns[ta]? = some takeI) (e : lendOk ρ as [2, 0] = true := by rfl) : lendOk ρ as (sigOf T ta) = true := by rw [sig_of h]; exact e
theorem sg_some {ρ : PL.Env} {as : List Arg} (h : T.fns[so]? = some (someI ta)) (e : lendOk ρ as [2, 0] = true := by rfl) : lendOk ρ as (sigOf T so) = true := by rw [sig_of h]; exact e
theorem pn_ints {G : PL.Ctx} {ρ : PL.Env} {a b c d e : PL.E} {x y z u v : PyData} (h1 : Pv G a ρ x) (h2 : Pv G b ρ y) (h3 : Pv G c ρ z) (h4 : Pv G d ρ u) (h5 : Pv G e ρ v) : Pn G (.lst 0 (.cons a (.cons b (.cons c (.cons d (.cons e .nil)))))) ρ (.list [x, y, z, u, v]) 1 := fun K q =>
  h1 _ (h2 _ (h3 _ (h4 _ (h5 _ ⟨⟨(show 5 ≤ sizeLine by decide), fun p hp => .inr (.inl rfl)⟩, q⟩))))
theorem first_ok {room : Int} (tk : T.fns[ta]? = some takeI) (sm : T.fns[so]? = some (someI ta)) (hi : T.fns[fi]? = some (fi_I so ta)) (hb : Bag B bag) (hB : B + 2 < 2 ^ 200) (h0 : 0 ≤ room) (h1 : room < 1000) (q : ∀ v bag', 0 ≤ v → v ≤ room → Bag (B + 2) bag' → Q (.int v) 0 [bag']) : wpF T (k + 3) fi [bag, .int room] Q noX := by
  refine wpF_step hi rfl ?_
  show wpS (ctx T (k + 2) noX) (fi_B so ta) [some ⟨bag, 2, true, false⟩, sl (.int room)] (endsOf (fi_I so ta) Q)
  unfold fi_B
  rw [wpS_seq, wpS_ret]
  have body : ∀ K : KE, (∀ d bag', (∃ v : Int, d = .int v ∧ 0 ≤ v ∧ v ≤ room) → Bag (B + 2) bag' → K d 0 [some ⟨bag', 2, true, false⟩, sl (.int room)]) →
      wpE (ctx T (k + 2) noX) (.call so (.cons (.lend 0) (.cons (.lst 0 (.cons (.slot 1) (.cons (.slot 1) (.cons (.int 0) (.cons (.call ta (.cons (.lend 0) (.cons (.bin .add (.slot 1) (.int 1)) (.nil)))) (.nil)))))) (.nil)))) [some ⟨bag, 2, true, false⟩, sl (.int room)] K := fun K hK => by
    refine ⟨_, rfl, ⟨_, rfl, .inl rfl, ⟨_, rfl, .inl rfl, ?_⟩⟩⟩
    refine ⟨_, rfl, ⟨_, rfl, .inl rfl, ?_⟩⟩
    refine ⟨[bag, .int (room + 1)], rfl, sg_take tk, ⟨Nat.le_refl 1, fun j _ => by simp [bors]⟩, ?_⟩
    have lg : (room + 1).natAbs.log2 < 9000 := by
      have := log_lt (i := room + 1) (n := 60) (by omega) (by
        have : (2000 : Int) < ((2 ^ 60 : Nat) : Int) := by decide
        omega)
      omega
    refine take_ok (k := k + 1) tk hb (by omega) (by omega) lg fun v bag' v0 v1 hb' => ⟨.inl rfl, ?_⟩
    refine ⟨⟨(show 4 ≤ sizeLine by decide), fun p hp => .inr (.inl rfl)⟩, ?_⟩
    refine ⟨[bag', .list [.int room, .int room, .int 0, .int v]], rfl, sg_some sm, ⟨Nat.le_refl 1, fun j _ => by simp [bors]⟩, ?_⟩
    refine some_ok (k := k) tk sm hb' (by omega) (.inl rfl) (by simp) (show 4 ≤ sizeLine by decide) fun d bag2 hd hb2 => ⟨.inl rfl, ?_⟩
    refine hK d bag2 ?_ hb2
    simp only [List.mem_cons, List.not_mem_nil, or_false] at hd
    rcases hd with rfl | rfl | rfl | rfl
    · exact ⟨room, rfl, h0, Int.le_refl _⟩
    · exact ⟨room, rfl, h0, Int.le_refl _⟩
    · exact ⟨0, rfl, Int.le_refl _, h0⟩
    · exact ⟨v, rfl, v0, by omega⟩
  refine body _ ?_
  rintro d bag' ⟨v, rfl, v0, v1⟩ hb'
  exact ⟨[bag'], rfl, q v bag' v0 v1 hb'⟩
theorem purses_made {most : Int} (tk : T.fns[ta]? = some takeI) (sm : T.fns[so]? = some (someI ta)) (hi : T.fns[pu]? = some (pu_I so ta)) (hb : Bag B bag) (hB : B + 10 < 2 ^ 200) (h0 : 0 < most) (h1 : most < 1000)
    (q : ∀ (ps : List (Int × Int)) bag', ps.length ≤ 2 → (∀ p ∈ ps, 1 ≤ p.1 ∧ p.1 ≤ most ∧ 0 ≤ p.2 ∧ p.2 ≤ 2) → Bag (B + 5) bag' → Q (.tuple (ps.map pD)) 0 [bag']) : wpF T (k + 3) pu [bag, .int most] Q noX := by
  refine wpF_step hi rfl ?_
  show wpS (ctx T (k + 2) noX) (pu_B so ta) [some ⟨bag, 2, true, false⟩, sl (.int most), none, none] (endsOf (pu_I so ta) Q)
  unfold pu_B
  have okL : ∀ l : List (PyData × Nat), ∀ p ∈ l, okOwn 0 p.2 p.1 := fun l p _ => .inr (.inl rfl)
  have five : 5 ≤ sizeLine := by decide
  have lg : most.natAbs.log2 < 9000 := by
    have := log_lt (i := most) (n := 60) (by omega) (by
      have : (2000 : Int) < ((2 ^ 60 : Nat) : Int) := by decide
      omega)
    omega
  refine ⟨_, rfl, ⟨five, okL _⟩, ?_⟩
  refine ⟨[bag, .list [.int 1, .int 0, .int 1, .int 1, .int 2]], rfl, sg_some sm, ⟨Nat.le_refl 1, fun j _ => by simp [bors]⟩, ?_⟩
  refine some_ok (k := k) tk sm hb (by omega) (.inl rfl) (by simp) five fun d bag1 hd hb1 => ⟨.inl rfl, ?_⟩
  obtain ⟨c, rfl, c0, c1⟩ : ∃ c : Int, d = .int c ∧ 0 ≤ c ∧ c ≤ 2 := by
    simp only [List.mem_cons, List.not_mem_nil, or_false] at hd
    rcases hd with rfl | rfl | rfl | rfl | rfl
    all_goals exact ⟨_, rfl, by decide, by decide⟩
  refine ⟨trivial, _, rfl, rfl, ?_⟩
  refine ⟨_, rfl, .inl rfl, ⟨⟨by show -(2 ^ 62) ≤ c; omega, by show c < 2 ^ 62; omega⟩, vs1 trivial, ?_⟩⟩
  have lenR : (rangeD 0 c).length = c.toNat := by unfold rangeD; simp
  refine lcFold_inv (fun i acc ρ => ∃ (ps : List (Int × Int)) (bag' : PyData), ρ = [some ⟨bag', 2, true, false⟩, sl (.int most), sl (.int c), none] ∧ acc = ps.map pD ∧ ps.length = i ∧ (∀ p ∈ ps, 1 ≤ p.1 ∧ p.1 ≤ most ∧ 0 ≤ p.2 ∧ p.2 ≤ 2) ∧ Bag (B + 1 + 2 * i) bag') ⟨[], bag1, rfl, rfl, rfl, by simp, hb1⟩ ?_ ?_
  · rintro i x acc ρ K hx ⟨ps, bag', rfl, rfl, rfl, hps, hb'⟩ fin
    have hi : ps.length < c.toNat := by rw [← lenR]; exact (List.getElem?_eq_some_iff.mp hx).1
    refine ⟨trivial, trivial, ?_⟩
    refine ⟨_, rfl, ⟨_, rfl, .inl rfl, ?_⟩⟩
    refine ⟨[bag', .int most], rfl, sg_take tk, ⟨Nat.le_refl 1, fun j _ => by simp [bors]⟩, ?_⟩
    refine take_ok (k := k + 1) tk hb' (by omega) h0 lg fun v bag2 v0 v1 hb2 => ⟨.inl rfl, ?_⟩
    refine ⟨_, rfl, ⟨five, okL _⟩, ?_⟩
    refine ⟨[bag2, .list [.int 0, .int 0, .int 1, .int 2, .int 1]], rfl, sg_some sm, ⟨Nat.le_refl 1, fun j _ => by simp [bors]⟩, ?_⟩
    refine some_ok (k := k) tk sm hb2 (by omega) (.inl rfl) (by simp) five fun d bag3 hd hb3 => ⟨.inl rfl, ?_⟩
    obtain ⟨e, rfl, e0, e1⟩ : ∃ e : Int, d = .int e ∧ 0 ≤ e ∧ e ≤ 2 := by
      simp only [List.mem_cons, List.not_mem_nil, or_false] at hd
      rcases hd with rfl | rfl | rfl | rfl | rfl
      all_goals exact ⟨_, rfl, by decide, by decide⟩
    refine ⟨(show 2 ≤ sizeLine by decide), ⟨.inr (.inl rfl), by rw [List.length_map]; omega, vs1 rfl⟩, ?_⟩
    refine fin _ _ ⟨ps ++ [(1 + v, e)], bag3, rfl, by rw [List.map_append]; rfl, by simp, fun p hp => ?_, by
      have : B + 1 + 2 * ps.length + 1 + 1 = B + 1 + 2 * (ps.length + 1) := by omega
      rwa [this] at hb3⟩
    rcases List.mem_append.mp hp with z | z
    · exact hps p z
    · rw [List.mem_singleton.mp z]; exact ⟨by omega, by omega, e0, e1⟩
  · rintro acc ρ ⟨ps, bag', rfl, rfl, hl, hps, hb'⟩
    rw [lenR] at hl hb'
    exact ⟨[bag'], rfl, q ps bag' (by omega) hps (hb'.mono (by omega))⟩
end
end PL
end
section
set_option Elab.async false
set_option linter.all false
set_option maxRecDepth 100000
set_option maxHeartbeats 400000
/-! PG2: texts and machines in order; halls as they are made. -/
namespace PL
open L2 PySem.Spec PySem
theorem eqvAll_texts : ∀ l l' : List Str, PyData.eqvAll (l.map .str) (l'.map .str) = decide (l = l')
  | [], [] => by rw [List.map_nil, PyData.eqvAll]; rfl
  | [], _ :: _ => by rw [List.map_nil, List.map_cons, PyData.eqvAll]; rfl
  | _ :: _, [] => by rw [List.map_nil, List.map_cons, PyData.eqvAll]; rfl
  | x :: l, y :: l' => by
    rw [List.map_cons, List.map_cons, PyData.eqvAll, eqv_str, eqvAll_texts l l']
    by_cases h1 : x = y
    · by_cases h2 : l = l'
      · simp [h1, h2]
      · simp [h1, h2]
    · simp [h1]
theorem eqv_texts (l l' : List Str) : PyData.eqv (.list (l.map .str)) (.list (l'.map .str)) = decide (l = l') := by
  rw [PyData.eqv]; exact eqvAll_texts l l'
def strLe (a b : Str) : Bool := PySem.W.dataLe false id (.str a) (.str b)
theorem sort_texts (l : List Str) : sortD (l.map .str) = (l.mergeSort strLe).map .str := by
  unfold sortD
  exact (List.map_mergeSort (r := strLe) (s := PySem.W.dataLe false id) (f := PyData.str) (l := l) fun a _ b _ => rfl).symm
section
open PySem.W PyProof.Rows
theorem strLe_all : TotalLe strLe := sortLe_total (listOrd itemOrd) false (fun s : Str => keyToks (.str s))
theorem strLe_anti {a b : Str} (h1 : strLe a b = true) (h2 : strLe b a = true) : a = b := by
  have e1 : lexLt itemOrd (keyToks (.str b)) (keyToks (.str a)) = false := by
    have : (!lexLt itemOrd (keyToks (.str b)) (keyToks (.str a))) = true := h1
    rwa [Bool.not_eq_true'] at this
  have e2 : lexLt itemOrd (keyToks (.str a)) (keyToks (.str b)) = false := by
    have : (!lexLt itemOrd (keyToks (.str a)) (keyToks (.str b))) = true := h2
    rwa [Bool.not_eq_true'] at this
  have e := lex_total _ _ e2 e1
  rw [keyToks, keyToks] at e
  exact str_of_cps (Sum.inr.inj (List.cons.inj e).1)
theorem strLe_refl (a : Str) : strLe a a = true := by
  rcases strLe_all.total a a with h | h <;> exact h
theorem sort_one_way {l l' : List Str} (p : l.Perm l') (s : l'.Pairwise fun a b => strLe a b = true) : l.mergeSort strLe = l' :=
  List.Perm.eq_of_pairwise (fun a b _ _ h1 h2 => strLe_anti h1 h2) (List.pairwise_mergeSort (le := strLe) strLe_all.trans (fun a b => by rcases strLe_all.total a b with h | h <;> simp [h]) l) s ((List.mergeSort_perm l strLe).trans p)
/-! ### machines sorted -/
def mcLe (a b : Mc) : Bool := dataLe false id (mD a) (mD b)
theorem mcLe_all : TotalLe mcLe := sortLe_total (listOrd itemOrd) false (fun m : Mc => keyToks (mD m))
theorem mcLe_nm {a b : Mc} (h : mcLe a b = true) : strLe a.nm b.nm = true := by
  have e : (!dataLt (mD b) (mD a)) = true := h
  by_cases z : b.nm = a.nm
  · rw [z]; exact strLe_refl _
  · have e2 : dataLt (mD b) (mD a) = dataLt (.str b.nm) (.str a.nm) := by
      unfold mD
      rw [dataLt_tuple, dataLt_cons (by rw [alike]), eqv_str, decide_eq_false z, if_neg Bool.false_ne_true]
    rw [e2] at e
    exact e
theorem sort_mcs (ms : List Mc) : sortD (ms.map mD) = (ms.mergeSort mcLe).map mD := by
  unfold sortD
  exact (List.map_mergeSort (r := mcLe) (s := dataLe false id) (f := mD) (l := ms) fun a _ b _ => rfl).symm
theorem sorted_mcs (ms : List Mc) : ((ms.mergeSort mcLe).map Mc.nm).Pairwise fun a b => strLe a b = true := by
  rw [List.pairwise_map]
  exact (List.pairwise_mergeSort (le := mcLe) mcLe_all.trans (fun a b => by rcases mcLe_all.total a b with h | h <;> simp [h]) ms).imp fun h => mcLe_nm h
theorem alike_ps : ∀ ps qs : List (Int × Int), alikeAll (ps.map pD) (qs.map pD) = true
  | [], qs => by rw [List.map_nil, alikeAll]
  | p :: ps, [] => by rw [List.map_cons, List.map_nil, alikeAll]
  | p :: ps, q :: qs => by
    rw [List.map_cons, List.map_cons, alikeAll, alike_ps ps qs]
    unfold pD
    simp [alike, alikeAll]
theorem like_mcs (ms : List Mc) : allLike (ms.map mD) := by
  refine ⟨fun x hx y hy => ?_, .inl fun x hx => ?_, fun x hx => ?_⟩
  · obtain ⟨a, _, rfl⟩ := List.mem_map.mp hx
    obtain ⟨b, _, rfl⟩ := List.mem_map.mp hy
    unfold mD
    simp [alike, alikeAll, alike_ps]
  · obtain ⟨a, _, rfl⟩ := List.mem_map.mp hx
    exact ⟨_, _, rfl⟩
  · obtain ⟨a, _, rfl⟩ := List.mem_map.mp hx
    have h1 : PyData.depthAll (a.ps.map pD) ≤ 1 := depthAll_le fun z hz => by
      obtain ⟨p, _, rfl⟩ := List.mem_map.mp hz
      exact Nat.le_refl _
    have h2 : (PyData.tuple (a.ps.map pD)).depth ≤ 2 := by rw [PyData.depth]; omega
    have h3 : PyData.depthAll [.str a.nm, .int a.tm, .tuple (a.ps.map pD)] ≤ 2 := depthAll_le fun z hz => by
      simp only [List.mem_cons, List.not_mem_nil, or_false] at hz
      rcases hz with rfl | rfl | rfl
      · exact Nat.zero_le _
      · exact Nat.zero_le _
      · exact h2
    have h4 : (mD a).depth ≤ 3 := by unfold mD; rw [PyData.depth]; omega
    exact Nat.le_trans h4 (by decide)
end
structure Ends (h : Hall) : Prop where
  dist : (h.ms.map Mc.nm).Nodup
  sorted : (h.ms.map Mc.nm).Pairwise fun a b => strLe a b = true
  starts : ∀ b ∈ h.bs, ∃ m ∈ h.ms, m.nm = b.s
  ends : ∀ b ∈ h.bs, ∃ m ∈ h.ms, m.nm = b.e
def NM : List Str := ["cap", "box", "wash", "sort", "lab", "a", "tray", "z", "fill", "m"]
/-- the j-th belt lies between the j-th machine and an earlier one -/
def Shape (vs : List Str) (es : List Bt) : Prop := ∀ (j : Nat) (x : Str), 1 ≤ j → vs[j]? = some x → ∃ b i y, es[j - 1]? = some b ∧ i < j ∧ vs[i]? = some y ∧ ((b.s = x ∧ b.e = y) ∨ (b.s = y ∧ b.e = x))
theorem shape_one {x : Str} : Shape [x] [] := by
  intro j y h1 h2
  cases j with
  | zero => omega
  | succ j => simp at h2
theorem Shape.step {vs : List Str} {es : List Bt} {b : Bt} {x y : Str} (h : Shape vs es) (hl : es.length + 1 = vs.length) (hy : y ∈ vs) (hb : (b.s = x ∧ b.e = y) ∨ (b.s = y ∧ b.e = x)) : Shape (vs ++ [x]) (es ++ [b]) := by
  intro j z h1 h2
  by_cases hj : j < vs.length
  · rw [List.getElem?_append_left hj] at h2
    obtain ⟨b', i, y', e1, e2, e3, e4⟩ := h j z h1 h2
    refine ⟨b', i, y', ?_, e2, ?_, e4⟩
    · rw [List.getElem?_append_left (by omega)]; exact e1
    · rw [List.getElem?_append_left (by omega)]; exact e3
  · have hlt := (List.getElem?_eq_some_iff.mp h2).1
    rw [List.length_append, List.length_singleton] at hlt
    have ej : j = vs.length := by omega
    subst ej
    have e0 : (vs ++ [x])[vs.length]? = some x := by simp
    rw [e0] at h2; cases h2
    obtain ⟨i, hi⟩ := List.mem_iff_getElem?.mp hy
    have hi' := (List.getElem?_eq_some_iff.mp hi).1
    refine ⟨b, i, y, ?_, hi', ?_, hb⟩
    · have : vs.length - 1 = es.length := by omega
      rw [this]; simp
    · rw [List.getElem?_append_left hi']; exact hi
theorem Shape.more {vs : List Str} {es : List Bt} {b : Bt} (h : Shape vs es) (hl : vs.length ≤ es.length + 1) : Shape vs (es ++ [b]) := by
  intro j z h1 h2
  obtain ⟨b', i, y', e1, e2, e3, e4⟩ := h j z h1 h2
  have := (List.getElem?_eq_some_iff.mp h2).1
  exact ⟨b', i, y', by rw [List.getElem?_append_left (by omega)]; exact e1, e2, e3, e4⟩
/-- one belt otherwise -/
theorem Shape.swap {vs : List Str} {k1 k2 : List Bt} {b b' : Bt} (h : Shape vs (k1 ++ b :: k2)) (hb : (b'.s = b.s ∧ b'.e = b.e) ∨ (b'.s = b.e ∧ b'.e = b.s)) : Shape vs (k1 ++ b' :: k2) := by
  intro j z h1 h2
  obtain ⟨c, i, y, e1, e2, e3, e4⟩ := h j z h1 h2
  by_cases hj : j - 1 = k1.length
  · rw [hj] at e1 ⊢
    have : (k1 ++ b :: k2)[k1.length]? = some b := by simp
    rw [this] at e1; cases e1
    refine ⟨b', i, y, by simp, e2, e3, ?_⟩
    rcases hb with ⟨h1, h2⟩ | ⟨h1, h2⟩
    · rw [h1, h2]; exact e4
    · rw [h1, h2]; rcases e4 with ⟨a, b⟩ | ⟨a, b⟩
      · exact .inr ⟨b, a⟩
      · exact .inl ⟨b, a⟩
  · refine ⟨c, i, y, ?_, e2, e3, e4⟩
    rw [← e1]
    by_cases hl : j - 1 < k1.length
    · rw [List.getElem?_append_left hl, List.getElem?_append_left hl]
    · rw [List.getElem?_append_right (by omega), List.getElem?_append_right (by omega)]
      obtain ⟨m, hm⟩ : ∃ m, j - 1 - k1.length = m + 1 := ⟨j - 1 - k1.length - 1, by omega⟩
      rw [hm]; rfl
def McOk (most : Int) (m : Mc) : Prop := (1 ≤ m.tm ∧ m.tm ≤ 100) ∧ m.ps.length ≤ 2 ∧ ∀ p ∈ m.ps, 1 ≤ p.1 ∧ p.1 ≤ most ∧ 0 ≤ p.2 ∧ p.2 ≤ 2
def BtOk (b : Bt) : Prop := 1 ≤ b.room ∧ b.room ≤ 100 ∧ 0 ≤ b.first ∧ b.first ≤ b.room
structure Made (most : Int) (h : Hall) : Prop where
  sorted : (h.ms.map Mc.nm).Pairwise fun a b => strLe a b = true
  ok : ∀ m ∈ h.ms, McOk most m
  bok : ∀ b ∈ h.bs, BtOk b
  bs : h.bs.length ≤ 20
  grown : ∃ vs es, Shape vs es ∧ vs[0]? = some h.fl ∧ vs.length ≤ 9 ∧ vs.Nodup ∧ (∀ x ∈ vs, x ∈ NM) ∧ vs.Perm (h.ms.map Mc.nm) ∧ es.Perm h.bs ∧ ∀ b ∈ h.bs, b.s ∈ vs ∧ b.e ∈ vs
section
variable {h : Hall} {most : Int}
theorem Made.few (M : Made most h) : h.ms.length ≤ 9 := by
  obtain ⟨vs, es, _, _, hl, _, _, p, _⟩ := M.grown
  have := p.length_eq
  rw [List.length_map] at this
  omega
theorem Made.nm (M : Made most h) : ∀ m ∈ h.ms, m.nm ∈ NM := fun m hm => by
  obtain ⟨vs, es, _, _, _, _, hn, p, _⟩ := M.grown
  exact hn _ (p.mem_iff.mpr (List.mem_map_of_mem hm))
theorem Made.fl (M : Made most h) : h.fl ∈ NM := by
  obtain ⟨vs, es, _, h0, _, _, hn, _⟩ := M.grown
  exact hn _ (List.mem_of_getElem? h0)
theorem Made.ends (M : Made most h) : Ends h := by
  obtain ⟨vs, es, _, _, _, nd, _, p, _, hb⟩ := M.grown
  refine ⟨p.nodup_iff.mp nd, M.sorted, fun b h1 => ?_, fun b h1 => ?_⟩
  · obtain ⟨m, hm, e⟩ := List.mem_map.mp (p.mem_iff.mp (hb b h1).1)
    exact ⟨m, hm, e⟩
  · obtain ⟨m, hm, e⟩ := List.mem_map.mp (p.mem_iff.mp (hb b h1).2)
    exact ⟨m, hm, e⟩
theorem nodup_inj {α β : Type} {f : α → β} : ∀ {l : List α}, (l.map f).Nodup → ∀ a ∈ l, ∀ b ∈ l, f a = f b → a = b
  | [], _, a, ha, _, _, _ => by cases ha
  | x :: l, nd, a, ha, b, hb, e => by
    rw [List.map_cons, List.nodup_cons] at nd
    rcases List.mem_cons.mp ha with h1 | h1
    · rcases List.mem_cons.mp hb with h2 | h2
      · rw [h1, h2]
      · rw [h1] at e
        exact absurd (e ▸ List.mem_map_of_mem h2) nd.1
    · rcases List.mem_cons.mp hb with h2 | h2
      · rw [h2] at e
        exact absurd (e ▸ List.mem_map_of_mem h1) nd.1
      · exact nodup_inj nd.2 a h1 b h2 e
theorem get_inj {vs : List Str} (nd : vs.Nodup) {i j : Nat} {x : Str} (h1 : vs[i]? = some x) (h2 : vs[j]? = some x) : i = j := by
  have hi := (List.getElem?_eq_some_iff.mp h1).1
  exact (List.getElem?_inj hi nd).mp (h1.trans h2.symm)
theorem made_of {fl : Str} {vs : List Str} {ms : List Mc} {es bs : List Bt} (sh : Shape vs es) (h0 : vs[0]? = some fl) (hl : vs.length ≤ 9) (nd : vs.Nodup) (hn : ∀ x ∈ vs, x ∈ NM) (pm : vs.Perm (ms.map Mc.nm)) (pe : bs.Perm es) (few : es.length ≤ 20)
    (hb : ∀ b ∈ es, b.s ∈ vs ∧ b.e ∈ vs) (ok : ∀ m ∈ ms, McOk most m) (bok : ∀ b ∈ es, BtOk b) : Made most ⟨ms.mergeSort mcLe, bs, fl⟩ := by
  have pp := List.mergeSort_perm ms mcLe
  refine ⟨sorted_mcs ms, fun m hm => ok m (pp.mem_iff.mp hm), fun b hb => bok b (pe.mem_iff.mp hb), by have := pe.length_eq; show bs.length ≤ 20; omega, vs, es, sh, h0, hl, nd, hn, pm.trans (pp.map Mc.nm).symm, pe.symm, fun b h1 => hb b (pe.mem_iff.mp h1)⟩
theorem Made.swap (M : Made most h) {l1 l2 : List Bt} {b b' : Bt} (e : h.bs = l1 ++ b :: l2) (hb : (b'.s = b.s ∧ b'.e = b.e) ∨ (b'.s = b.e ∧ b'.e = b.s)) (ok' : BtOk b') : Made most ⟨h.ms, l1 ++ b' :: l2, h.fl⟩ := by
  obtain ⟨vs, es, sh, h0, hl, nd, hn, p, pe, hv⟩ := M.grown
  have mb : b ∈ es := pe.mem_iff.mpr (by rw [e]; simp)
  obtain ⟨k1, k2, rfl⟩ := List.append_of_mem mb
  have hbs := M.bs
  rw [e] at hbs pe hv
  have pe2 : (k1 ++ k2).Perm (l1 ++ l2) := by
    have := (List.perm_middle.symm.trans pe).trans List.perm_middle
    exact this.cons_inv
  refine ⟨M.sorted, M.ok, fun c hc => ?_, by simpa using hbs, vs, k1 ++ b' :: k2, sh.swap hb, h0, hl, nd, hn, p, ?_, fun c hc => ?_⟩
  · rcases List.mem_append.mp hc with z | z
    · exact M.bok c (by rw [e]; exact List.mem_append_left _ z)
    · rcases List.mem_cons.mp z with rfl | z
      · exact ok'
      · exact M.bok c (by rw [e]; exact List.mem_append_right _ (List.mem_cons_of_mem _ z))
  · exact (List.perm_middle.trans (pe2.cons b')).trans List.perm_middle.symm
  · rcases List.mem_append.mp hc with z | z
    · exact hv c (List.mem_append_left _ z)
    · rcases List.mem_cons.mp z with rfl | z
      · have := hv b (by simp)
        rcases hb with ⟨h1, h2⟩ | ⟨h1, h2⟩
        · rw [h1, h2]; exact this
        · rw [h1, h2]; exact ⟨this.2, this.1⟩
      · exact hv c (List.mem_append_right _ (List.mem_cons_of_mem _ z))
end
def strOf : PyData → Str | .str i => i | _ => ""
def NS7 : List String := ["cap", "box", "wash", "sort", "lab", "a", "tray"]
def NS8 : List String := ["cap", "box", "wash", "sort", "lab", "a", "tray", "z"]
def txts (l : List String) : List Str := l.map fun s : String => (s : Str)
def btOf : PyData → Bt | .tuple [.str s, .str e, .int r, .int f] => ⟨s, e, r, f⟩ | _ => ⟨"", "", 0, 0⟩
theorem btOf_bD (b : Bt) : btOf (bD b) = b := rfl
theorem nc_strs (l : List Str) : (l.map PyData.str).all noCont = true := List.all_eq_true.mpr fun x hx => by
  obtain ⟨s, _, rfl⟩ := List.mem_map.mp hx
  rfl
theorem nc_bs (l : List Bt) : (l.map bD).all noCont = true := List.all_eq_true.mpr fun x hx => by
  obtain ⟨s, _, rfl⟩ := List.mem_map.mp hx
  rfl
theorem nc_ps : ∀ l : List (Int × Int), noConts (l.map pD) = true
  | [] => rfl
  | p :: l => by rw [List.map_cons, noConts, nc_ps l]; rfl
theorem nc_mc (m : Mc) : noCont (mD m) = true := by
  unfold mD
  simp [noCont, noConts, nc_ps]
theorem nc_ms (l : List Mc) : (l.map mD).all noCont = true := List.all_eq_true.mpr fun x hx => by
  obtain ⟨s, _, rfl⟩ := List.mem_map.mp hx
  exact nc_mc s
/-- the machines made so far: their names vs in any order, small purses -/
structure Mcs (most : Int) (ms : List Mc) (vs : List Str) : Prop where
  nms : ms.map Mc.nm = vs
  ok : ∀ m ∈ ms, McOk most m
structure Bts (es : List Bt) (vs : List Str) : Prop where
  shape : Shape vs es
  len : es.length + 1 = vs.length
  ends : ∀ b ∈ es, b.s ∈ vs ∧ b.e ∈ vs
  ok : ∀ b ∈ es, BtOk b
theorem Mcs.step {most : Int} {ms : List Mc} {vs : List Str} (h : Mcs most ms vs) {m : Mc} (h1 : McOk most m) : Mcs most (ms ++ [m]) (vs ++ [m.nm]) := by
  refine ⟨by rw [List.map_append, h.nms]; rfl, fun m' hm => ?_⟩
  rcases List.mem_append.mp hm with z | z
  · exact h.ok m' z
  · rw [List.mem_singleton.mp z]; exact h1
theorem Bts.step {es : List Bt} {vs : List Str} (h : Bts es vs) {b : Bt} {x y : Str} (hy : y ∈ vs) (hb : (b.s = x ∧ b.e = y) ∨ (b.s = y ∧ b.e = x)) (ok : BtOk b) : Bts (es ++ [b]) (vs ++ [x]) := by
  refine ⟨h.shape.step h.len hy hb, by simp [h.len], fun c hc => ?_, fun c hc => (List.mem_append.mp hc).elim (h.ok c) fun z => by rw [List.mem_singleton.mp z]; exact ok⟩
  rcases List.mem_append.mp hc with z | z
  · exact ⟨List.mem_append_left _ (h.ends c z).1, List.mem_append_left _ (h.ends c z).2⟩
  · rw [List.mem_singleton.mp z]
    rcases hb with ⟨h1, h2⟩ | ⟨h1, h2⟩
    · rw [h1, h2]; exact ⟨by simp, List.mem_append_left _ hy⟩
    · rw [h1, h2]; exact ⟨List.mem_append_left _ hy, by simp⟩
end PL
end
section
set_option Elab.async false
set_option linter.all false
set_option maxRecDepth 100000
set_option maxHeartbeats 400000
/-! PG3: names drawn; the maker of trees. -/
namespace PL
open L2 PySem.Spec PySem
section
variable {T : Tab} {k B ta so mi pu fi : Nat} {bag : PyData} {Q : KF} {most : Int}
theorem purses_call (tk : T.fns[ta]? = some takeI) (sm : T.fns[so]? = some (someI ta)) (hp : T.fns[pu]? = some (pu_I so ta)) (m0 : 0 < most) (m1 : most < 1000) {K : KE} {ρ : PL.Env} {i j : Nat} {pr : Bool} (hr : ρ[i]? = some (some ⟨bag, 2, pr, false⟩)) (hj : ρ[j]? = some (sl (.int most))) (hb : Bag B bag) (hB : B + 10 < 2 ^ 200)
    (q : ∀ (ps : List (Int × Int)) bag', ps.length ≤ 2 → (∀ p ∈ ps, 1 ≤ p.1 ∧ p.1 ≤ most ∧ 0 ≤ p.2 ∧ p.2 ≤ 2) → Bag (B + 5) bag' → K (.tuple (ps.map pD)) 0 (ρ.set i (some ⟨bag', 2, pr, false⟩))) :
    wpE (ctx T (k + 3) noX) (.call pu (.cons (.lend i) (.cons (.slot j) .nil))) ρ K :=
  w_lend1 (by rw [sig_of hp]; rfl) hr (pv_slot hj).pn fun Q hQ => purses_made (k := k) tk sm hp hb hB m0 m1 fun ps bag' h1 h2 h3 => hQ _ _ _ (q ps bag' h1 h2 h3)
theorem names_drawn (tk : T.fns[ta]? = some takeI) (mx : T.fns[mi]? = some (mixedI ta)) {l : List String} {K : KE} {ρ : PL.Env} {i j : Nat} {pr : Bool} {mach : Int} (hl : l.length ≤ 8) (nd : (txts l).Nodup) (hr : ρ[i]? = some (some ⟨bag, 2, pr, false⟩)) (hj : ∀ bag', (ρ.set i (some ⟨bag', 2, pr, false⟩))[j]? = some (sl (.int mach))) (h0 : 0 ≤ mach) (hb : Bag B bag) (hB : B + 10 < 2 ^ 200)
    (q : ∀ (ns : List Str) bag', ns.Nodup → (∀ x ∈ ns, x ∈ txts l) → ns.length ≤ mach.toNat → (0 < mach → 0 < l.length → 0 < ns.length) → Bag (B + 8) bag' → K (.list (ns.map .str)) 1 (ρ.set i (some ⟨bag', 2, pr, false⟩))) :
    wpE (ctx T (k + 2) noX) (.slc (.call mi (.cons (.lend i) (.cons (.lst 0 (strsE l)) .nil))) .nil (.cons (.slot j) .nil)) ρ K := by
  have bg := big
  refine w_slcTo (w_mixed (k := k) tk mx hb (by rw [List.length_map]; omega) hr (pn_strs (by omega)) (.inl rfl) (by rw [List.length_map]; omega) fun out bag' hp hb' => ?_)
  refine (pv_slot (G := ctx T (k + 2) noX) (hj bag')) _ ?_
  have e : l.map (fun s : String => PyData.str (s : Str)) = (txts l).map .str := by unfold txts; rw [List.map_map]; rfl
  rw [e] at hp
  obtain ⟨ns, rfl, pn⟩ := perm_of_map (g := strOf) (fun a => rfl) hp
  show K (.list (cutD (ns.map .str) none (some mach))) 1 _
  rw [cutTo h0, ← List.map_take]
  refine q _ bag' ((pn.nodup_iff.mpr nd).sublist (List.take_sublist _ _)) (fun x hx => pn.mem_iff.mp (List.mem_of_mem_take hx)) (by rw [List.length_take]; omega) (fun z1 z2 => by have := pn.length_eq; unfold txts at this; rw [List.length_map] at this; rw [List.length_take]; omega) (hb'.mono (by rw [List.length_map]; omega))
theorem tree_made {tr : Nat} {mach : Int} (tk : T.fns[ta]? = some takeI) (sm : T.fns[so]? = some (someI ta)) (mx : T.fns[mi]? = some (mixedI ta)) (hp : T.fns[pu]? = some (pu_I so ta)) (hi : T.fns[tr]? = some (tr_I mi ta pu so)) (m0 : 0 < most) (m1 : most < 1000) (hb : Bag B bag) (hB : B + 1000 < 2 ^ 200) (h0 : 0 ≤ mach) (h1 : mach ≤ 5) (q : ∀ h bag', Made most h → Bag (B + 100) bag' → Q (hD h) 0 [bag']) : wpF T (k + 4) tr [bag, .int mach, .int most] Q noX := by
  refine wpF_step hi rfl ?_
  show wpS (ctx T (k + 3) noX) (tr_B mi ta pu so) [some ⟨bag, 2, true, false⟩, sl (.int mach), sl (.int most), none, none, none, none, none, none, none] (endsOf (tr_I mi ta pu so) Q)
  unfold tr_B
  have bg := big
  refine w_seq (w_par (wl_cons ?_))
  refine names_drawn (k := k + 1) tk mx (l := NS7) (by decide) (by decide +kernel) rfl (fun _ => rfl) h0 hb (by omega) fun ns bag1 nd nn nl _ hb1 => ?_
  refine wl_cons (w_binE (pv_int _ ?_))
  refine w_take (k := k + 2) tk hb1 (by omega) rfl pv_int (by decide) (by decide) fun v bag2 v0 v1 hb2 => ?_
  refine bi_add (wl_nil ⟨⟨rfl, by decide, fun i hi => ?_⟩, ?_⟩)
  · simp only [List.mem_cons, List.not_mem_nil, or_false] at hi
    rcases hi with rfl | rfl <;> trivial
  refine w_seq (w_frz rfl rfl ?_)
  refine w_seq (w_frz rfl rfl ?_)
  have fillIn : ("fill" : Str) ∈ NM := by decide +kernel
  have ns_in : ∀ x ∈ txts NS7, x ∈ NM ∧ x ≠ "fill" := by decide +kernel
  refine w_seq (w_par (wl_consP (pn_lstP (pvl_cons (pv_tupP (pvl_cons pv_str (pvl_cons (pv_slot rfl) (pvl_cons (pv_tupP pvl_nil (Nat.zero_le _)) pvl_nil))) (show 3 ≤ sizeLine by decide)) pvl_nil) (show 1 ≤ sizeLine by decide))
    (wl_consP pn_nil (wl_consP (pn_lstP (pvl_cons pv_str pvl_nil) (show 1 ≤ sizeLine by decide)) (wl_nil ⟨⟨rfl, by decide, fun i hi => ?_⟩, ?_⟩)))))
  · simp only [List.mem_cons, List.not_mem_nil, or_false] at hi
    rcases hi with rfl | rfl | rfl <;> trivial
  refine w_seq (w_forL (items := ns.map .str) (pv_slot rfl).pn (.inl rfl) (fun i ρ => ∃ bag' ms es s3 s9, ρ = [some ⟨bag', 2, true, false⟩, sl (.int mach), sl (.int most), s3, sl (.list (ns.map .str)), sl (.int (3 + v)), some ⟨.list (ms.map mD), 1, false, false⟩, some ⟨.list (es.map bD), 1, false, false⟩, some ⟨.list ((("fill" : Str) :: ns.take i).map .str), 1, false, false⟩, s9] ∧
      Fr1 s3 ∧ Fr1 s9 ∧ Mcs most ms (("fill" : Str) :: ns.take i) ∧ Bts es (("fill" : Str) :: ns.take i) ∧ Bag (B + 9 + 10 * i) bag')
    ⟨bag2, [⟨"fill", 3 + v, []⟩], [], none, none, rfl, .inl rfl, .inl rfl, ⟨rfl, fun m hm => by rw [List.mem_singleton.mp hm]; exact ⟨⟨by show 1 ≤ 3 + v; omega, by show 3 + v ≤ 100; omega⟩, Nat.zero_le _, by simp⟩⟩, ⟨shape_one, rfl, by simp, by simp⟩, hb2.mono (by omega)⟩ ?_ ?_)
  · rintro i x ρ K hx ⟨bag', ms, es, s3, s9, rfl, f3, f9, hm, he, hb'⟩ fin
    rw [List.getElem?_map] at hx
    obtain ⟨n, hn, rfl⟩ := Option.map_eq_some_iff.mp hx
    have hi : i < ns.length := (List.getElem?_eq_some_iff.mp hn).1
    have et : ns.take (i + 1) = ns.take i ++ [n] := by rw [List.take_add_one, hn]; rfl
    have lm : ms.length = i + 1 := by
      have := congrArg List.length hm.nms
      rw [List.length_map, List.length_cons, List.length_take] at this
      omega
    have le : es.length = i := by
      have := he.len
      rw [List.length_cons, List.length_take] at this
      omega
    refine ⟨fr1_free f3 rfl, ?_⟩
    refine w_seq (w_asgE (w_binE (pv_int _ ?_)))
    refine w_take (k := k + 2) tk hb' (by omega) rfl pv_int (by decide) (by decide) fun r bag3 r0 r1 hb3 => ?_
    refine bi_add ⟨fr1_free f9 rfl, ?_⟩
    refine w_seq (w_frz rfl rfl ?_)
    refine w_seq ⟨⟨_, rfl, _, rfl⟩, ?_⟩
    refine w_tupE (wl_cons (pv_slot rfl _ (wl_cons (w_binE (pv_int _ ?_)))))
    refine w_take (k := k + 2) tk hb3 (by omega) rfl (pv_slot rfl) (by omega) (by omega) fun t bag4 t0 t1 hb4 => ?_
    refine bi_add (wl_cons ?_)
    refine purses_call (k := k) tk sm hp m0 m1 rfl rfl hb4 (by omega) fun ps bag5 ps1 ps2 hb5 => ?_
    refine wl_nil ⟨(show 3 ≤ sizeLine by decide), ?_⟩
    refine ⟨_, rfl, rfl, ⟨Nat.zero_lt_one, .inr (.inl rfl), by rw [List.length_map]; omega⟩, ?_⟩
    refine w_seq ⟨⟨_, rfl, _, rfl⟩, ?_⟩
    refine w_tupE (wl_cons (pv_slot rfl _ (wl_cons ?_)))
    refine w_someB (k := k + 1) tk sm hb5 (by omega) rfl rfl (by decide) (by simp) (by rw [List.length_map, List.length_cons, List.length_take]; omega) (nc_strs _) fun d bag6 hd hb6 => ?_
    obtain ⟨o, ho, rfl⟩ := List.mem_map.mp hd
    refine wl_cons (pv_slot rfl _ (wl_cons (pv_slot rfl _ (wl_nil ⟨(show 4 ≤ sizeLine by decide), ?_⟩))))
    refine ⟨_, rfl, rfl, ⟨Nat.zero_lt_one, .inr (.inl rfl), by rw [List.length_map]; omega⟩, ?_⟩
    refine w_seq ⟨⟨_, rfl, _, rfl⟩, pv_slot rfl _ ?_⟩
    refine ⟨_, rfl, rfl, ⟨Nat.zero_lt_one, .inr (.inl rfl), by rw [List.length_map, List.length_cons, List.length_take]; omega⟩, ?_⟩
    refine (show K _ from fin _ ?_)
    refine ⟨bag6, ms ++ [⟨n, 1 + t, ps⟩], es ++ [⟨n, o, 1 + r, 1 + r⟩], some ⟨.str n, 0, false, false⟩, some ⟨.int (1 + r), 0, false, false⟩, ?_, .inr ⟨_, rfl⟩, .inr ⟨_, rfl⟩, ?_, ?_, hb6.mono (by omega)⟩
    · rw [List.map_append, List.map_append, et]
      have : (("fill" : Str) :: (ns.take i ++ [n])).map PyData.str = (("fill" : Str) :: ns.take i).map PyData.str ++ [.str n] := by simp
      rw [this]; rfl
    · rw [et]
      exact hm.step (m := ⟨n, 1 + t, ps⟩) ⟨⟨by show 1 ≤ 1 + t; omega, by show 1 + t ≤ 100; omega⟩, ps1, ps2⟩
    · rw [et]
      exact he.step (b := ⟨n, o, 1 + r, 1 + r⟩) (x := n) ho (.inl ⟨rfl, rfl⟩) ⟨by show 1 ≤ 1 + r; omega, by show 1 + r ≤ 100; omega, by show 0 ≤ 1 + r; omega, by show 1 + r ≤ 1 + r; omega⟩
  · rintro ρ ⟨bag', ms, es, s3, s9, rfl, f3, f9, hm, he, hb'⟩
    rw [List.length_map, List.take_length] at hm he
    rw [List.length_map] at hb'
    have le : es.length = ns.length := by
      have := he.len
      rw [List.length_cons] at this
      omega
    refine w_seq (w_retE (w_tupE (wl_cons (w_fnE (wl_cons ⟨_, rfl, like_mcs ms, ?_, wl_nil ?_⟩)))))
    · rw [sort_mcs]; exact nc_ms _
    refine fi_tup (wl_cons (w_fnE (wl_cons ?_)))
    refine w_mixedB (k := k + 1) tk mx hb' (by rw [List.length_map]; omega) rfl rfl (by decide) (by rw [List.length_map]; omega) (nc_bs _) fun out bag2 hp hb2 => wl_nil ?_
    obtain ⟨bs, rfl, pb⟩ := perm_of_map (g := btOf) btOf_bD hp
    refine fi_tup (wl_cons (pv_str _ (wl_nil ⟨(show 3 ≤ sizeLine by decide), [bag2], rfl, ?_⟩)))
    have mk : Made most ⟨ms.mergeSort mcLe, bs, "fill"⟩ := made_of (vs := ("fill" : Str) :: ns) he.shape rfl (by rw [List.length_cons]; omega) (by rw [List.nodup_cons]; exact ⟨fun z => (ns_in _ (nn _ z)).2 rfl, nd⟩) (fun x hx => by
      rcases List.mem_cons.mp hx with rfl | hx
      · exact fillIn
      · exact (ns_in x (nn x hx)).1) (by rw [hm.nms]) pb (by omega) he.ends hm.ok he.ok
    have := q _ bag2 mk (hb2.mono (by rw [List.length_map]; omega))
    unfold hD at this
    rw [← sort_mcs] at this
    exact this
end
end PL
end
section
set_option Elab.async false
set_option linter.all false
set_option maxRecDepth 100000
set_option maxHeartbeats 400000
/-! PG4: the maker of lines. -/
namespace PL
open L2 PySem.Spec PySem
theorem cutInit {l : List PyData} {x : PyData} : cutD (l ++ [x]) none (some (-1)) = l := by
  unfold cutD
  rw [HT.sIx_none, List.drop_zero, Nat.sub_zero]
  have : HT.sIx (l ++ [x]).length (l ++ [x]).length (some (-1)) = l.length := by
    unfold HT.sIx
    show (if (-1 : Int) < 0 then (-1 + ((l ++ [x]).length : Int)).toNat else min (-1 : Int).toNat (l ++ [x]).length) = l.length
    rw [if_pos (by decide), List.length_append]
    simp; omega
  rw [this, List.take_left' rfl]
theorem pn_init {G : PL.Ctx} {a : PL.E} {ρ : PL.Env} {l : List PyData} {x : PyData} {n : Nat} (ha : Pn G a ρ (.list (l ++ [x])) n) : Pn G (.slc a .nil (.cons (.neg (.int 1)) .nil)) ρ (.list l) 1 := fun K q => ha _ (by
  have e := cutInit (l := l) (x := x)
  show K (.list (cutD (l ++ [x]) none (some (-1)))) 1 ρ
  rw [e]; exact q)
/-- each belt from a name to the next -/
def Row (N : List Str) (es : List Bt) : Prop := ∀ (j : Nat) (b : Bt), es[j]? = some b → N[j]? = some b.s ∧ N[j + 1]? = some b.e
theorem row_bts : ∀ {N : List Str} {es : List Bt}, (∀ b ∈ es, BtOk b) → Row N es → es.length + 1 = N.length → Bts es.reverse N.reverse
  | [], es, _, _, hl => by simp at hl
  | [x], [], _, _, _ => ⟨shape_one, rfl, by simp, by simp⟩
  | [x], _ :: _, _, _, hl => by simp at hl
  | x :: y :: r, [], _, _, hl => by simp at hl
  | x :: y :: r, e :: es, ok, h, hl => by
    have ih := row_bts (N := y :: r) (es := es) (fun b hb => ok b (List.mem_cons_of_mem _ hb)) (fun j b hb => by
      have := h (j + 1) b (by simpa using hb)
      exact ⟨by simpa using this.1, by simpa using this.2⟩) (by simpa using hl)
    have h0 := h 0 e rfl
    have hs : x = e.s := by simpa using h0.1
    have he : y = e.e := by simpa using h0.2
    rw [List.reverse_cons, List.reverse_cons (a := x)]
    exact ih.step (x := x) (y := y) (by simp) (.inl ⟨hs.symm, he.symm⟩) (ok e List.mem_cons_self)
section
variable {T : Tab} {k B ta so mi pu fi : Nat} {bag : PyData} {Q : KF} {most : Int}
theorem line_made {li : Nat} {mach : Int} (tk : T.fns[ta]? = some takeI) (sm : T.fns[so]? = some (someI ta)) (mx : T.fns[mi]? = some (mixedI ta)) (hp : T.fns[pu]? = some (pu_I so ta)) (hi : T.fns[li]? = some (li_I mi ta pu)) (m0 : 0 < most) (m1 : most < 1000) (hb : Bag B bag) (hB : B + 1000 < 2 ^ 200) (h0 : 0 ≤ mach) (h1 : mach ≤ 5) (q : ∀ h bag', Made most h → Bag (B + 100) bag' → Q (hD h) 0 [bag']) : wpF T (k + 4) li [bag, .int mach, .int most] Q noX := by
  refine wpF_step hi rfl ?_
  show wpS (ctx T (k + 3) noX) (li_B mi ta pu) [some ⟨bag, 2, true, false⟩, sl (.int mach), sl (.int most), none, none, none, none, none, none, none, none] (endsOf (li_I mi ta pu) Q)
  unfold li_B
  have bg := big
  have fillIn : ("fill" : Str) ∈ NM := by decide +kernel
  have ns_in : ∀ x ∈ txts NS7, x ∈ NM ∧ x ≠ "fill" := by decide +kernel
  refine w_seq (w_asgE (w_binE ?_))
  refine names_drawn (k := k + 1) tk mx (l := NS7) (by decide) (by decide +kernel) rfl (fun _ => rfl) h0 hb (by omega) fun ns bag1 nd nn nl _ hb1 => ?_
  refine pn_lstP (pvl_cons pv_str pvl_nil) (show 1 ≤ sizeLine by decide) _ ?_
  refine bi_cat (by rw [List.length_map]; show _ + 1 ≤ _; omega) ⟨trivial, ?_⟩
  have eN : ns.map PyData.str ++ [PyData.str "fill"] = (ns ++ [("fill" : Str)]).map .str := by simp
  refine w_seq (w_frz rfl rfl ?_)
  refine w_seq (w_asgE (w_binE (pv_int _ ?_)))
  refine w_take (k := k + 2) tk hb1 (by omega) rfl pv_int (by decide) (by decide) fun v bag2 v0 v1 hb2 => ?_
  refine bi_add ⟨trivial, ?_⟩
  refine w_seq (w_frz rfl rfl ?_)
  refine w_seq (w_asgE (w_binE ?_))
  refine w_lcL (items := ns.map .str) (pn_init (x := .str "fill") (pv_slot rfl).pn) (.inl rfl) rfl (vs1 trivial) (fun i acc ρ => ∃ bag' ms, ρ = [some ⟨bag', 2, true, false⟩, sl (.int mach), sl (.int most), sl (.list (ns.map .str ++ [.str "fill"])), sl (.int (3 + v)), none, none, none, none, none, none] ∧ acc = ms.map mD ∧ Mcs most ms (ns.take i) ∧ Bag (B + 9 + 6 * i) bag')
    ⟨bag2, [], rfl, rfl, ⟨rfl, by simp⟩, hb2.mono (by omega)⟩ ?_ ?_
  · rintro i x acc ρ KA hx ⟨bag', ms, rfl, rfl, hm, hb'⟩ fin
    rw [List.getElem?_map] at hx
    obtain ⟨n, hn, rfl⟩ := Option.map_eq_some_iff.mp hx
    have hi : i < ns.length := (List.getElem?_eq_some_iff.mp hn).1
    have et : ns.take (i + 1) = ns.take i ++ [n] := by rw [List.take_add_one, hn]; rfl
    have lm : ms.length = i := by
      have := congrArg List.length hm.nms
      rw [List.length_map, List.length_take] at this
      omega
    refine ⟨trivial, ?_⟩
    refine w_tupE (wl_cons (pv_slot rfl _ (wl_cons (w_binE (pv_int _ ?_)))))
    refine w_take (k := k + 2) tk hb' (by omega) rfl (pv_slot rfl) (by omega) (by omega) fun t bag4 t0 t1 hb4 => ?_
    refine bi_add (wl_cons ?_)
    refine purses_call (k := k) tk sm hp m0 m1 rfl rfl hb4 (by omega) fun ps bag5 ps1 ps2 hb5 => ?_
    refine wl_nil ⟨(show 3 ≤ sizeLine by decide), ⟨.inr (.inl rfl), by rw [List.length_map]; omega, vs1 rfl⟩, ?_⟩
    refine fin _ _ ⟨bag5, ms ++ [⟨n, 1 + t, ps⟩], rfl, by rw [List.map_append]; rfl, ?_, hb5.mono (by omega)⟩
    rw [et]
    exact hm.step (m := ⟨n, 1 + t, ps⟩) ⟨⟨by show 1 ≤ 1 + t; omega, by show 1 + t ≤ 100; omega⟩, ps1, ps2⟩
  rintro acc ρ ⟨bag3, ms, rfl, rfl, hm, hb3⟩
  rw [List.length_map, List.take_length] at hm
  rw [List.length_map] at hb3
  have lm : ms.length = ns.length := by
    have := congrArg List.length hm.nms
    rwa [List.length_map] at this
  refine pn_lstP (pvl_cons (pv_tupP (pvl_cons pv_str (pvl_cons (pv_slot rfl) (pvl_cons (pv_tupP pvl_nil (Nat.zero_le _)) pvl_nil))) (show 3 ≤ sizeLine by decide)) pvl_nil) (show 1 ≤ sizeLine by decide) _ ?_
  refine bi_cat (by rw [List.length_map]; show _ + 1 ≤ _; omega) ⟨trivial, ?_⟩
  have eM : ms.map mD ++ [PyData.tuple [.str "fill", .int (3 + v), .tuple []]] = (ms ++ [(⟨"fill", 3 + v, []⟩ : Mc)]).map mD := by rw [List.map_append]; rfl
  refine w_seq (w_frz rfl rfl ?_)
  refine w_seq (w_asg pn_nil ⟨trivial, ?_⟩)
  refine w_seq (w_forP rfl (wi_zip (ds := ns.map PyData.str ++ [PyData.str "fill"]) (es := (ns.map PyData.str ++ [PyData.str "fill"]).drop 1) (pv_slot rfl).pn (pn_tail (pv_slot rfl).pn))
    (fun i ρ => ∃ bag' es s7 s8 s9, ρ = [some ⟨bag', 2, true, false⟩, sl (.int mach), sl (.int most), sl (.list (ns.map .str ++ [.str "fill"])), sl (.int (3 + v)), sl (.list (ms.map mD ++ [PyData.tuple [.str "fill", .int (3 + v), .tuple []]])), some ⟨.list (es.map bD), 1, false, false⟩, s7, s8, s9, none] ∧ Fr1 s7 ∧ Fr1 s8 ∧ Fr1 s9 ∧ es.length = i ∧ (Row (ns ++ [("fill" : Str)]) es ∧ ∀ b ∈ es, BtOk b) ∧ Bag (B + 50 + i) bag')
    ⟨bag3, [], none, none, none, rfl, .inl rfl, .inl rfl, .inl rfl, rfl, ⟨fun j b hb => by simp at hb, by simp⟩, hb3.mono (by omega)⟩ ?_ ?_)
  · rintro i x ρ K hx ⟨bag', es, s7, s8, s9, rfl, f7, f8, f9, hl, ⟨hr, hok⟩, hb'⟩ fin
    have hz := (List.getElem?_eq_some_iff.mp hx).1
    rw [zip_len, List.length_drop, List.length_append, List.length_map] at hz
    simp at hz
    obtain ⟨x1, x2, g1, g2, rfl⟩ := zip_get hx
    rw [List.getElem?_drop] at g2
    rw [eN, List.getElem?_map] at g1 g2
    obtain ⟨n1, hn1, rfl⟩ := Option.map_eq_some_iff.mp g1
    obtain ⟨n2, hn2, rfl⟩ := Option.map_eq_some_iff.mp g2
    refine ⟨fr1_free f7 rfl, fr1_free (i := 8) f8 rfl, ?_⟩
    refine w_seq (w_asgE (w_binE (pv_int _ ?_)))
    refine w_take (k := k + 2) tk hb' (by omega) rfl pv_int (by decide) (by decide) fun r bag4 r0 r1 hb4 => ?_
    refine bi_add ⟨fr1_free f9 rfl, ?_⟩
    refine w_seq (w_frz rfl rfl ?_)
    refine w_seq ⟨⟨_, rfl, _, rfl⟩, ?_⟩
    refine w_tupE (wl_cons (pv_slot rfl _ (wl_cons (pv_slot rfl _ (wl_cons (pv_slot rfl _ (wl_cons (pv_slot rfl _ (wl_nil ⟨(show 4 ≤ sizeLine by decide), ?_⟩)))))))))
    refine ⟨_, rfl, rfl, ⟨Nat.zero_lt_one, .inr (.inl rfl), by rw [List.length_map]; omega⟩, ?_⟩
    refine (show K _ from fin _ ?_)
    refine ⟨bag4, es ++ [⟨n1, n2, 1 + r, 1 + r⟩], some ⟨.str n1, 0, false, false⟩, some ⟨.str n2, 0, false, false⟩, some ⟨.int (1 + r), 0, false, false⟩, ?_, .inr ⟨_, rfl⟩, .inr ⟨_, rfl⟩, .inr ⟨_, rfl⟩, by simp [hl], ⟨fun j b hb => ?_, fun b hb => (List.mem_append.mp hb).elim (hok b) fun z => by rw [List.mem_singleton.mp z]; exact ⟨by show 1 ≤ 1 + r; omega, by show 1 + r ≤ 100; omega, by show 0 ≤ 1 + r; omega, by show 1 + r ≤ 1 + r; omega⟩⟩, hb4.mono (by omega)⟩
    · rw [List.map_append]; rfl
    · by_cases hj : j < es.length
      · rw [List.getElem?_append_left hj] at hb
        exact hr j b hb
      · have hlt := (List.getElem?_eq_some_iff.mp hb).1
        rw [List.length_append, List.length_singleton] at hlt
        have ej : j = es.length := by omega
        subst ej
        simp at hb
        subst hb
        rw [hl]
        exact ⟨hn1, by rw [Nat.add_comm]; exact hn2⟩
  · rintro ρ ⟨bag', es, s7, s8, s9, rfl, f7, f8, f9, hl, ⟨hr, hok⟩, hb'⟩
    rw [zip_len, List.length_drop, List.length_append, List.length_map] at hl hb'
    have hl : es.length = ns.length := by simp at hl; omega
    have hb' : Bag (B + 60) bag' := hb'.mono (by simp; omega)
    refine w_seq (w_retE (w_tupE (wl_cons (w_fnE (wl_cons (w_fnE (wl_cons (pv_slot rfl _ (wl_nil ?_)))))))))
    rw [eM]
    refine ⟨like_mcs _, wl_nil (fi_tup (wl_cons (w_fnE (wl_cons ?_))))⟩
    refine w_mixedB (k := k + 1) tk mx hb' (by rw [List.length_map]; omega) rfl rfl (by decide) (by rw [List.length_map]; omega) (nc_bs _) fun out bag2 hp hb2 => wl_nil ?_
    obtain ⟨bs, rfl, pb⟩ := perm_of_map (g := btOf) btOf_bD hp
    refine fi_tup (wl_cons (pv_str _ (wl_nil ⟨(show 3 ≤ sizeLine by decide), [bag2], rfl, ?_⟩)))
    have bt := row_bts hok hr (by rw [List.length_append, hl]; rfl)
    have hm2 : Mcs most (ms ++ [(⟨"fill", 3 + v, []⟩ : Mc)]) (ns ++ [("fill" : Str)]) := hm.step (m := ⟨"fill", 3 + v, []⟩) ⟨⟨by show 1 ≤ 3 + v; omega, by show 3 + v ≤ 100; omega⟩, Nat.zero_le _, by simp⟩
    have pr := List.reverse_perm (ns ++ [("fill" : Str)])
    have mk : Made most ⟨(ms ++ [(⟨"fill", 3 + v, []⟩ : Mc)]).mergeSort mcLe, bs, "fill"⟩ := made_of (vs := (ns ++ [("fill" : Str)]).reverse) bt.shape (by simp) (by simp; omega) (by
      rw [pr.nodup_iff, List.nodup_append]
      refine ⟨nd, by simp, fun a ha b hb => ?_⟩
      rw [List.mem_singleton.mp hb]
      exact (ns_in a (nn a ha)).2) (fun x hx => by
      rcases List.mem_append.mp (pr.mem_iff.mp hx) with hx | hx
      · exact (ns_in x (nn x hx)).1
      · rw [List.mem_singleton.mp hx]; exact fillIn) (by rw [hm2.nms]; exact pr) (pb.trans (List.reverse_perm es).symm) (by rw [List.length_reverse]; omega) bt.ends hm2.ok (fun b hb => hok b (List.mem_reverse.mp hb))
    have := q _ bag2 mk (hb2.mono (by rw [List.length_map]; omega))
    unfold hD at this
    rw [← sort_mcs] at this
    exact this
end
end PL
end
section
set_option Elab.async false
set_option linter.all false
set_option maxRecDepth 100000
set_option maxHeartbeats 800000
/-! PG5: the maker of webs. -/
namespace PL
open L2 PySem.Spec PySem
/-- belts of a web: the first ones as in a tree, then any -/
structure Wbs (es : List Bt) (vs : List Str) : Prop where
  shape : Shape vs es
  len : vs.length ≤ es.length + 1
  ends : ∀ b ∈ es, b.s ∈ vs ∧ b.e ∈ vs
  ok : ∀ b ∈ es, BtOk b
theorem Wbs.more {es : List Bt} {vs : List Str} (h : Wbs es vs) {b : Bt} (h1 : b.s ∈ vs) (h2 : b.e ∈ vs) (ok : BtOk b) : Wbs (es ++ [b]) vs := by
  refine ⟨h.shape.more h.len, by have := h.len; simp; omega, fun c hc => ?_, fun c hc => (List.mem_append.mp hc).elim (h.ok c) fun z => by rw [List.mem_singleton.mp z]; exact ok⟩
  rcases List.mem_append.mp hc with z | z
  · exact h.ends c z
  · rw [List.mem_singleton.mp z]; exact ⟨h1, h2⟩
def wIt (so : Nat) : PL.E := (.ite (.cmp .gt (.slot 1) (.int 0)) (.call so (.cons (.lend 0) (.cons (.lst 0 (.cons (.int 0) (.cons (.int 0) (.cons (.int 1) (.cons (.int 2) (.nil)))))) (.nil)))) (.int 0))
def wBody (mi ta fi : Nat) : Sm := (.seq (.unp (.tup (.cons (.nm 15) (.cons (.nm 16) (.nil)))) (.slc (.call mi (.cons (.lend 0) (.cons (.bor 10) (.nil)))) (.nil) (.cons (.int 2) .nil))) (.seq (.asg 13 (.bin .add (.int 1) (.call ta (.cons (.lend 0) (.cons (.int 4) (.nil)))))) (.seq (.frz 13) (.seq (.append 9 (.tup (.cons (.slot 15) (.cons (.slot 16) (.cons (.slot 13) (.cons (.call fi (.cons (.lend 0) (.cons (.slot 13) (.nil)))) (.nil))))))) (.nil)))))
def wRet (mi : Nat) : Sm := (.seq (.ret (.tup (.cons (.fn .tuple (.cons (.fnS .sorted 8) (.nil))) (.cons (.fn .tuple (.cons (.call mi (.cons (.lend 0) (.cons (.bor 9) (.nil)))) (.nil))) (.cons (.slot 6) (.nil)))))) (.nil))
abbrev wE (bag names : PyData) (mach most pace : Int) (fl : Str) (ms : List Mc) (es : List Bt) (vs : List Str) (s4 s5 s11 s12 s13 s14 s15 s16 : Option PL.Slot) : PL.Env := [some ⟨bag, 2, true, false⟩, sl (.int mach), sl (.int most), sl names, s4, s5, sl (.str fl), sl (.int pace), some ⟨.list (ms.map mD), 1, false, false⟩, some ⟨.list (es.map bD), 1, false, false⟩, some ⟨.list (vs.map .str), 1, false, false⟩, s11, s12, s13, s14, s15, s16]
section
variable {T : Tab} {k B ta so mi pu fi : Nat} {bag : PyData} {Q : KF} {most : Int}
theorem first_call (tk : T.fns[ta]? = some takeI) (sm : T.fns[so]? = some (someI ta)) (hf : T.fns[fi]? = some (fi_I so ta)) {K : KE} {ρ : PL.Env} {i j : Nat} {pr : Bool} {room : Int} (hr : ρ[i]? = some (some ⟨bag, 2, pr, false⟩)) (hj : ρ[j]? = some (sl (.int room))) (hb : Bag B bag) (hB : B + 2 < 2 ^ 200) (h0 : 0 ≤ room) (h1 : room < 1000)
    (q : ∀ v bag', 0 ≤ v → v ≤ room → Bag (B + 2) bag' → K (.int v) 0 (ρ.set i (some ⟨bag', 2, pr, false⟩))) : wpE (ctx T (k + 3) noX) (.call fi (.cons (.lend i) (.cons (.slot j) .nil))) ρ K :=
  w_lend1 (by rw [sig_of hf]; rfl) hr (pv_slot hj).pn fun Q hQ => first_ok (k := k) tk sm hf hb hB h0 h1 fun v bag' g1 g2 h3 => hQ _ _ _ (q v bag' g1 g2 h3)
theorem web_ret (tk : T.fns[ta]? = some takeI) (sm : T.fns[so]? = some (someI ta)) (mx : T.fns[mi]? = some (mixedI ta)) {bag names : PyData} {mach pace : Int} {fl : Str} {ms : List Mc} {es : List Bt} {vs : List Str} {s4 s5 s11 s12 s13 s14 s15 s16 : Option PL.Slot} (hb : Bag B bag) (hB : B + 100 < 2 ^ 200) (hl : es.length ≤ 20)
    (q : ∀ bs bag', bs.Perm es → Bag (B + 20) bag' → Q (hD ⟨ms.mergeSort mcLe, bs, fl⟩) 0 [bag']) : wpS (ctx T (k + 3) noX) (wRet mi) (wE bag names mach most pace fl ms es vs s4 s5 s11 s12 s13 s14 s15 s16) (endsOf (we_I mi so ta pu fi) Q) := by
  unfold wRet
  have bg := big
  refine w_seq (w_retE (w_tupE (wl_cons (w_fnE (wl_cons ⟨_, rfl, like_mcs ms, ?_, wl_nil ?_⟩)))))
  · rw [sort_mcs]; exact nc_ms _
  refine fi_tup (wl_cons (w_fnE (wl_cons ?_)))
  refine w_mixedB (k := k + 1) tk mx hb (by rw [List.length_map]; omega) rfl rfl (by decide) (by rw [List.length_map]; omega) (nc_bs _) fun out bag2 hp hb2 => wl_nil ?_
  obtain ⟨bs, rfl, pb⟩ := perm_of_map (g := btOf) btOf_bD hp
  refine fi_tup (wl_cons (pv_slot rfl _ (wl_nil ⟨(show 3 ≤ sizeLine by decide), [bag2], rfl, ?_⟩)))
  have := q bs bag2 pb (hb2.mono (by rw [List.length_map]; omega))
  unfold hD at this
  rw [← sort_mcs] at this
  exact this
theorem web_fold (tk : T.fns[ta]? = some takeI) (sm : T.fns[so]? = some (someI ta)) (mx : T.fns[mi]? = some (mixedI ta)) (hf : T.fns[fi]? = some (fi_I so ta)) {it : PL.E} {j mach pace : Int} {bag names : PyData} {ns : List Str} {fl : Str} {ms : List Mc} {es : List Bt} {s4 s11 s12 s13 s14 : Option PL.Slot} (f13 : Fr1 s13) (he : Wbs es (fl :: ns)) (hl : es.length = ns.length) (hb : Bag B bag) (hB : B + 200 < 2 ^ 200) (npos : 0 < j → 0 < ns.length) (j0 : 0 ≤ j) (j2 : j ≤ 2) (h1 : ns.length ≤ 5) (D : KS)
    (fin : ∀ es' s5 s13 s15 s16 bag', Wbs es' (fl :: ns) → es'.length ≤ 7 → Bag (B + 40) bag' → D.nx (wE bag' names mach most pace fl ms es' (fl :: ns) s4 s5 s11 s12 s13 s14 s15 s16)) :
    forFold (fun x ρ2 k2 => lkIs (.rng it) (wE bag names mach most pace fl ms es (fl :: ns) s4 none s11 s12 s13 s14 none none) ρ2 ∧ bindT (.nm 5) x ρ2 fun ρ3 => wpS (ctx T (k + 3) noX) (wBody mi ta fi) ρ3 { nx := k2, rt := D.rt, bk := fun ρ4 => lkOut (.rng it) (wE bag names mach most pace fl ms es (fl :: ns) s4 none s11 s12 s13 s14 none none) ρ4 D.nx, ct := k2 }) (rangeD 0 j) (wE bag names mach most pace fl ms es (fl :: ns) s4 none s11 s12 s13 s14 none none) fun ρ5 => lkOut (.rng it) (wE bag names mach most pace fl ms es (fl :: ns) s4 none s11 s12 s13 s14 none none) ρ5 D.nx := by
  have bg := big
  refine fold_rng (fun i ρ => ∃ bag' es' s5 s13 s15 s16, ρ = wE bag' names mach most pace fl ms es' (fl :: ns) s4 s5 s11 s12 s13 s14 s15 s16 ∧ Fr1 s5 ∧ Fr1 s13 ∧ Fr1 s15 ∧ Fr1 s16 ∧ Wbs es' (fl :: ns) ∧ es'.length = ns.length + i ∧ Bag (B + 20 * i) bag')
    ⟨bag, es, none, s13, none, none, rfl, .inl rfl, f13, .inl rfl, .inl rfl, he, hl, hb⟩ ?_ ?_
  · rintro i x ρ K hi rfl ⟨bag', es, s5, s13, s15, s16, rfl, f5, f13, f15, f16, hw, hl, hb'⟩ fin
    have np := npos (by omega)
    refine ⟨fr1_free f5 rfl, ?_⟩
    unfold wBody
    refine w_seq (w_unp (w_slcTo ?_))
    refine w_mixedB (k := k + 1) tk mx hb' (by rw [List.length_map, List.length_cons]; omega) rfl rfl (by decide) (by rw [List.length_map, List.length_cons]; omega) (nc_strs _) fun out bag2 hp hb2 => pv_int _ ?_
    obtain ⟨l, rfl, pl⟩ := perm_of_map (g := strOf) (fun a => rfl) hp
    have hb2 : Bag (B + 20 * i + 6) bag2 := hb2.mono (by rw [List.length_map, List.length_cons]; omega)
    obtain ⟨a, b, l', rfl⟩ : ∃ a b l', l = a :: b :: l' := by
      have hll := pl.length_eq
      rw [List.length_cons] at hll
      match l, hll with
      | [], hll => rw [List.length_nil] at hll; omega
      | [_], hll => rw [List.length_singleton] at hll; omega
      | a :: b :: l', _ => exact ⟨a, b, l', rfl⟩
    have ha : a ∈ fl :: ns := pl.mem_iff.mp (by simp)
    have hb0 : b ∈ fl :: ns := pl.mem_iff.mp (by simp)
    have ec : cutD ((a :: b :: l').map PyData.str) none (some 2) = [.str a, .str b] := by rw [cutTo (by decide)]; rfl
    show bindT (.tup (.cons (.nm 15) (.cons (.nm 16) .nil))) (.list (cutD ((a :: b :: l').map PyData.str) none (some 2))) _ _
    rw [ec]
    refine ⟨fr1_free f15 rfl, fr1_free (i := 16) f16 rfl, ?_⟩
    refine w_seq (w_asgE (w_binE (pv_int _ ?_)))
    refine w_take (k := k + 2) tk hb2 (by omega) rfl pv_int (by decide) (by decide) fun r bag3 r0 r1 hb3 => ?_
    refine bi_add ⟨fr1_free f13 rfl, ?_⟩
    refine w_seq (w_frz rfl rfl ?_)
    show wpS (ctx T (k + 3) noX) _ (wE bag3 names mach most pace fl ms es (fl :: ns) s4 (sl (.int i)) s11 s12 (sl (.int (1 + r))) s14 (sl (.str a)) (sl (.str b))) _
    refine w_seq ⟨⟨_, rfl, _, rfl⟩, ?_⟩
    refine w_tupE (wl_cons (pv_slot rfl _ (wl_cons (pv_slot rfl _ (wl_cons (pv_slot rfl _ (wl_cons ?_)))))))
    refine first_call (k := k) tk sm hf rfl rfl hb3 (by omega) (by omega) (by omega) fun f bag4 f0 f1 hb4 => wl_nil ⟨(show 4 ≤ sizeLine by decide), ?_⟩
    refine ⟨_, rfl, rfl, ⟨Nat.zero_lt_one, .inr (.inl rfl), by rw [List.length_map]; omega⟩, ?_⟩
    refine (show K _ from fin _ ?_)
    refine ⟨bag4, es ++ [⟨a, b, 1 + r, f⟩], sl (.int i), sl (.int (1 + r)), sl (.str a), sl (.str b), ?_, .inr ⟨_, rfl⟩, .inr ⟨_, rfl⟩, .inr ⟨_, rfl⟩, .inr ⟨_, rfl⟩, hw.more ha hb0 ⟨by show 1 ≤ 1 + r; omega, by show 1 + r ≤ 100; omega, f0, f1⟩, by simp; omega, hb4.mono (by omega)⟩
    unfold wE
    rw [List.map_append]; rfl
  · rintro ρ ⟨bag', es, s5, s13, s15, s16, rfl, f5, f13, f15, f16, hw, hl, hb'⟩
    exact fin _ _ _ _ _ _ hw (by omega) (hb'.mono (by omega))
theorem web_rest (tk : T.fns[ta]? = some takeI) (sm : T.fns[so]? = some (someI ta)) (mx : T.fns[mi]? = some (mixedI ta)) (hf : T.fns[fi]? = some (fi_I so ta)) {mach pace : Int} {bag names : PyData} {ns : List Str} {fl : Str} {ms : List Mc} {es : List Bt} {s4 s11 s12 s13 s14 : Option PL.Slot} (f13 : Fr1 s13) (he : Wbs es (fl :: ns)) (hl : es.length = ns.length) (hb : Bag B bag) (hB : B + 500 < 2 ^ 200) (npos : 0 < mach → 0 < ns.length) (h1 : ns.length ≤ 5)
    (q : ∀ es' bs bag', Wbs es' (fl :: ns) → es'.length ≤ 7 → bs.Perm es' → Bag (B + 80) bag' → Q (hD ⟨ms.mergeSort mcLe, bs, fl⟩) 0 [bag']) :
    wpS (ctx T (k + 3) noX) (.seq (.for_ (.nm 5) (.rng (wIt so)) (wBody mi ta fi)) (wRet mi)) (wE bag names mach most pace fl ms es (fl :: ns) s4 none s11 s12 s13 s14 none none) (endsOf (we_I mi so ta pu fi) Q) := by
  have i4 : ∀ (G : PL.Ctx) (ρ : PL.Env), PvL G (.cons (.int 0) (.cons (.int 0) (.cons (.int 1) (.cons (.int 2) (.nil))))) ρ [.int 0, .int 0, .int 1, .int 2] := fun G ρ => pvl_cons pv_int (pvl_cons pv_int (pvl_cons pv_int (pvl_cons pv_int pvl_nil)))
  have end_ : ∀ es' s5 s13 s15 s16 bag', Wbs es' (fl :: ns) → es'.length ≤ 7 → Bag (B + 1 + 40) bag' → wpS (ctx T (k + 3) noX) (wRet mi) (wE bag' names mach most pace fl ms es' (fl :: ns) s4 s5 s11 s12 s13 s14 s15 s16) (endsOf (we_I mi so ta pu fi) Q) := fun es' s5 s13 s15 s16 bag' hw hl' hb' =>
    web_ret (so := so) tk sm mx hb' (by omega) (by omega) fun bs bag2 pb hb2 => q es' bs bag2 hw hl' pb (hb2.mono (by omega))
  have hb0 : Bag (B + 1) bag := hb.mono (by omega)
  refine w_seq (w_forR ?_)
  unfold wIt
  refine w_iteE2 (w_cmpE (pv_slot rfl _ (pv_int _ (ci_gt ?_))))
  cases hm : decide ((0 : Int) < mach) with
  | true =>
    have hp := npos (of_decide_eq_true hm)
    refine w_some (k := k + 1) tk sm hb (by omega) rfl (pn_lstP (i4 _ _) (show 4 ≤ sizeLine by decide)) (.inl rfl) (by simp) (show 4 ≤ sizeLine by decide) fun d bag1 hd hb1 => ?_
    obtain ⟨j, rfl, j0, j2⟩ : ∃ j : Int, d = .int j ∧ 0 ≤ j ∧ j ≤ 2 := by
      simp only [List.mem_cons, List.not_mem_nil, or_false] at hd
      rcases hd with rfl | rfl | rfl | rfl
      all_goals exact ⟨_, rfl, by decide, by decide⟩
    exact ⟨⟨by omega, by omega⟩, web_fold tk sm mx hf f13 he hl hb1 (by omega) (fun _ => hp) j0 j2 h1 { endsOf (we_I mi so ta pu fi) Q with nx := fun ρ1 => wpS (ctx T (k + 3) noX) (wRet mi) ρ1 (endsOf (we_I mi so ta pu fi) Q) } end_⟩
  | false =>
    refine pv_int _ ?_
    exact ⟨⟨by omega, by omega⟩, web_fold tk sm mx hf f13 he hl hb0 (by omega) (fun h => by omega) (by omega) (by omega) h1 { endsOf (we_I mi so ta pu fi) Q with nx := fun ρ1 => wpS (ctx T (k + 3) noX) (wRet mi) ρ1 (endsOf (we_I mi so ta pu fi) Q) } end_⟩
theorem web_made {we : Nat} {mach : Int} (tk : T.fns[ta]? = some takeI) (sm : T.fns[so]? = some (someI ta)) (mx : T.fns[mi]? = some (mixedI ta)) (hf : T.fns[fi]? = some (fi_I so ta)) (hp : T.fns[pu]? = some (pu_I so ta)) (hi : T.fns[we]? = some (we_I mi so ta pu fi)) (m0 : 0 < most) (m1 : most < 1000) (hb : Bag B bag) (hB : B + 1000 < 2 ^ 200) (h0 : 0 ≤ mach) (h1 : mach ≤ 5) (q : ∀ h bag', Made most h → Bag (B + 200) bag' → Q (hD h) 0 [bag']) : wpF T (k + 4) we [bag, .int mach, .int most] Q noX := by
  refine wpF_step hi rfl ?_
  show wpS (ctx T (k + 3) noX) (we_B mi so ta pu fi) [some ⟨bag, 2, true, false⟩, sl (.int mach), sl (.int most), none, none, none, none, none, none, none, none, none, none, none, none, none, none] (endsOf (we_I mi so ta pu fi) Q)
  unfold we_B
  have bg := big
  have fls : ∀ x ∈ [("fill" : Str), "m", "fill"], x ∈ NM ∧ x ∉ txts NS8 := by decide +kernel
  have ns_in : ∀ x ∈ txts NS8, x ∈ NM := by decide +kernel
  refine w_seq (w_asgE ?_)
  refine names_drawn (k := k + 1) tk mx (l := NS8) (by decide) (by decide +kernel) rfl (fun _ => rfl) h0 hb (by omega) fun ns bag1 nd nn nl npos hb1 => ⟨trivial, ?_⟩
  have npos : 0 < mach → 0 < ns.length := fun z => npos z (by decide)
  refine w_seq (w_frz rfl rfl ?_)
  refine w_seq (w_par (wl_cons ?_))
  refine w_some (k := k + 1) tk sm hb1 (by omega) rfl (pn_lstP (pvl_cons pv_str (pvl_cons pv_str (pvl_cons pv_str pvl_nil))) (show 3 ≤ sizeLine by decide)) (.inl rfl) (by simp) (show 3 ≤ sizeLine by decide) fun d bag2 hd hb2 => ?_
  obtain ⟨fl, hfl, rfl⟩ : ∃ fl ∈ [("fill" : Str), "m", "fill"], d = .str fl := by
    simp only [List.mem_cons, List.not_mem_nil, or_false] at hd
    rcases hd with rfl | rfl | rfl
    · exact ⟨"fill", by simp, rfl⟩
    · exact ⟨"m", by simp, rfl⟩
    · exact ⟨"fill", by simp, rfl⟩
  refine wl_cons (w_binE (pv_int _ ?_))
  refine w_take (k := k + 2) tk hb2 (by omega) rfl pv_int (by decide) (by decide) fun v bag3 v0 v1 hb3 => ?_
  refine bi_add (wl_nil ⟨⟨rfl, by decide, fun i hi => ?_⟩, ?_⟩)
  · simp only [List.mem_cons, List.not_mem_nil, or_false] at hi
    rcases hi with rfl | rfl <;> trivial
  refine w_seq (w_frz rfl rfl ?_)
  refine w_seq (w_frz rfl rfl ?_)
  refine w_seq (w_par (wl_consP (pn_lstP (pvl_cons (pv_tupP (pvl_cons (pv_slot rfl) (pvl_cons (pv_slot rfl) (pvl_cons (pv_tupP pvl_nil (Nat.zero_le _)) pvl_nil))) (show 3 ≤ sizeLine by decide)) pvl_nil) (show 1 ≤ sizeLine by decide))
    (wl_consP pn_nil (wl_consP (pn_lstP (pvl_cons (pv_slot rfl) pvl_nil) (show 1 ≤ sizeLine by decide)) (wl_nil ⟨⟨rfl, by decide, fun i hi => ?_⟩, ?_⟩)))))
  · simp only [List.mem_cons, List.not_mem_nil, or_false] at hi
    rcases hi with rfl | rfl | rfl <;> trivial
  refine w_seq (w_forL (items := ns.map .str) (pv_slot rfl).pn (.inl rfl) (fun i ρ => ∃ bag' ms es s4 s11 s12 s13 s14, ρ = [some ⟨bag', 2, true, false⟩, sl (.int mach), sl (.int most), sl (.list (ns.map .str)), s4, none, sl (.str fl), sl (.int (2 + v)), some ⟨.list (ms.map mD), 1, false, false⟩, some ⟨.list (es.map bD), 1, false, false⟩, some ⟨.list ((fl :: ns.take i).map .str), 1, false, false⟩, s11, s12, s13, s14, none, none] ∧
      Fr1 s4 ∧ Fr1 s11 ∧ Fr1 s12 ∧ Fr1 s13 ∧ Fr1 s14 ∧ Mcs most ms (fl :: ns.take i) ∧ Bts es (fl :: ns.take i) ∧ Bag (B + 10 + 20 * i) bag')
    ⟨bag3, [⟨fl, 2 + v, []⟩], [], none, none, none, none, none, rfl, .inl rfl, .inl rfl, .inl rfl, .inl rfl, .inl rfl, ⟨rfl, fun m hm => by rw [List.mem_singleton.mp hm]; exact ⟨⟨by show 1 ≤ 2 + v; omega, by show 2 + v ≤ 100; omega⟩, Nat.zero_le _, by simp⟩⟩, ⟨shape_one, rfl, by simp, by simp⟩, hb3.mono (by omega)⟩ ?_ ?_)
  · rintro i x ρ K hx ⟨bag', ms, es, s4, s11, s12, s13, s14, rfl, f4, f11, f12, f13, f14, hm, he, hb'⟩ fin
    rw [List.getElem?_map] at hx
    obtain ⟨n, hn, rfl⟩ := Option.map_eq_some_iff.mp hx
    have hi : i < ns.length := (List.getElem?_eq_some_iff.mp hn).1
    have et : ns.take (i + 1) = ns.take i ++ [n] := by rw [List.take_add_one, hn]; rfl
    have lm : ms.length = i + 1 := by
      have := congrArg List.length hm.nms
      rw [List.length_map, List.length_cons, List.length_take] at this
      omega
    have le : es.length = i := by
      have := he.len
      rw [List.length_cons, List.length_take] at this
      omega
    refine ⟨fr1_free f4 rfl, ?_⟩
    refine w_seq (w_asgE (w_binE (pv_int _ ?_)))
    show wpA (ctx T (k + 3) noX) (.cons (.lend 0) (.cons (.bin .add (.slot 7) (.fn .int (.cons (.cmp .eq (.call ta (.cons (.lend 0) (.cons (.int 6) (.nil)))) (.int 0)) (.nil)))) .nil)) _ _
    refine ⟨_, rfl, wa_bin (w_binE (pv_slot rfl _ (w_fnE (wl_cons (w_cmpE ?_)))))⟩
    refine w_take (k := k + 2) tk hb' (by omega) rfl pv_int (by decide) (by decide) fun z bag3 z0 z1 hb3 => ?_
    refine pv_int _ (i_eqI (wl_nil (fi_intB (bi_add ?_))))
    obtain ⟨c, hc, c0, c1⟩ : ∃ c : Int, (if decide (z = 0) = true then (1 : Int) else 0) = c ∧ 0 ≤ c ∧ c ≤ 1 := by
      split
      · exact ⟨1, rfl, by decide, by decide⟩
      · exact ⟨0, rfl, by decide, by decide⟩
    rw [hc]
    refine ⟨[bag3, .int (2 + v + c)], rfl, sg_take tk, ⟨Nat.le_refl 1, fun j _ => by simp [bors]⟩, ?_⟩
    have lg : (2 + v + c).natAbs.log2 < 9000 := by
      have := log_lt (i := 2 + v + c) (n := 60) (by omega) (by
        have : (2000 : Int) < ((2 ^ 60 : Nat) : Int) := by decide
        omega)
      omega
    refine take_ok (k := k + 2) tk hb3 (by omega) (by omega) lg fun t bag4 t0 t1 hb4 => ⟨.inl rfl, ?_⟩
    refine bi_add ⟨fr1_free f11 rfl, ?_⟩
    refine w_seq (w_frz rfl rfl ?_)
    refine w_seq ⟨⟨_, rfl, _, rfl⟩, ?_⟩
    refine w_tupE (wl_cons (pv_slot rfl _ (wl_cons (pv_slot rfl _ (wl_cons ?_)))))
    refine purses_call (k := k) tk sm hp m0 m1 rfl rfl hb4 (by omega) fun ps bag5 ps1 ps2 hb5 => ?_
    refine wl_nil ⟨(show 3 ≤ sizeLine by decide), ?_⟩
    refine ⟨_, rfl, rfl, ⟨Nat.zero_lt_one, .inr (.inl rfl), by rw [List.length_map]; omega⟩, ?_⟩
    refine w_seq (w_par (wl_cons (w_binE (pv_int _ ?_))))
    refine w_take (k := k + 2) tk hb5 (by omega) rfl pv_int (by decide) (by decide) fun r bag6 r0 r1 hb6 => ?_
    refine bi_add (wl_cons ?_)
    refine w_someB (k := k + 1) tk sm hb6 (by omega) rfl rfl (by decide) (by simp) (by rw [List.length_map, List.length_cons, List.length_take]; omega) (nc_strs _) fun d bag7 hd hb7 => ?_
    obtain ⟨o, ho, rfl⟩ := List.mem_map.mp hd
    refine wl_nil ⟨⟨rfl, by decide, fun i hi => ?_⟩, ?_⟩
    · simp only [List.mem_cons, List.not_mem_nil, or_false] at hi
      rcases hi with rfl | rfl
      · exact fr1_free f13 rfl
      · exact fr1_free f14 rfl
    refine w_seq (w_frz rfl rfl ?_)
    refine w_seq (w_frz rfl rfl ?_)
    refine w_seq (w_asgE ?_)
    refine first_call (k := k) tk sm hf rfl rfl hb7 (by omega) (by omega) (by omega) fun f bag8 g0 g1 hb8 => ⟨fr1_free f12 rfl, ?_⟩
    refine w_seq (w_frz rfl rfl ?_)
    show wpS (ctx T (k + 3) noX) _ [some ⟨bag8, 2, true, false⟩, sl (.int mach), sl (.int most), sl (.list (ns.map .str)), sl (.str n), none, sl (.str fl), sl (.int (2 + v)), some ⟨.list (ms.map mD ++ [mD ⟨n, 1 + t, ps⟩]), 1, false, false⟩, some ⟨.list (es.map bD), 1, false, false⟩, some ⟨.list ((fl :: ns.take i).map .str), 1, false, false⟩, sl (.int (1 + t)), sl (.int f), sl (.int (1 + r)), sl (.str o), none, none] _
    refine w_seq ⟨⟨_, rfl, _, rfl⟩, ?_⟩
    refine w_iteE2 (w_cmpE ?_)
    refine w_take (k := k + 2) tk hb8 (by omega) rfl pv_int (by decide) (by decide) fun w bag9 w0 w1 hb9 => ?_
    refine pv_int _ (ci_gt ?_)
    have done : ∀ b : Bt, ((b.s = n ∧ b.e = o) ∨ (b.s = o ∧ b.e = n)) → BtOk b → K [some ⟨bag9, 2, true, false⟩, sl (.int mach), sl (.int most), sl (.list (ns.map .str)), sl (.str n), none, sl (.str fl), sl (.int (2 + v)), some ⟨.list (ms.map mD ++ [mD ⟨n, 1 + t, ps⟩]), 1, false, false⟩, some ⟨.list (es.map bD ++ [bD b]), 1, false, false⟩, some ⟨.list ((fl :: ns.take i).map .str ++ [.str n]), 1, false, false⟩, sl (.int (1 + t)), sl (.int f), sl (.int (1 + r)), sl (.str o), none, none] := fun b hbb okb => by
      refine fin _ ⟨bag9, ms ++ [⟨n, 1 + t, ps⟩], es ++ [b], sl (.str n), sl (.int (1 + t)), sl (.int f), sl (.int (1 + r)), sl (.str o), ?_, .inr ⟨_, rfl⟩, .inr ⟨_, rfl⟩, .inr ⟨_, rfl⟩, .inr ⟨_, rfl⟩, .inr ⟨_, rfl⟩, ?_, ?_, hb9.mono (by omega)⟩
      · rw [List.map_append, List.map_append, et]
        have : (fl :: (ns.take i ++ [n])).map PyData.str = (fl :: ns.take i).map PyData.str ++ [.str n] := by simp
        rw [this]; rfl
      · rw [et]
        exact hm.step (m := ⟨n, 1 + t, ps⟩) ⟨⟨by show 1 ≤ 1 + t; omega, by show 1 + t ≤ 100; omega⟩, ps1, ps2⟩
      · rw [et]
        exact he.step (x := n) ho hbb okb
    cases decide ((0 : Int) < w) with
    | true =>
      refine w_tupE (wl_cons (pv_slot rfl _ (wl_cons (pv_slot rfl _ (wl_cons (pv_slot rfl _ (wl_cons (pv_slot rfl _ (wl_nil ⟨(show 4 ≤ sizeLine by decide), ?_⟩)))))))))
      refine ⟨_, rfl, rfl, ⟨Nat.zero_lt_one, .inr (.inl rfl), by rw [List.length_map]; omega⟩, ?_⟩
      refine w_seq ⟨⟨_, rfl, _, rfl⟩, pv_slot rfl _ ?_⟩
      refine ⟨_, rfl, rfl, ⟨Nat.zero_lt_one, .inr (.inl rfl), by rw [List.length_map, List.length_cons, List.length_take]; omega⟩, ?_⟩
      exact done ⟨n, o, 1 + r, f⟩ (.inl ⟨rfl, rfl⟩) ⟨by show 1 ≤ 1 + r; omega, by show 1 + r ≤ 100; omega, g0, g1⟩
    | false =>
      refine w_tupE (wl_cons (pv_slot rfl _ (wl_cons (pv_slot rfl _ (wl_cons (pv_slot rfl _ (wl_cons (pv_slot rfl _ (wl_nil ⟨(show 4 ≤ sizeLine by decide), ?_⟩)))))))))
      refine ⟨_, rfl, rfl, ⟨Nat.zero_lt_one, .inr (.inl rfl), by rw [List.length_map]; omega⟩, ?_⟩
      refine w_seq ⟨⟨_, rfl, _, rfl⟩, pv_slot rfl _ ?_⟩
      refine ⟨_, rfl, rfl, ⟨Nat.zero_lt_one, .inr (.inl rfl), by rw [List.length_map, List.length_cons, List.length_take]; omega⟩, ?_⟩
      exact done ⟨o, n, 1 + r, f⟩ (.inr ⟨rfl, rfl⟩) ⟨by show 1 ≤ 1 + r; omega, by show 1 + r ≤ 100; omega, g0, g1⟩
  rintro ρ ⟨bag', ms, es, s4, s11, s12, s13, s14, rfl, f4, f11, f12, f13, f14, hm, he, hb'⟩
  rw [List.length_map, List.take_length] at hm he ⊢
  rw [List.length_map] at hb'
  have le : es.length = ns.length := by
    have := he.len
    rw [List.length_cons] at this
    omega
  have hb' : Bag (B + 110) bag' := hb'.mono (by omega)
  refine web_rest (k := k) (Q := Q) (pace := 2 + v) tk sm mx hf f13 ⟨he.shape, by rw [he.len]; exact Nat.le_refl _, he.ends, he.ok⟩ le hb' (by omega) npos (by omega) fun es' bs bag2 hw hl pb hb2 => q _ bag2 ?_ (hb2.mono (by omega))
  exact made_of (vs := fl :: ns) hw.shape rfl (by rw [List.length_cons]; omega) (by rw [List.nodup_cons]; exact ⟨fun z => (fls fl hfl).2 (nn fl z), nd⟩) (fun x hx => by
    rcases List.mem_cons.mp hx with rfl | hx
    · exact (fls _ hfl).1
    · exact ns_in x (nn x hx)) (by rw [hm.nms]) pb (by omega) hw.ends hm.ok hw.ok
end
end PL
end
section
set_option Elab.async false
set_option linter.all false
set_option maxRecDepth 100000
set_option maxHeartbeats 800000
/-! PG6: names, arcs, live halls. -/
namespace PL
open L2 PySem.Spec PySem
inductive Arc | next (n : Str) | down (j : Nat) | up (j : Nat) deriving DecidableEq
def aD : Arc → PyData
  | .next n => .tuple [.str "next", .str n]
  | .down j => .tuple [.str "down", .int j]
  | .up j => .tuple [.str "up", .int j]
abbrev ARow := Arc × Str × Int
def rowD (r : ARow) : PyData := .tuple [aD r.1, .str r.2.1, .int r.2.2]
def downs (n : Str) : Nat → List Bt → List ARow
  | _, [] => []
  | j, b :: r => if b.s = n then (.down j, b.e, b.first) :: downs n (j + 1) r else downs n (j + 1) r
def ups (n : Str) : Nat → List Bt → List ARow
  | _, [] => []
  | j, b :: r => if b.e = n then (.up j, b.s, b.room - b.first) :: ups n (j + 1) r else ups n (j + 1) r
def arcs (h : Hall) (n : Str) : List ARow := (.next n, n, 1) :: downs n 0 h.bs ++ ups n 0 h.bs
theorem downs_len (n : Str) : ∀ (bs : List Bt) (j : Nat), (downs n j bs).length ≤ bs.length
  | [], _ => Nat.le_refl _
  | b :: r, j => by
    have := downs_len n r (j + 1)
    unfold downs
    split <;> simp <;> omega
theorem ups_len (n : Str) : ∀ (bs : List Bt) (j : Nat), (ups n j bs).length ≤ bs.length
  | [], _ => Nat.le_refl _
  | b :: r, j => by
    have := ups_len n r (j + 1)
    unfold ups
    split <;> simp <;> omega
theorem arcs_len (h : Hall) (n : Str) : (arcs h n).length ≤ 1 + 2 * h.bs.length := by
  have h1 := downs_len n h.bs 0
  have h2 := ups_len n h.bs 0
  unfold arcs
  rw [List.cons_append, List.length_cons, List.length_append]
  omega
def atS (i : Nat) : PyData → Str
  | .tuple [_, .tuple ds] => match ds[i]? with | some (.str s) => s | _ => ""
  | _ => ""
def gDown : PyData → PyData
  | .tuple [.int j, .tuple [.str _, .str e, .int _, .int f]] => .tuple [.tuple [.str "down", .int j], .str e, .int f]
  | _ => .none
def gUp : PyData → PyData
  | .tuple [.int j, .tuple [.str s, .str _, .int r, .int f]] => .tuple [.tuple [.str "up", .int j], .str s, .int (r - f)]
  | _ => .none
theorem enum_mem : ∀ {bs : List Bt} {j : Int} {x : PyData}, x ∈ enumD j (bs.map bD) → ∃ (i : Int) (b : Bt), b ∈ bs ∧ x = .tuple [.int i, bD b]
  | [], _, _, h => by cases h
  | b :: r, j, x, h => by
    have h : x ∈ PyData.tuple [.int j, bD b] :: enumD (j + 1) (r.map bD) := h
    rcases List.mem_cons.mp h with rfl | h
    · exact ⟨j, b, List.mem_cons_self, rfl⟩
    · obtain ⟨i, b', h1, h2⟩ := enum_mem h
      exact ⟨i, b', List.mem_cons_of_mem _ h1, h2⟩
theorem enumD_len : ∀ {ds : List PyData} {j : Int}, (enumD j ds).length = ds.length
  | [], _ => rfl
  | d :: ds, j => by show (enumD (j + 1) ds).length + 1 = _; rw [enumD_len]; rfl
theorem downs_map (n : Str) : ∀ (bs : List Bt) (j : Nat), ((enumD (j : Int) (bs.map bD)).filter fun x => decide (atS 0 x = n)).map gDown = (downs n j bs).map rowD
  | [], _ => rfl
  | b :: r, j => by
    show ((PyData.tuple [.int j, bD b] :: enumD ((j : Int) + 1) (r.map bD)).filter _).map gDown = _
    have e : ((j : Int) + 1) = ((j + 1 : Nat) : Int) := by omega
    have ih := downs_map n r (j + 1)
    rw [e, List.filter_cons]
    have a : atS 0 (PyData.tuple [.int j, bD b]) = b.s := rfl
    rw [a]
    unfold downs
    by_cases z : b.s = n
    · rw [if_pos (by simpa using z), if_pos z, List.map_cons, List.map_cons, ih]; rfl
    · rw [if_neg (by simpa using z), if_neg z, ih]
theorem ups_map (n : Str) : ∀ (bs : List Bt) (j : Nat), ((enumD (j : Int) (bs.map bD)).filter fun x => decide (atS 1 x = n)).map gUp = (ups n j bs).map rowD
  | [], _ => rfl
  | b :: r, j => by
    show ((PyData.tuple [.int j, bD b] :: enumD ((j : Int) + 1) (r.map bD)).filter _).map gUp = _
    have e : ((j : Int) + 1) = ((j + 1 : Nat) : Int) := by omega
    have ih := ups_map n r (j + 1)
    rw [e, List.filter_cons]
    have a : atS 1 (PyData.tuple [.int j, bD b]) = b.e := rfl
    rw [a]
    unfold ups
    by_cases z : b.e = n
    · rw [if_pos (by simpa using z), if_pos z, List.map_cons, List.map_cons, ih]; rfl
    · rw [if_neg (by simpa using z), if_neg z, ih]
/-- few machines, few belts -/
structure Few (h : Hall) : Prop where
  ms : h.ms.length ≤ 20
  bs : h.bs.length ≤ 20
theorem Made.fewB {most : Int} {h : Hall} (M : Made most h) : Few h := ⟨by have := M.few; omega, M.bs⟩
def nmD : PyData → PyData | .tuple (x :: _) => x | _ => .none
theorem nmD_map (ms : List Mc) : (ms.map mD).map nmD = ms.map fun m => .str m.nm := by rw [List.map_map]; rfl
section
variable {T : Tab} {k na ar lv pna : Nat} {h : Hall} {Q : KF} {n : Str}
theorem names_law (hi : T.fns[na]? = some na_I) (s : Few h) (q : Q (.list ((h.ms.map Mc.nm).map .str)) 1 []) : wpF T (k + 1) na [hD h] Q noX := by
  refine wpF_step hi rfl ?_
  show wpS (ctx T k noX) na_B [sl (hD h), none] (endsOf na_I Q)
  unfold na_B
  have bg := big
  have hs := s.ms
  refine w_seq (w_retE (w_lcA (items := h.ms.map mD) rfl (wi_t (pv_idxT (pv_slot rfl) pv_int at0).pn) (by rw [List.length_map]; omega) nmD (fun x => [sl (hD h), sl x]) rfl (vs1 trivial) (fun x hx K hK => ⟨trivial, hK⟩) (fun x hx => ?_) (fun x hx => ⟨vs1 rfl, rfl⟩) ⟨[], rfl, ?_⟩))
  · obtain ⟨m, _, rfl⟩ := List.mem_map.mp hx
    exact pv_idxT (pv_slot rfl) pv_int at0
  · rw [nmD_map]; rw [List.map_map] at q; exact q
theorem names_prog (hi : T.fns[pna]? = some pna_I) (s : Few h) (q : Q (.tuple ((h.ms.map Mc.nm).map .str)) 0 []) : wpF T (k + 1) pna [hD h] Q noX := by
  refine wpF_step hi rfl ?_
  show wpS (ctx T k noX) pna_B [sl (hD h), none] (endsOf pna_I Q)
  unfold pna_B
  have bg := big
  have hs := s.ms
  refine w_seq (w_retE (w_fnE (wl_cons (w_lcA (items := h.ms.map mD) rfl (wi_t (pv_idxT (pv_slot rfl) pv_int at0).pn) (by rw [List.length_map]; omega) nmD (fun x => [sl (hD h), sl x]) rfl (vs1 trivial) (fun x hx K hK => ⟨trivial, hK⟩) (fun x hx => ?_) (fun x hx => ⟨vs1 rfl, rfl⟩) (wl_nil (fi_tup ⟨[], rfl, ?_⟩))))))
  · obtain ⟨m, _, rfl⟩ := List.mem_map.mp hx
    exact pv_idxT (pv_slot rfl) pv_int at0
  · rw [nmD_map]; rw [List.map_map] at q; exact q
theorem vs2 {ρ : PL.Env} {i j : Nat} (h1 : free i ρ) (h2 : free j ρ) : okForget [i, j] ρ := fun x hx => by
  simp only [List.mem_cons, List.not_mem_nil, or_false] at hx
  rcases hx with rfl | rfl
  · exact h1
  · exact h2
theorem vs3 {ρ : PL.Env} {i j l : Nat} (h1 : free i ρ) (h2 : free j ρ) (h3 : free l ρ) : okForget [i, j, l] ρ := fun x hx => by
  simp only [List.mem_cons, List.not_mem_nil, or_false] at hx
  rcases hx with rfl | rfl | rfl
  · exact h1
  · exact h2
  · exact h3
def en2 : PyData → PyData × PyData | .tuple [a, b] => (a, b) | _ => (.none, .none)
theorem arcs_law (hi : T.fns[ar]? = some ar_I) (s : Few h) (q : Q (.list ((arcs h n).map rowD)) 1 []) : wpF T (k + 1) ar [hD h, .str n] Q noX := by
  refine wpF_step hi rfl ?_
  show wpS (ctx T k noX) ar_B [sl (hD h), sl (.str n), none, none, none] (endsOf ar_I Q)
  unfold ar_B
  have bg := big
  have hs := s.bs
  have l1 := downs_len n h.bs 0
  have l2 := ups_len n h.bs 0
  refine w_seq (w_asg (pn_lstP (pvl_cons (pv_tupP (pvl_cons (pv_tupP (pvl_cons pv_str (pvl_cons (pv_slot rfl) pvl_nil)) (show 2 ≤ sizeLine by decide)) (pvl_cons (pv_slot rfl) (pvl_cons pv_int pvl_nil))) (show 3 ≤ sizeLine by decide)) pvl_nil) (show 1 ≤ sizeLine by decide)) ⟨trivial, ?_⟩)
  refine w_seq (w_ext (n := 1) (ds := [rowD (.next n, n, 1)]) (es := (downs n 0 h.bs).map rowD) rfl (by rw [List.length_map]; show 1 + _ ≤ _; omega) (fun K hK => ?_) ?_)
  · refine w_lcG (items := enumD 0 (h.bs.map bD)) rfl (wi_enmT (pv_idxT (pv_slot rfl) pv_int at1).pn) (by rw [enumD_len, List.length_map]; omega) (fun x => decide (atS 0 x = n)) gDown (fun x => [sl (hD h), sl (.str n), some ⟨.list [rowD (.next n, n, 1)], 1, false, false⟩, sl (en2 x).1, sl (en2 x).2]) rfl (vs2 trivial trivial) (fun x hx K hK => ?_) (fun x hx => ?_) (fun x hx _ => ?_) (fun x hx => ⟨vs2 rfl rfl, rfl⟩) ?_
    · obtain ⟨i, b, _, rfl⟩ := enum_mem hx
      exact ⟨trivial, trivial, hK⟩
    · obtain ⟨i, b, _, rfl⟩ := enum_mem hx
      exact wc_one (pv_eqS (pv_idxT (pv_slot rfl) pv_int at0) (pv_slot rfl))
    · obtain ⟨i, b, _, rfl⟩ := enum_mem hx
      exact pv_tupP (pvl_cons (pv_tupP (pvl_cons pv_str (pvl_cons (pv_slot rfl) pvl_nil)) (show 2 ≤ sizeLine by decide)) (pvl_cons (pv_idxT (pv_slot rfl) pv_int at1) (pvl_cons (pv_idxT (pv_slot rfl) pv_int at3) pvl_nil))) (show 3 ≤ sizeLine by decide)
    · have e := downs_map n h.bs 0
      rw [show ((0 : Nat) : Int) = 0 from rfl] at e
      rw [e]; exact hK
  refine w_seq (w_frz rfl rfl ?_)
  refine w_seq (w_retE (w_binE (pv_slot (x := .list (rowD (.next n, n, 1) :: (downs n 0 h.bs).map rowD)) rfl _ ?_)))
  refine w_lcG (items := enumD 0 (h.bs.map bD)) rfl (wi_enmT (pv_idxT (pv_slot rfl) pv_int at1).pn) (by rw [enumD_len, List.length_map]; omega) (fun x => decide (atS 1 x = n)) gUp (fun x => [sl (hD h), sl (.str n), sl (.list (rowD (.next n, n, 1) :: (downs n 0 h.bs).map rowD)), sl (en2 x).1, sl (en2 x).2]) rfl (vs2 trivial trivial) (fun x hx K hK => ?_) (fun x hx => ?_) (fun x hx _ => ?_) (fun x hx => ⟨vs2 rfl rfl, rfl⟩) ?_
  · obtain ⟨i, b, _, rfl⟩ := enum_mem hx
    exact ⟨trivial, trivial, hK⟩
  · obtain ⟨i, b, _, rfl⟩ := enum_mem hx
    exact wc_one (pv_eqS (pv_idxT (pv_slot rfl) pv_int at1) (pv_slot rfl))
  · obtain ⟨i, b, _, rfl⟩ := enum_mem hx
    exact pv_tupP (pvl_cons (pv_tupP (pvl_cons pv_str (pvl_cons (pv_slot rfl) pvl_nil)) (show 2 ≤ sizeLine by decide)) (pvl_cons (pv_idxT (pv_slot rfl) pv_int at0) (pvl_cons (pv_subI (pv_idxT (pv_slot rfl) pv_int at2) (pv_idxT (pv_slot rfl) pv_int at3)) pvl_nil))) (show 3 ≤ sizeLine by decide)
  · have e := ups_map n h.bs 0
    rw [show ((0 : Nat) : Int) = 0 from rfl] at e
    rw [e]
    refine bi_cat (by rw [List.length_cons, List.length_map, List.length_map]; omega) ⟨[], rfl, ?_⟩
    unfold arcs at q
    rw [List.map_append, List.map_cons] at q
    exact q
end
end PL
end
section
set_option Elab.async false
set_option linter.all false
set_option maxRecDepth 100000
set_option maxHeartbeats 800000
/-! PG7: live halls, and halls made live. -/
namespace PL
open L2 PySem.Spec PySem
/-- where the arcs without growth lead from these -/
def leds (h : Hall) (l : List Str) : List Str := l.flatMap fun n => ((arcs h n).filter fun r => decide (r.2.2 = 0)).map fun r => r.2.1
def liveStep (h : Hall) (l : List Str) : List Str := l.filter fun n => decide (n ∈ leds h l)
def liveN (h : Hall) : Nat → List Str
  | 0 => h.ms.map Mc.nm
  | i + 1 => liveStep h (liveN h i)
def liveOf (h : Hall) : Bool := (liveN h h.ms.length).isEmpty
theorem liveN_len (h : Hall) : ∀ i, (liveN h i).length ≤ h.ms.length
  | 0 => by unfold liveN; rw [List.length_map]; exact Nat.le_refl _
  | i + 1 => Nat.le_trans (List.length_filter_le _ _) (liveN_len h i)
theorem leds_len {h : Hall} (s : Few h) : ∀ l : List Str, (leds h l).length ≤ 41 * l.length
  | [] => Nat.le_refl _
  | n :: l => by
    have h1 := leds_len s l
    have h2 := arcs_len h n
    have h3 := s.bs
    unfold leds at h1 ⊢
    rw [List.flatMap_cons, List.length_append, List.length_map, List.length_cons]
    have h4 := List.length_filter_le (fun r : ARow => decide (r.2.2 = 0)) (arcs h n)
    omega
def g0 : PyData → Int | .tuple [_, _, .int g] => g | _ => 1
def e0 : PyData → PyData | .tuple [_, e, _] => e | _ => .none
def in3 : PyData → PyData × PyData × PyData | .tuple [a, b, c] => (a, b, c) | _ => (.none, .none, .none)
theorem leds_row (h : Hall) (n : Str) : (((arcs h n).map rowD).filter fun x => decide (g0 x = 0)).map e0 = (((arcs h n).filter fun r => decide (r.2.2 = 0)).map fun r => r.2.1).map .str := by
  rw [List.filter_map, List.map_map, List.map_map]; rfl
theorem leds_take {h : Hall} {l : List Str} {i : Nat} {n : Str} (e : l[i]? = some n) : leds h (l.take (i + 1)) = leds h (l.take i) ++ ((arcs h n).filter fun r => decide (r.2.2 = 0)).map fun r => r.2.1 := by
  have : l.take (i + 1) = l.take i ++ [n] := by rw [List.take_add_one, e]; rfl
  rw [this]
  unfold leds
  rw [List.flatMap_append]
  simp
theorem any_in (l : List Str) (n : Str) : ((l.map PyData.str).any fun d => PyData.eqv d (.str n)) = decide (n ∈ l) := by
  induction l with
  | nil => rfl
  | cons a l ih =>
    rw [List.map_cons, List.any_cons, ih, eqv_str]
    by_cases z : a = n
    · simp [z]
    · have z2 : n ≠ a := fun e => z e.symm
      simp [z, z2]
theorem plain_strs : ∀ l : List Str, PyData.plainAll (l.map .str) = true
  | [] => rfl
  | a :: l => by rw [List.map_cons, PyData.plainAll, plain_strs l]; rfl
section
variable {T : Tab} {k na ar lv we ha B : Nat} {h : Hall} {Q : KF} {n : Str} {G : PL.Ctx} {ρ : PL.Env} {i m : Nat} {a : PL.E}
theorem pv_inS {l : List Str} {pr lk : Bool} (ha : Pv G a ρ (.str n)) (hs : ρ[i]? = some (some ⟨.list (l.map .str), m, pr, lk⟩)) : Pv G (.cmpS .inn a i) ρ (.bool (decide (n ∈ l))) := fun K q => ha _ ⟨_, hs, ⟨plain_strs l, rfl, (by show min 0 _ ≤ dLow; rw [Nat.zero_min]; exact Nat.zero_le _)⟩, by rw [any_in]; exact q⟩
theorem live_law (hi : T.fns[lv]? = some (lv_I na ar)) (hn : T.fns[na]? = some na_I) (hr : T.fns[ar]? = some ar_I) (s : Few h) (q : Q (.bool (liveOf h)) 0 []) : wpF T (k + 2) lv [hD h] Q noX := by
  refine wpF_step hi rfl ?_
  show wpS (ctx T (k + 1) noX) (lv_B na ar) [sl (hD h), none, none, none, none, none, none, none] (endsOf (lv_I na ar) Q)
  unfold lv_B
  have bg := big
  have hm := s.ms
  have ls : ∀ i, (liveN h i).length ≤ 20 := fun i => Nat.le_trans (liveN_len h i) hm
  refine w_seq (w_asg (pn_call1 (y := .list ((h.ms.map Mc.nm).map .str)) (n := 1) (pv_slot rfl) (by rw [sig_of hn]; rfl) fun Q q => names_law hn s q) ⟨trivial, ?_⟩)
  refine w_seq (w_frz rfl rfl ?_)
  show wpS (ctx T (k + 1) noX) _ [sl (hD h), sl (.list ((liveN h 0).map .str)), none, none, none, none, none, none] (endsOf (lv_I na ar) Q)
  refine w_seq (w_forR ?_)
  refine pv_lenL (pv_slot (x := .list ((liveN h 0).map .str)) rfl).pn _ ?_
  have len0 : ((liveN h 0).map PyData.str).length = h.ms.length := by rw [List.length_map]; unfold liveN; rw [List.length_map]
  rw [len0]
  refine ⟨⟨by omega, by omega⟩, ?_⟩
  refine fold_rng (fun i ρ => ∃ s2 s3 s4, ρ = [sl (hD h), sl (.list ((liveN h i).map .str)), s2, s3, s4, none, none, none] ∧ Fr1 s2 ∧ (s3 = none ∨ ∃ d, s3 = some ⟨d, 1, false, false⟩) ∧ Fr1 s4) ⟨none, none, none, rfl, .inl rfl, .inl rfl, .inl rfl⟩ ?_ ?_
  · rintro i x ρ K hi' rfl ⟨s2, s3, s4, rfl, f2, f3, f4⟩ fin
    refine ⟨fr1_free f2 rfl, ?_⟩
    refine w_seq (w_asg pn_nil ⟨?_, ?_⟩)
    · rcases f3 with rfl | ⟨d, rfl⟩
      · trivial
      · rfl
    refine w_seq (w_forL (items := (liveN h i).map .str) (pv_slot rfl).pn (.inl rfl) (fun j ρ => ∃ s4, ρ = [sl (hD h), sl (.list ((liveN h i).map .str)), sl (.int i), some ⟨.list ((leds h ((liveN h i).take j)).map .str), 1, false, false⟩, s4, none, none, none] ∧ Fr1 s4) ⟨s4, rfl, f4⟩ ?_ ?_)
    · rintro j x ρ K2 hx ⟨s4, rfl, f4⟩ fin2
      rw [List.getElem?_map] at hx
      obtain ⟨n, hn', rfl⟩ := Option.map_eq_some_iff.mp hx
      refine ⟨fr1_free f4 rfl, ?_⟩
      have ll := leds_len s ((liveN h i).take (j + 1))
      have lt := ls i
      rw [leds_take hn', List.length_append] at ll
      rw [List.length_take] at ll
      refine w_seq (w_ext (n := 1) (es := (((arcs h n).filter fun r => decide (r.2.2 = 0)).map fun r => r.2.1).map .str) rfl (by rw [List.length_map, List.length_map]; omega) (fun K hK => ?_) ?_)
      · have al := arcs_len h n
        have hb := s.bs
        refine w_lcG (items := (arcs h n).map rowD) rfl (wi_l (pn_call2 (y := .list ((arcs h n).map rowD)) (n := 1) (pv_slot rfl) (pv_slot rfl) (by rw [sig_of hr]; rfl) fun Q q => arcs_law hr s q)) (by rw [List.length_map]; omega) (fun x => decide (g0 x = 0)) e0 (fun x => [sl (hD h), sl (.list ((liveN h i).map .str)), sl (.int i), some ⟨.list ((leds h ((liveN h i).take j)).map .str), 1, false, false⟩, sl (.str n), sl (in3 x).1, sl (in3 x).2.1, sl (in3 x).2.2]) rfl (vs3 trivial trivial trivial) (fun x hx K hK => ?_) (fun x hx => ?_) (fun x hx _ => ?_) (fun x hx => ⟨vs3 rfl rfl rfl, rfl⟩) ?_
        · obtain ⟨r, _, rfl⟩ := List.mem_map.mp hx
          exact ⟨trivial, trivial, trivial, hK⟩
        · obtain ⟨r, _, rfl⟩ := List.mem_map.mp hx
          exact wc_one (pv_eqI (pv_slot rfl) pv_int)
        · obtain ⟨r, _, rfl⟩ := List.mem_map.mp hx
          exact pv_slot rfl
        · rw [leds_row]; exact hK
      · refine (show K2 _ from fin2 _ ⟨sl (.str n), ?_, .inr ⟨_, rfl⟩⟩)
        rw [leds_take hn', List.map_append]; rfl
    · rintro ρ ⟨s4, rfl, f4⟩
      rw [List.length_map, List.take_length]
      refine w_seq (w_asgE ?_)
      refine w_lcG (items := (liveN h i).map .str) rfl (wi_l (pv_slot rfl).pn) (by rw [List.length_map]; have := ls i; omega) (fun x => match x with | .str n => decide (n ∈ leds h (liveN h i)) | _ => false) id (fun x => [sl (hD h), sl (.list ((liveN h i).map .str)), sl (.int i), some ⟨.list ((leds h (liveN h i)).map .str), 1, false, false⟩, sl x, none, none, none]) rfl (vs1 (fr1_free f4 rfl)) (fun x hx K hK => ⟨trivial, hK⟩) (fun x hx => ?_) (fun x hx _ => pv_slot rfl) (fun x hx => ⟨vs1 rfl, rfl⟩) ?_
      · obtain ⟨n, _, rfl⟩ := List.mem_map.mp hx
        exact wc_one (pv_inS (pv_slot rfl) rfl)
      · refine ⟨rfl, ?_⟩
        refine w_seq (w_frz rfl rfl ?_)
        refine (show K _ from fin _ ⟨sl (.int i), some ⟨.list ((leds h (liveN h i)).map .str), 1, false, false⟩, none, ?_, .inr ⟨_, rfl⟩, .inr ⟨_, rfl⟩, .inl rfl⟩)
        have e : ((((liveN h i).map PyData.str).filter fun x => match x with | .str n => decide (n ∈ leds h (liveN h i)) | _ => false).map id) = (liveN h (i + 1)).map .str := by
          rw [List.map_id, List.filter_map]; rfl
        rw [e]; rfl
  · rintro ρ ⟨s2, s3, s4, rfl, f2, f3, f4⟩
    rw [Int.toNat_natCast]
    refine w_seq (w_ret (pn_eq (pv_slot rfl).pn pn_nil ⟨?_, rfl, ?_⟩) ⟨[], rfl, ?_⟩)
    · rw [PyData.plain]; exact plain_strs _
    · show min _ 1 ≤ dLow
      exact Nat.le_trans (Nat.min_le_right _ _) (by decide)
    · rw [eqv_nil, List.isEmpty_map]; exact q
def fixB (b : Bt) : Bt := ⟨b.s, b.e, if b.room > 2 then b.room else 2, if (if b.first > 1 then b.first else 1) < (if b.room > 2 then b.room else 2) - 1 then (if b.first > 1 then b.first else 1) else (if b.room > 2 then b.room else 2) - 1⟩
theorem fix_ok {b : Bt} (h : BtOk b) : BtOk (fixB b) := by
  obtain ⟨h1, h2, h3, h4⟩ := h
  unfold fixB BtOk
  simp only
  refine ⟨?_, ?_, ?_, ?_⟩ <;> (split <;> (try split) <;> (try split) <;> omega)
theorem Shape.mapB {vs : List Str} {es : List Bt} {f : Bt → Bt} (h : Shape vs es) (hf : ∀ b, (f b).s = b.s ∧ (f b).e = b.e) : Shape vs (es.map f) := by
  intro j z h1 h2
  obtain ⟨b, i, y, e1, e2, e3, e4⟩ := h j z h1 h2
  refine ⟨f b, i, y, by rw [List.getElem?_map, e1]; rfl, e2, e3, ?_⟩
  rw [(hf b).1, (hf b).2]; exact e4
theorem Made.mapB {most : Int} (M : Made most h) {f : Bt → Bt} (hf : ∀ b, (f b).s = b.s ∧ (f b).e = b.e) (ok : ∀ b, BtOk b → BtOk (f b)) : Made most ⟨h.ms, h.bs.map f, h.fl⟩ := by
  obtain ⟨vs, es, sh, h0, hl, nd, hn, p, pe, hv⟩ := M.grown
  refine ⟨M.sorted, M.ok, fun c hc => ?_, by show (h.bs.map f).length ≤ 20; rw [List.length_map]; exact M.bs, vs, es.map f, sh.mapB hf, h0, hl, nd, hn, p, pe.map f, fun c hc => ?_⟩
  · obtain ⟨b, hb, rfl⟩ := List.mem_map.mp hc
    exact ok b (M.bok b hb)
  · obtain ⟨b, hb, rfl⟩ := List.mem_map.mp hc
    rw [(hf b).1, (hf b).2]; exact hv b hb
theorem nc_bsN : ∀ l : List Bt, noConts (l.map bD) = true
  | [] => rfl
  | b :: l => by rw [List.map_cons, noConts, nc_bsN l]; rfl
theorem hall_fix {mi so ta pu fi : Nat} {most mach : Int} {bag : PyData} (hi : T.fns[ha]? = some (ha_I we lv)) (hv : T.fns[lv]? = some (lv_I na ar)) (hn : T.fns[na]? = some na_I) (hr : T.fns[ar]? = some ar_I) (hw : T.fns[we]? = some (we_I mi so ta pu fi))
    (tk : T.fns[ta]? = some takeI) (sm : T.fns[so]? = some (someI ta)) (mx : T.fns[mi]? = some (mixedI ta)) (hf : T.fns[fi]? = some (fi_I so ta)) (hp : T.fns[pu]? = some (pu_I so ta)) (m0 : 0 < most) (m1 : most < 1000) (hb : Bag B bag) (hB : B + 1000 < 2 ^ 200) (h0 : 0 ≤ mach) (h1 : mach ≤ 5)
    (q : ∀ h bag', Made most h → Bag (B + 200) bag' → Q (hD h) 0 [bag']) : wpF T (k + 5) ha [bag, .int mach, .int most] Q noX := by
  refine wpF_step hi rfl ?_
  show wpS (ctx T (k + 4) noX) (ha_B we lv) [some ⟨bag, 2, true, false⟩, sl (.int mach), sl (.int most), none, none, none, none, none, none] (endsOf (ha_I we lv) Q)
  unfold ha_B
  have bg := big
  refine w_seq (w_asgE (w_lend2 (by rw [sig_of hw]; rfl) rfl (pv_slot rfl).pn (pv_slot rfl).pn fun Q2 hQ => web_made tk sm mx hf hp hw m0 m1 hb hB h0 h1 fun h bag' M hb' => hQ _ _ _ ⟨trivial, ?_⟩))
  have s := M.fewB
  refine w_seq (w_frz rfl rfl ?_)
  refine w_seq (w_ite (pv_call1 (k := k + 4) (pv_slot (i := 3) (x := hD h) rfl) (by rw [sig_of hv]; rfl) fun Q q => live_law (k := k + 2) hv hn hr s q) (fun _ => ?_) (fun _ => ?_))
  · exact w_seq (w_ret (pv_slot rfl) ⟨[bag'], rfl, q h bag' M hb'⟩)
  refine w_nil ?_
  refine w_seq (w_asg pn_nil ⟨trivial, ?_⟩)
  refine w_seq (w_forL (items := h.bs.map bD) (pv_idxT (pv_slot rfl) pv_int at1).pn (.inr rfl) (fun i ρ => ∃ s5 s6 s7 s8, ρ = [some ⟨bag', 2, true, false⟩, sl (.int mach), sl (.int most), sl (hD h), some ⟨.list (((h.bs.take i).map fixB).map bD), 1, false, false⟩, s5, s6, s7, s8] ∧ Fr1 s5 ∧ Fr1 s6 ∧ Fr1 s7 ∧ Fr1 s8) ⟨none, none, none, none, rfl, .inl rfl, .inl rfl, .inl rfl, .inl rfl⟩ ?_ ?_)
  · rintro i x ρ K hx ⟨s5, s6, s7, s8, rfl, f5, f6, f7, f8⟩ fin
    rw [List.getElem?_map] at hx
    obtain ⟨b, hb, rfl⟩ := Option.map_eq_some_iff.mp hx
    refine ⟨fr1_free f5 rfl, fr1_free (i := 6) f6 rfl, fr1_free (i := 7) f7 rfl, fr1_free (i := 8) f8 rfl, ?_⟩
    refine w_seq (w_asg (pv_max2 pv_int (pv_slot (x := .int b.room) rfl)).pn ⟨rfl, ?_⟩)
    refine w_seq (w_frz rfl rfl ?_)
    refine w_seq (w_app rfl (by have := s.bs; rw [List.length_map, List.length_map, List.length_take]; omega) (pv_tupP (pvl_cons (pv_slot (x := .str b.s) rfl) (pvl_cons (pv_slot (x := .str b.e) rfl) (pvl_cons (pv_slot rfl) (pvl_cons (pv_min2 (pv_subI (pv_slot rfl) pv_int) (pv_max2 pv_int (pv_slot (x := .int b.first) rfl))) pvl_nil)))) (show 4 ≤ sizeLine by decide)).pn ?_)
    refine (show K _ from fin _ ⟨sl (.str b.s), sl (.str b.e), sl (.int (if b.room > 2 then b.room else 2)), sl (.int b.first), ?_, .inr ⟨_, rfl⟩, .inr ⟨_, rfl⟩, .inr ⟨_, rfl⟩, .inr ⟨_, rfl⟩⟩)
    have et : h.bs.take (i + 1) = h.bs.take i ++ [b] := by rw [List.take_add_one, hb]; rfl
    rw [et, List.map_append, List.map_append]
    rfl
  · rintro ρ ⟨s5, s6, s7, s8, rfl, f5, f6, f7, f8⟩
    rw [List.length_map, List.take_length]
    refine w_seq (w_ret (pv_tupP (pvl_cons (pv_idxT (pv_slot (x := hD h) rfl) pv_int at0) (pvl_cons (pv_tupS rfl (nc_bsN _)) (pvl_cons (pv_idxT (pv_slot (x := hD h) rfl) pv_int at2) pvl_nil))) (show 3 ≤ sizeLine by decide)) ⟨[bag'], rfl, ?_⟩)
    exact q ⟨h.ms, h.bs.map fixB, h.fl⟩ bag' (M.mapB (fun b => ⟨rfl, rfl⟩) fun b => fix_ok) hb'
end
end PL
end
section
set_option Elab.async false
set_option linter.all false
set_option maxRecDepth 100000
set_option maxHeartbeats 800000
/-! PG8: states; what is behind an arc, by the program and by the law. -/
namespace PL
open L2 PySem.Spec PySem
def rwD (r : List Int) : PyData := .tuple (r.map .int)
def stD (n : Str) (rows : List (List Int)) : PyData := .tuple [.str n, .tuple (rows.map rwD)]
def fullR (h : Hall) : List (List Int) := h.ms.map fun m => m.ps.map (·.1)
def endOf (h : Hall) : Arc → Str
  | .next n => n
  | .down j => match h.bs[j]? with | some b => b.e | none => ""
  | .up j => match h.bs[j]? with | some b => b.s | none => ""
def growthOf (h : Hall) : Arc → Int
  | .next _ => 1
  | .down j => match h.bs[j]? with | some b => b.first | none => 0
  | .up j => match h.bs[j]? with | some b => b.room - b.first | none => 0
def arcOk (h : Hall) : Arc → Prop
  | .next _ => True
  | .down j => j < h.bs.length
  | .up j => j < h.bs.length
def endsA : Arc → Bool | .up _ => false | _ => true
theorem downs_mem (n : Str) : ∀ {bs : List Bt} {j : Nat} {r : ARow}, r ∈ downs n j bs → ∃ i b, bs[i]? = some b ∧ r = (.down (j + i), b.e, b.first)
  | [], _, _, h => by cases h
  | b :: bs, j, r, h => by
    have more : r ∈ downs n (j + 1) bs → ∃ i b', (b :: bs)[i]? = some b' ∧ r = (.down (j + i), b'.e, b'.first) := fun h => by
      obtain ⟨i, b', h1, h2⟩ := downs_mem n h
      exact ⟨i + 1, b', by simpa using h1, by rw [h2]; congr 2; omega⟩
    unfold downs at h
    split at h
    · rcases List.mem_cons.mp h with rfl | h
      · exact ⟨0, b, rfl, rfl⟩
      · exact more h
    · exact more h
theorem ups_mem (n : Str) : ∀ {bs : List Bt} {j : Nat} {r : ARow}, r ∈ ups n j bs → ∃ i b, bs[i]? = some b ∧ r = (.up (j + i), b.s, b.room - b.first)
  | [], _, _, h => by cases h
  | b :: bs, j, r, h => by
    have more : r ∈ ups n (j + 1) bs → ∃ i b', (b :: bs)[i]? = some b' ∧ r = (.up (j + i), b'.s, b'.room - b'.first) := fun h => by
      obtain ⟨i, b', h1, h2⟩ := ups_mem n h
      exact ⟨i + 1, b', by simpa using h1, by rw [h2]; congr 2; omega⟩
    unfold ups at h
    split at h
    · rcases List.mem_cons.mp h with rfl | h
      · exact ⟨0, b, rfl, rfl⟩
      · exact more h
    · exact more h
theorem arcs_row {h : Hall} {n : Str} {r : ARow} (hr : r ∈ arcs h n) : arcOk h r.1 ∧ r.2.1 = endOf h r.1 ∧ r.2.2 = growthOf h r.1 := by
  unfold arcs at hr
  rcases List.mem_append.mp hr with z | z
  · rcases List.mem_cons.mp z with rfl | z
    · exact ⟨trivial, rfl, rfl⟩
    · obtain ⟨i, b, e, rfl⟩ := downs_mem n z
      rw [Nat.zero_add]
      refine ⟨(List.getElem?_eq_some_iff.mp e).1, ?_, ?_⟩
      · show b.e = (match h.bs[i]? with | some b => b.e | none => "")
        rw [e]
      · show b.first = (match h.bs[i]? with | some b => b.first | none => 0)
        rw [e]
  · obtain ⟨i, b, e, rfl⟩ := ups_mem n z
    rw [Nat.zero_add]
    refine ⟨(List.getElem?_eq_some_iff.mp e).1, ?_, ?_⟩
    · show b.s = (match h.bs[i]? with | some b => b.s | none => "")
      rw [e]
    · show b.room - b.first = (match h.bs[i]? with | some b => b.room - b.first | none => 0)
      rw [e]
theorem eqv_pair (a b c d : PyData) : PyData.eqv (.tuple [a, b]) (.tuple [c, d]) = (PyData.eqv a c && PyData.eqv b d) := by
  rw [PyData.eqv]
  rw [PyData.eqvAll, PyData.eqvAll, PyData.eqvAll, Bool.and_true]
theorem eqv_aD (a b : Arc) : PyData.eqv (aD a) (aD b) = decide (a = b) := by
  have s1 : ((("next" : String) : Str) = (("down" : String) : Str)) = False := by decide +kernel
  have s2 : ((("next" : String) : Str) = (("up" : String) : Str)) = False := by decide +kernel
  have s3 : ((("down" : String) : Str) = (("next" : String) : Str)) = False := by decide +kernel
  have s4 : ((("down" : String) : Str) = (("up" : String) : Str)) = False := by decide +kernel
  have s5 : ((("up" : String) : Str) = (("next" : String) : Str)) = False := by decide +kernel
  have s6 : ((("up" : String) : Str) = (("down" : String) : Str)) = False := by decide +kernel
  cases a <;> cases b <;> unfold aD <;> rw [eqv_pair, eqv_str]
  · rw [eqv_str]; simp
  · simp [s1]
  · simp [s2]
  · simp [s3]
  · rw [eqv_int]; simp; omega
  · simp [s4]
  · simp [s5]
  · simp [s6]
  · rw [eqv_int]; simp; omega
theorem zip_map {α β : Type} (f : α → PyData) (g : β → PyData) (k : PyData → PyData) : ∀ (as : List α) (bs : List β), (zipD (as.map f) (bs.map g)).map k = List.zipWith (fun a b => k (.tuple [f a, g b])) as bs
  | [], bs => by cases bs <;> rfl
  | a :: as, [] => rfl
  | a :: as, b :: bs => by
    show k (.tuple [f a, g b]) :: (zipD (as.map f) (bs.map g)).map k = _
    rw [zip_map f g k as bs]; rfl
theorem zip_mem {α β : Type} {f : α → PyData} {g : β → PyData} : ∀ {as : List α} {bs : List β} {x : PyData}, x ∈ zipD (as.map f) (bs.map g) → ∃ a ∈ as, ∃ b ∈ bs, x = .tuple [f a, g b]
  | [], bs, x, h => by cases bs <;> cases h
  | a :: as, [], x, h => by cases h
  | a :: as, b :: bs, x, h => by
    have h : x ∈ PyData.tuple [f a, g b] :: zipD (as.map f) (bs.map g) := h
    rcases List.mem_cons.mp h with rfl | h
    · exact ⟨a, List.mem_cons_self, b, List.mem_cons_self, rfl⟩
    · obtain ⟨a', h1, b', h2, e⟩ := zip_mem h
      exact ⟨a', List.mem_cons_of_mem _ h1, b', List.mem_cons_of_mem _ h2, e⟩
theorem zip_len2 {α β : Type} {f : α → PyData} {g : β → PyData} (as : List α) (bs : List β) : (zipD (as.map f) (bs.map g)).length ≤ as.length := by
  rw [zip_len, List.length_map]; omega
theorem zip_at {α β : Type} {f : α → PyData} {g : β → PyData} {as : List α} {bs : List β} {i : Nat} {x : PyData} (h : (zipD (as.map f) (bs.map g))[i]? = some x) : ∃ a b, as[i]? = some a ∧ bs[i]? = some b ∧ x = .tuple [f a, g b] := by
  obtain ⟨x1, x2, h1, h2, rfl⟩ := zip_get h
  rw [List.getElem?_map] at h1 h2
  obtain ⟨a, ha, rfl⟩ := Option.map_eq_some_iff.mp h1
  obtain ⟨b, hb, rfl⟩ := Option.map_eq_some_iff.mp h2
  exact ⟨a, b, ha, hb, rfl⟩
def cap (g : Int) (p : Int × Int) (x : Int) : Int := if x + p.2 * g < p.1 then x + p.2 * g else p.1
def outRow (g : Int) (ps : List (Int × Int)) (r : List Int) : List Int := List.zipWith (cap g) ps r
def leftOf (e : Bool) (n : Str) (m : Mc) (r : List Int) : List Int := if (decide (m.nm = n) && e) = true then r.map fun _ => 0 else r
def bhStep (e : Bool) (g : Int) (n : Str) (a : Int × List (List Int)) (x : Mc × List Int) : Int × List (List Int) :=
  (if (decide (x.1.nm = n) && e) = true then x.1.tm + x.2.sum else a.1, a.2 ++ [outRow g x.1.ps (leftOf e n x.1 x.2)])
def bh (e : Bool) (g : Int) (n : Str) (l : List (Mc × List Int)) : Int × List (List Int) := l.foldl (bhStep e g n) (0, [])
theorem bh_take {e : Bool} {g : Int} {n : Str} {l : List (Mc × List Int)} {i : Nat} {x : Mc × List Int} (h : l[i]? = some x) : bh e g n (l.take (i + 1)) = bhStep e g n (bh e g n (l.take i)) x := by
  have : l.take (i + 1) = l.take i ++ [x] := by rw [List.take_add_one, h]; rfl
  unfold bh
  rw [this, List.foldl_append]; rfl
theorem bh_len {e : Bool} {g : Int} {n : Str} (l : List (Mc × List Int)) : (bh e g n l).2.length = l.length := by
  have key : ∀ (l : List (Mc × List Int)) (a : Int × List (List Int)), (l.foldl (bhStep e g n) a).2.length = a.2.length + l.length := fun l => by
    induction l with
    | nil => intro a; simp
    | cons x l ih => intro a; rw [List.foldl_cons, ih]; unfold bhStep; simp; omega
  unfold bh; rw [key]; simp
def bhD (h : Hall) (n : Str) (rows : List (List Int)) (a : Arc) : PyData :=
  .tuple [stD (endOf h a) (bh (endsA a) (growthOf h a) n (h.ms.zip rows)).2, .int (bh (endsA a) (growthOf h a) n (h.ms.zip rows)).1]
/-- a state's rows: small numbers, short rows -/
structure Rows (h : Hall) (rows : List (List Int)) : Prop where
  len : rows.length = h.ms.length
  row : ∀ r ∈ rows, r.length ≤ 100
theorem mul_small {i j : Int} (h1 : i.natAbs ≤ 2 ^ 20) (h2 : j.natAbs ≤ 2 ^ 20) : CMulW i j := by
  have l : ∀ m : Nat, m ≤ 2 ^ 20 → m.log2 ≤ 20 := fun m hm => by
    by_cases z : m = 0
    · rw [z]; decide
    · have : m.log2 < 21 := (Nat.log2_lt z).mpr (by omega)
      omega
  have a := l _ h1
  have b := l _ h2
  unfold CMulW
  omega
end PL
end
section
set_option Elab.async false
set_option linter.all false
set_option maxRecDepth 100000
set_option maxHeartbeats 800000
/-! PG9: the walks: ends, growths, full states, what is behind. -/
namespace PL
open L2 PySem.Spec PySem
section
variable {T : Tab} {k na ar pen pgr pdo pfu pbe fu be ii : Nat} {h : Hall} {Q : KF} {n : Str} {a : Arc}
theorem pv_yes {G : PL.Ctx} {x y : PL.E} {ρ : PL.Env} {z : Str} (hx : Pv G x ρ (.str z)) (hy : Pv G y ρ (.str z)) : Pv G (.cmp .eq x y) ρ (.bool true) := by
  have := pv_eqS hx hy
  rwa [decide_eq_true rfl] at this
theorem pv_no {G : PL.Ctx} {x y : PL.E} {ρ : PL.Env} {z w : Str} (hx : Pv G x ρ (.str z)) (hy : Pv G y ρ (.str w)) (ne : (z = w) = False) : Pv G (.cmp .eq x y) ρ (.bool false) := by
  have := pv_eqS hx hy
  rwa [decide_eq_false (by rw [ne]; exact id)] at this
theorem ends_prog (hi : T.fns[pdo]? = some pdo_I) (q : Q (.bool (endsA a)) 0 []) : wpF T (k + 1) pdo [aD a] Q noX := by
  refine wpF_step hi rfl ?_
  show wpS (ctx T k noX) pdo_B [sl (aD a)] (endsOf pdo_I Q)
  unfold pdo_B
  have s1 : ((("next" : String) : Str) = (("up" : String) : Str)) = False := by decide +kernel
  have s4 : ((("down" : String) : Str) = (("up" : String) : Str)) = False := by decide +kernel
  cases a with
  | next m => exact w_seq (w_ret (pv_neS (pv_idxT (pv_slot (x := .tuple [.str "next", .str m]) rfl) pv_int at0) pv_str) ⟨[], rfl, by simp only [s1]; exact q⟩)
  | down j => exact w_seq (w_ret (pv_neS (pv_idxT (pv_slot (x := .tuple [.str "down", .int j]) rfl) pv_int at0) pv_str) ⟨[], rfl, by simp only [s4]; exact q⟩)
  | up j => exact w_seq (w_ret (pv_neS (pv_idxT (pv_slot (x := .tuple [.str "up", .int j]) rfl) pv_int at0) pv_str) ⟨[], rfl, by simpa [endsA] using q⟩)
theorem at_bs {j : Nat} {b : Bt} (e : h.bs[j]? = some b) : atI (h.bs.map bD) (j : Int) = some (bD b) := by
  have hj := (List.getElem?_eq_some_iff.mp e).1
  obtain ⟨x, e1, _, e2⟩ := atI_nat (xs := h.bs.map bD) (v := (j : Int)) (by omega) (by rw [List.length_map]; omega)
  rw [Int.toNat_natCast, List.getElem?_map, e] at e2
  cases e2
  exact e1
theorem end_prog (hi : T.fns[pen]? = some pen_I) (ok : arcOk h a) (q : Q (.str (endOf h a)) 0 []) : wpF T (k + 1) pen [hD h, aD a] Q noX := by
  refine wpF_step hi rfl ?_
  show wpS (ctx T k noX) pen_B [sl (hD h), sl (aD a), none, none] (endsOf pen_I Q)
  unfold pen_B
  have s1 : ((("down" : String) : Str) = (("next" : String) : Str)) = False := by decide +kernel
  have s2 : ((("up" : String) : Str) = (("next" : String) : Str)) = False := by decide +kernel
  have s3 : ((("up" : String) : Str) = (("down" : String) : Str)) = False := by decide +kernel
  cases a with
  | next m =>
    refine w_seq (w_unp (pv_slot (x := .tuple [.str "next", .str m]) rfl _ ⟨trivial, trivial, ?_⟩))
    refine w_seq (w_ite (t := true) (pv_yes (pv_slot rfl) pv_str) (fun _ => ?_) (fun e => by cases e))
    exact w_seq (w_ret (pv_slot rfl) ⟨[], rfl, q⟩)
  | down j =>
    obtain ⟨b, hb⟩ : ∃ b, h.bs[j]? = some b := ⟨_, List.getElem?_eq_getElem ok⟩
    refine w_seq (w_unp (pv_slot (x := .tuple [.str "down", .int j]) rfl _ ⟨trivial, trivial, ?_⟩))
    refine w_seq (w_ite (t := false) (pv_no (pv_slot rfl) pv_str s1) (fun e => by cases e) (fun _ => ?_))
    refine w_nil (w_seq (w_ret (x := .str b.e) ?_ ⟨[], rfl, ?_⟩))
    · refine pv_idxT (pv_idxT (pv_idxT (pv_slot (x := hD h) rfl) pv_int at1) (pv_slot (x := .int j) rfl) (at_bs hb)) (pv_iteE (x := .int 1) (t := true) (pv_yes (pv_slot rfl) pv_str) (fun _ => pv_int) (fun e => by cases e)) at1
    · have : endOf h (.down j) = b.e := by show (match h.bs[j]? with | some b => b.e | none => "") = b.e; rw [hb]
      rw [this] at q; exact q
  | up j =>
    obtain ⟨b, hb⟩ : ∃ b, h.bs[j]? = some b := ⟨_, List.getElem?_eq_getElem ok⟩
    refine w_seq (w_unp (pv_slot (x := .tuple [.str "up", .int j]) rfl _ ⟨trivial, trivial, ?_⟩))
    refine w_seq (w_ite (t := false) (pv_no (pv_slot rfl) pv_str s2) (fun e => by cases e) (fun _ => ?_))
    refine w_nil (w_seq (w_ret (x := .str b.s) ?_ ⟨[], rfl, ?_⟩))
    · refine pv_idxT (pv_idxT (pv_idxT (pv_slot (x := hD h) rfl) pv_int at1) (pv_slot (x := .int j) rfl) (at_bs hb)) (pv_iteE (x := .int 0) (t := false) (pv_no (pv_slot rfl) pv_str s3) (fun e => by cases e) (fun _ => pv_int)) at0
    · have : endOf h (.up j) = b.s := by show (match h.bs[j]? with | some b => b.s | none => "") = b.s; rw [hb]
      rw [this] at q; exact q
theorem growth_prog (hi : T.fns[pgr]? = some pgr_I) (ok : arcOk h a) (q : Q (.int (growthOf h a)) 0 []) : wpF T (k + 1) pgr [hD h, aD a] Q noX := by
  refine wpF_step hi rfl ?_
  show wpS (ctx T k noX) pgr_B [sl (hD h), sl (aD a), none, none, none, none, none, none] (endsOf pgr_I Q)
  unfold pgr_B
  have s1 : ((("down" : String) : Str) = (("next" : String) : Str)) = False := by decide +kernel
  have s2 : ((("up" : String) : Str) = (("next" : String) : Str)) = False := by decide +kernel
  have s3 : ((("up" : String) : Str) = (("down" : String) : Str)) = False := by decide +kernel
  cases a with
  | next m =>
    refine w_seq (w_unp (pv_slot (x := .tuple [.str "next", .str m]) rfl _ ⟨trivial, trivial, ?_⟩))
    refine w_seq (w_ite (t := true) (pv_yes (pv_slot rfl) pv_str) (fun _ => ?_) (fun e => by cases e))
    exact w_seq (w_ret pv_int ⟨[], rfl, q⟩)
  | down j =>
    obtain ⟨b, hb⟩ : ∃ b, h.bs[j]? = some b := ⟨_, List.getElem?_eq_getElem ok⟩
    refine w_seq (w_unp (pv_slot (x := .tuple [.str "down", .int j]) rfl _ ⟨trivial, trivial, ?_⟩))
    refine w_seq (w_ite (t := false) (pv_no (pv_slot rfl) pv_str s1) (fun e => by cases e) (fun _ => ?_))
    refine w_nil (w_seq (w_unp (pv_idxT (pv_idxT (pv_slot (x := hD h) rfl) pv_int at1) (pv_slot (x := .int j) rfl) (at_bs hb) _ ⟨trivial, trivial, trivial, trivial, ?_⟩)))
    refine w_seq (w_ret (x := .int b.first) ?_ ⟨[], rfl, ?_⟩)
    · refine pv_iteE (t := true) (pv_yes (pv_slot rfl) pv_str) (fun _ => pv_slot rfl) (fun e => by cases e)
    · have : growthOf h (.down j) = b.first := by show (match h.bs[j]? with | some b => b.first | none => 0) = b.first; rw [hb]
      rw [this] at q; exact q
  | up j =>
    obtain ⟨b, hb⟩ : ∃ b, h.bs[j]? = some b := ⟨_, List.getElem?_eq_getElem ok⟩
    refine w_seq (w_unp (pv_slot (x := .tuple [.str "up", .int j]) rfl _ ⟨trivial, trivial, ?_⟩))
    refine w_seq (w_ite (t := false) (pv_no (pv_slot rfl) pv_str s2) (fun e => by cases e) (fun _ => ?_))
    refine w_nil (w_seq (w_unp (pv_idxT (pv_idxT (pv_slot (x := hD h) rfl) pv_int at1) (pv_slot (x := .int j) rfl) (at_bs hb) _ ⟨trivial, trivial, trivial, trivial, ?_⟩)))
    refine w_seq (w_ret (x := .int (b.room - b.first)) ?_ ⟨[], rfl, ?_⟩)
    · refine pv_iteE (t := false) (pv_no (pv_slot rfl) pv_str s3) (fun e => by cases e) (fun _ => pv_subI (pv_slot rfl) (pv_slot rfl))
    · have : growthOf h (.up j) = b.room - b.first := by show (match h.bs[j]? with | some b => b.room - b.first | none => 0) = _; rw [hb]
      rw [this] at q; exact q
end
end PL
end
section
set_option Elab.async false
set_option linter.all false
set_option maxRecDepth 100000
set_option maxHeartbeats 800000
/-! PG10: the walks: full states, what is behind. -/
namespace PL
open L2 PySem.Spec PySem
def psOf : PyData → List PyData | .tuple [_, _, .tuple ps] => ps | _ => []
def fst2 : PyData → PyData | .tuple [a, _] => a | _ => .none
theorem fullR_map (ms : List Mc) : (ms.map mD).map (fun x => PyData.tuple ((psOf x).map fst2)) = (ms.map fun m => m.ps.map (·.1)).map rwD := by
  rw [List.map_map, List.map_map]
  refine List.map_congr_left fun m _ => ?_
  show PyData.tuple ((m.ps.map pD).map fst2) = PyData.tuple ((m.ps.map (·.1)).map .int)
  rw [List.map_map, List.map_map]; rfl
theorem zeros_eq (r : List Int) : (List.replicate (((r.map PyData.int).length : Nat) : Int).toNat [PyData.int 0]).flatten = (r.map fun _ => (0 : Int)).map .int := by
  rw [Int.toNat_natCast, List.length_map]
  induction r with
  | nil => rfl
  | cons a r ih => rw [List.length_cons, List.replicate_succ, List.flatten_cons, ih]; rfl
theorem nc_ints : ∀ l : List Int, noConts (l.map .int) = true
  | [] => rfl
  | a :: l => by rw [List.map_cons, noConts, nc_ints l]; rfl
theorem nc_rows : ∀ l : List (List Int), noConts (l.map rwD) = true
  | [] => rfl
  | a :: l => by
    rw [List.map_cons, noConts, nc_rows l]
    unfold rwD
    rw [noCont, nc_ints]; rfl
theorem left_len {e : Bool} {n : Str} {m : Mc} {r : List Int} : (leftOf e n m r).length = r.length := by
  unfold leftOf
  split
  · rw [List.length_map]
  · rfl
def capA (g : Int) : PyData → PyData | .tuple [.int x, .tuple [.int s, .int b]] => .int (cap g (s, b) x) | _ => .none
def capB (g : Int) : PyData → PyData | .tuple [.tuple [.int s, .int b], .int x] => .int (cap g (s, b) x) | _ => .none
theorem outRow_map (g : Int) : ∀ (ps : List (Int × Int)) (r : List Int), (outRow g ps r).map PyData.int = List.zipWith (fun a b => capB g (.tuple [pD a, .int b])) ps r
  | [], _ => rfl
  | _ :: _, [] => rfl
  | p :: ps, x :: r => by
    have ih := outRow_map g ps r
    unfold outRow at ih ⊢
    rw [List.zipWith_cons_cons, List.zipWith_cons_cons, List.map_cons, ih]; rfl
theorem outRow_map2 (g : Int) : ∀ (ps : List (Int × Int)) (r : List Int), (outRow g ps r).map PyData.int = List.zipWith (fun a b => capA g (.tuple [.int a, pD b])) r ps
  | [], [] => rfl
  | [], _ :: _ => rfl
  | _ :: _, [] => rfl
  | p :: ps, x :: r => by
    have ih := outRow_map2 g ps r
    unfold outRow at ih ⊢
    rw [List.zipWith_cons_cons, List.zipWith_cons_cons, List.map_cons, ih]; rfl
structure NumH (h : Hall) : Prop where
  few : Few h
  ps : ∀ m ∈ h.ms, m.ps.length ≤ 100 ∧ ∀ p ∈ m.ps, p.2.natAbs ≤ 2 ^ 20
section
variable {T : Tab} {k na ar pen pgr pdo pfu pbe fu be ii : Nat} {h : Hall} {Q : KF} {n : Str} {a : Arc} {rows : List (List Int)}
theorem full_prog (hi : T.fns[pfu]? = some pfu_I) (s : NumH h) (q : Q (stD n (fullR h)) 0 []) : wpF T (k + 1) pfu [hD h, .str n] Q noX := by
  refine wpF_step hi rfl ?_
  show wpS (ctx T k noX) pfu_B [sl (hD h), sl (.str n), none, none, none, none, none] (endsOf pfu_I Q)
  unfold pfu_B
  have bg := big
  have hs := s.few.ms
  refine w_seq (w_ret (pv_tupP (pvl_cons (pv_slot rfl) (pvl_cons (pv_tupL (n := 1) (ds := (fullR h).map rwD) fun K hK => ?_) pvl_nil)) (show 2 ≤ sizeLine by decide)) ⟨[], rfl, q⟩)
  refine w_lcA (items := h.ms.map mD) rfl (wi_t (pv_idxT (pv_slot rfl) pv_int at0).pn) (by rw [List.length_map]; omega) (fun x => PyData.tuple ((psOf x).map fst2)) (fun x => [sl (hD h), sl (.str n), sl (in3 x).1, sl (in3 x).2.1, sl (in3 x).2.2, none, none]) rfl (vs3 trivial trivial trivial) (fun x hx K hK => ?_) (fun x hx => ?_) (fun x hx => ⟨vs3 rfl rfl rfl, rfl⟩) (by rw [fullR_map]; exact hK)
  · obtain ⟨m, _, rfl⟩ := List.mem_map.mp hx
    exact ⟨trivial, trivial, trivial, hK⟩
  · obtain ⟨m, hm, rfl⟩ := List.mem_map.mp hx
    refine pv_tupL (n := 1) fun K hK => ?_
    have hp := (s.ps m hm).1
    refine w_lcA (items := m.ps.map pD) rfl (wi_t (pv_slot (x := .tuple (m.ps.map pD)) rfl).pn) (by rw [List.length_map]; omega) fst2 (fun y => [sl (hD h), sl (.str n), sl (.str m.nm), sl (.int m.tm), sl (.tuple (m.ps.map pD)), sl (en2 y).1, sl (en2 y).2]) rfl (vs2 trivial trivial) (fun x hx K hK => ?_) (fun x hx => ?_) (fun x hx => ⟨vs2 rfl rfl, rfl⟩) hK
    · obtain ⟨p, _, rfl⟩ := List.mem_map.mp hx
      exact ⟨trivial, trivial, hK⟩
    · obtain ⟨p, _, rfl⟩ := List.mem_map.mp hx
      exact pv_slot rfl
theorem full_law (hi : T.fns[fu]? = some fu_I) (s : NumH h) (q : Q (.tuple ((fullR h).map rwD)) 0 []) : wpF T (k + 1) fu [hD h] Q noX := by
  refine wpF_step hi rfl ?_
  show wpS (ctx T k noX) fu_B [sl (hD h), none, none, none, none, none] (endsOf fu_I Q)
  unfold fu_B
  have bg := big
  have hs := s.few.ms
  refine w_seq (w_ret (pv_tupL (n := 1) (ds := (fullR h).map rwD) fun K hK => ?_) ⟨[], rfl, q⟩)
  refine w_lcA (items := h.ms.map mD) rfl (wi_t (pv_idxT (pv_slot rfl) pv_int at0).pn) (by rw [List.length_map]; omega) (fun x => PyData.tuple ((psOf x).map fst2)) (fun x => [sl (hD h), sl (in3 x).1, sl (in3 x).2.1, sl (in3 x).2.2, none, none]) rfl (vs3 trivial trivial trivial) (fun x hx K hK => ?_) (fun x hx => ?_) (fun x hx => ⟨vs3 rfl rfl rfl, rfl⟩) (by rw [fullR_map]; exact hK)
  · obtain ⟨m, _, rfl⟩ := List.mem_map.mp hx
    exact ⟨trivial, trivial, trivial, hK⟩
  · obtain ⟨m, hm, rfl⟩ := List.mem_map.mp hx
    refine pv_tupL (n := 1) fun K hK => ?_
    have hp := (s.ps m hm).1
    refine w_lcA (items := m.ps.map pD) rfl (wi_t (pv_slot (x := .tuple (m.ps.map pD)) rfl).pn) (by rw [List.length_map]; omega) fst2 (fun y => [sl (hD h), sl (.str m.nm), sl (.int m.tm), sl (.tuple (m.ps.map pD)), sl (en2 y).1, sl (en2 y).2]) rfl (vs2 trivial trivial) (fun x hx K hK => ?_) (fun x hx => ?_) (fun x hx => ⟨vs2 rfl rfl, rfl⟩) hK
    · obtain ⟨p, _, rfl⟩ := List.mem_map.mp hx
      exact ⟨trivial, trivial, hK⟩
    · obtain ⟨p, _, rfl⟩ := List.mem_map.mp hx
      exact pv_slot rfl
theorem pv_ends {G : PL.Ctx} {ρ : PL.Env} {i : Nat} (e : ρ[i]? = some (sl (aD a))) : Pv G (.cmp .ne (.idx (.slot i) (.int 0)) (.str "up")) ρ (.bool (endsA a)) := by
  have s1 : ((("next" : String) : Str) = (("up" : String) : Str)) = False := by decide +kernel
  have s4 : ((("down" : String) : Str) = (("up" : String) : Str)) = False := by decide +kernel
  cases a with
  | next m =>
    have := pv_neS (G := G) (pv_idxT (pv_slot (x := .tuple [.str "next", .str m]) e) pv_int at0) (pv_str (ρ := ρ) (n := "up"))
    simp only [s1] at this; exact this
  | down j =>
    have := pv_neS (G := G) (pv_idxT (pv_slot (x := .tuple [.str "down", .int j]) e) pv_int at0) (pv_str (ρ := ρ) (n := "up"))
    simp only [s4] at this; exact this
  | up j =>
    have := pv_neS (G := G) (pv_idxT (pv_slot (x := .tuple [.str "up", .int j]) e) pv_int at0) (pv_str (ρ := ρ) (n := "up"))
    simpa [endsA] using this
theorem vs3' {ρ : PL.Env} {i j l : Nat} (h1 : free i ρ) (h2 : free j ρ) (h3 : free l ρ) : okForget [i, j, l] ρ := vs3 h1 h2 h3
/-- the program's walk -/
theorem behind_prog (hi : T.fns[pbe]? = some (pbe_I pgr pdo pen)) (hg : T.fns[pgr]? = some pgr_I) (hd : T.fns[pdo]? = some pdo_I) (he : T.fns[pen]? = some pen_I) (s : NumH h) (R : Rows h rows) (ok : arcOk h a) (gs : (growthOf h a).natAbs ≤ 2 ^ 20) (q : Q (bhD h n rows a) 0 []) : wpF T (k + 2) pbe [hD h, stD n rows, aD a] Q noX := by
  refine wpF_step hi rfl ?_
  show wpS (ctx T (k + 1) noX) (pbe_B pgr pdo pen) [sl (hD h), sl (stD n rows), sl (aD a), none, none, none, none, none, none, none, none, none, none, none] (endsOf (pbe_I pgr pdo pen) Q)
  unfold pbe_B
  have bg := big
  have hs := s.few.ms
  refine w_seq (w_par (wl_consP (pv_call2 (k := k + 1) (pv_slot (x := hD h) rfl) (pv_slot (x := aD a) rfl) (by rw [sig_of hg]; rfl) fun Q q => growth_prog hg ok q).pn (wl_consP pv_int.pn (wl_consP pn_nil (wl_nil ⟨⟨rfl, by decide, vs3 trivial trivial trivial⟩, ?_⟩)))))
  refine w_seq (w_frz rfl rfl (w_seq (w_frz rfl rfl ?_)))
  refine w_seq (w_forP rfl (wi_zipT (pv_idxT (pv_slot (x := hD h) rfl) pv_int at0).pn (pv_idxT (pv_slot (x := stD n rows) rfl) pv_int at1).pn)
    (fun i ρ => ∃ s6 s7 s8 s9 s10, ρ = [sl (hD h), sl (stD n rows), sl (aD a), sl (.int (growthOf h a)), sl (.int (bh (endsA a) (growthOf h a) n ((h.ms.zip rows).take i)).1), some ⟨.list ((bh (endsA a) (growthOf h a) n ((h.ms.zip rows).take i)).2.map rwD), 1, false, false⟩, s6, s7, s8, s9, s10, none, none, none] ∧ Fr1 s6 ∧ Fr1 s7 ∧ Fr1 s8 ∧ Fr1 s9 ∧ Fr1 s10)
    ⟨none, none, none, none, none, rfl, .inl rfl, .inl rfl, .inl rfl, .inl rfl, .inl rfl⟩ ?_ ?_)
  · rintro i x ρ K hx ⟨s6, s7, s8, s9, s10, rfl, f6, f7, f8, f9, f10⟩ fin
    obtain ⟨m, r, hm, hr, rfl⟩ := zip_at hx
    have hmm := List.mem_of_getElem? hm
    have hz : (h.ms.zip rows)[i]? = some (m, r) := by rw [List.getElem?_zip_eq_some]; exact ⟨hm, hr⟩
    have hl := R.row r (List.mem_of_getElem? hr)
    have hps := s.ps m hmm
    refine ⟨fr1_free (i := 8) f8 rfl, fr1_free (i := 9) f9 rfl, fr1_free (i := 10) f10 rfl, fr1_free (i := 6) f6 rfl, ?_⟩
    refine w_seq (w_asg (pv_slot (x := rwD r) rfl).pn ⟨fr1_free (i := 7) f7 rfl, ?_⟩)
    refine w_seq (w_frz rfl rfl ?_)
    have rest : ∀ t : Int, t = (bhStep (endsA a) (growthOf h a) n (bh (endsA a) (growthOf h a) n ((h.ms.zip rows).take i)) (m, r)).1 → wpS (ctx T (k + 1) noX) (.seq (.append 5 (.fn .tuple (.cons (.lc 0 (.fn .min (.cons (.slot 12) (.cons (.bin .add (.slot 11) (.bin .mul (.slot 13) (.slot 3))) (.nil)))) (.tup (.cons (.nm 11) (.cons (.tup (.cons (.nm 12) (.cons (.nm 13) (.nil)))) (.nil)))) (.zp (.slot 7) (.slot 10)) (.nil) [11, 12, 13]) (.nil)))) (.nil))
        [sl (hD h), sl (stD n rows), sl (aD a), sl (.int (growthOf h a)), sl (.int t), some ⟨.list ((bh (endsA a) (growthOf h a) n ((h.ms.zip rows).take i)).2.map rwD), 1, false, false⟩, sl (rwD r), sl (rwD (leftOf (endsA a) n m r)), sl (.str m.nm), sl (.int m.tm), sl (.tuple (m.ps.map pD)), none, none, none] { nx := K, rt := (endsOf (pbe_I pgr pdo pen) Q).rt, bk := fun ρ => wpS (ctx T (k + 1) noX) (.seq (.ret (.tup (.cons (.tup (.cons (.call pen (.cons (.slot 0) (.cons (.slot 2) (.nil)))) (.cons (.fnS .tuple 5) (.nil)))) (.cons (.slot 4) (.nil))))) (.nil)) ρ (endsOf (pbe_I pgr pdo pen) Q), ct := K } := fun t ht => by
      have bl := bh_len (e := endsA a) (g := growthOf h a) (n := n) ((h.ms.zip rows).take i)
      have zl : ((h.ms.zip rows).take i).length ≤ 20 := by rw [List.length_take, List.length_zip]; omega
      refine w_seq (w_app (n := 0) rfl (by rw [List.length_map]; omega) (pv_tupL (n := 1) (ds := (outRow (growthOf h a) m.ps (leftOf (endsA a) n m r)).map .int) fun K hK => ?_) ?_)
      · have ll := left_len (e := endsA a) (n := n) (m := m) (r := r)
        refine w_lcA (items := zipD ((leftOf (endsA a) n m r).map .int) (m.ps.map pD)) rfl (wi_zipT (pv_slot (x := rwD (leftOf (endsA a) n m r)) rfl).pn (pv_slot (x := .tuple (m.ps.map pD)) rfl).pn) (by have := zip_len2 (f := PyData.int) (g := pD) (leftOf (endsA a) n m r) m.ps; omega) (capA (growthOf h a))
          (fun x => [sl (hD h), sl (stD n rows), sl (aD a), sl (.int (growthOf h a)), sl (.int t), some ⟨.list ((bh (endsA a) (growthOf h a) n ((h.ms.zip rows).take i)).2.map rwD), 1, false, false⟩, sl (rwD r), sl (rwD (leftOf (endsA a) n m r)), sl (.str m.nm), sl (.int m.tm), sl (.tuple (m.ps.map pD)), sl (en2 x).1, sl (en2 (en2 x).2).1, sl (en2 (en2 x).2).2]) rfl (vs3 trivial trivial trivial) (fun x hx K hK => ?_) (fun x hx => ?_) (fun x hx => ⟨vs3 rfl rfl rfl, rfl⟩) ?_
        · obtain ⟨v, _, p, _, rfl⟩ := zip_mem hx
          exact ⟨trivial, trivial, trivial, hK⟩
        · obtain ⟨v, _, p, hp, rfl⟩ := zip_mem hx
          exact pv_min2 (pv_slot (x := .int p.1) rfl) (pv_addI (pv_slot (x := .int v) rfl) (pv_mulI (pv_slot (x := .int p.2) rfl) (pv_slot rfl) (mul_small (hps.2 p hp) gs)))
        · rw [zip_map, ← outRow_map2]; exact hK
      · refine (show K _ from fin _ ⟨sl (rwD r), sl (rwD (leftOf (endsA a) n m r)), sl (.str m.nm), sl (.int m.tm), sl (.tuple (m.ps.map pD)), ?_, .inr ⟨_, rfl⟩, .inr ⟨_, rfl⟩, .inr ⟨_, rfl⟩, .inr ⟨_, rfl⟩, .inr ⟨_, rfl⟩⟩)
        rw [bh_take hz, ← ht]
        unfold bhStep
        rw [List.map_append]; rfl
    have cond : Pv (ctx T (k + 1) noX) (.and (.cmp .eq (.slot 8) (.idx (.slot 1) (.int 0))) (.call pdo (.cons (.slot 2) (.nil)))) [sl (hD h), sl (stD n rows), sl (aD a), sl (.int (growthOf h a)), sl (.int (bh (endsA a) (growthOf h a) n ((h.ms.zip rows).take i)).1), some ⟨.list ((bh (endsA a) (growthOf h a) n ((h.ms.zip rows).take i)).2.map rwD), 1, false, false⟩, sl (rwD r), sl (rwD r), sl (.str m.nm), sl (.int m.tm), sl (.tuple (m.ps.map pD)), none, none, none] (.bool (decide (m.nm = n) && endsA a)) :=
      pv_and (pv_eqS (pv_slot rfl) (pv_idxT (pv_slot (x := stD n rows) rfl) pv_int at0)) fun _ => pv_call1 (k := k + 1) (pv_slot (x := aD a) rfl) (by rw [sig_of hd]; rfl) fun Q q => ends_prog hd q
    refine w_seq (w_ite cond (fun ht => ?_) (fun hf => ?_))
    · refine w_seq (w_par (wl_consP (pv_addI (pv_slot (x := .int m.tm) rfl) (pv_sumT (l := r) (pv_slot (x := rwD r) rfl).pn)).pn (wl_consP (pv_mulT (ds := [.int 0]) (pv_tupP (pvl_cons pv_int pvl_nil) (show 1 ≤ sizeLine by decide)) (pv_lenT (pv_slot (x := rwD r) rfl)) (by omega) (by rw [List.length_map]; omega) (show 1 ≤ 1000 by decide)).pn (wl_nil ⟨⟨rfl, by decide, vs2 rfl rfl⟩, ?_⟩))))
      refine w_seq (w_frz (G := ctx T (k + 1) noX) rfl rfl (w_seq (w_frz (G := ctx T (k + 1) noX) rfl rfl (w_nil (G := ctx T (k + 1) noX) ?_))))
      have e1 : leftOf (endsA a) n m r = r.map fun _ => 0 := by unfold leftOf; rw [if_pos ht]
      have e2 := rest (m.tm + r.sum) (by unfold bhStep; rw [if_pos ht])
      rw [e1] at e2
      rw [zeros_eq]
      exact e2
    · refine w_nil (G := ctx T (k + 1) noX) ?_
      have e1 : leftOf (endsA a) n m r = r := by unfold leftOf; rw [if_neg (by rw [hf]; exact Bool.false_ne_true)]
      have e2 := rest _ (by unfold bhStep; rw [if_neg (by rw [hf]; exact Bool.false_ne_true)])
      rw [e1] at e2
      exact e2
  · rintro ρ ⟨s6, s7, s8, s9, s10, rfl, f6, f7, f8, f9, f10⟩
    have el : (h.ms.zip rows).take (zipD (h.ms.map mD) (rows.map rwD)).length = h.ms.zip rows := by
      rw [List.take_of_length_le]
      rw [zip_len, List.length_map, List.length_map, List.length_zip]; exact Nat.le_refl _
    rw [el]
    refine w_seq (w_ret (pv_tupP (pvl_cons (pv_tupP (pvl_cons (pv_call2 (k := k + 1) (pv_slot (x := hD h) rfl) (pv_slot (x := aD a) rfl) (by rw [sig_of he]; rfl) fun Q q => end_prog he ok q) (pvl_cons (pv_tupS rfl (nc_rows _)) pvl_nil)) (show 2 ≤ sizeLine by decide)) (pvl_cons (pv_slot rfl) pvl_nil)) (show 2 ≤ sizeLine by decide)) ⟨[], rfl, q⟩)
end
end PL
end
section
set_option Elab.async false
set_option linter.all false
set_option maxRecDepth 100000
set_option maxHeartbeats 800000
/-! PG11: the law's walk: what is behind. -/
namespace PL
open L2 PySem.Spec PySem
theorem plain_aD (a : Arc) : (aD a).plain = true := by cases a <;> rfl
theorem depth_aD (a : Arc) : (aD a).depth ≤ 1 := by cases a <;> exact Nat.le_refl _
def one3 : PyData → PyData | .tuple [a, _, _] => a | _ => .none
def two3 : PyData → PyData | .tuple [_, b, c] => .tuple [b, c] | _ => .none
section
variable {T : Tab} {k na ar pen pgr pdo pfu pbe fu be ii : Nat} {h : Hall} {Q : KF} {n : Str} {a : Arc} {rows : List (List Int)}
theorem behind_law (hi : T.fns[be]? = some (be_I ar)) (hr : T.fns[ar]? = some ar_I) (s : NumH h) (R : Rows h rows) (ex : ∃ r ∈ arcs h n, r.1 = a) (gs : (growthOf h a).natAbs ≤ 2 ^ 20) (q : Q (bhD h n rows a) 0 []) : wpF T (k + 2) be [hD h, stD n rows, aD a] Q noX := by
  refine wpF_step hi rfl ?_
  show wpS (ctx T (k + 1) noX) (be_B ar) [sl (hD h), sl (stD n rows), sl (aD a), none, none, none, none, none, none, none, none, none, none, none, none, none, none] (endsOf (be_I ar) Q)
  unfold be_B
  have bg := big
  have hs := s.few.ms
  have hbs := s.few.bs
  have al := arcs_len h n
  refine w_seq (w_unp (pv_slot (x := stD n rows) rfl _ ⟨trivial, trivial, ?_⟩))
  refine w_seq (w_unp (w_idxE ?_))
  refine w_lcG (items := (arcs h n).map rowD) rfl (wi_l (pn_call2 (k := k + 1) (y := .list ((arcs h n).map rowD)) (n := 1) (pv_slot (x := hD h) rfl) (pv_slot (x := .str n) rfl) (by rw [sig_of hr]; rfl) fun Q q => arcs_law hr s.few q)) (by rw [List.length_map]; omega) (fun x => PyData.eqv (one3 x) (aD a)) two3
    (fun x => [sl (hD h), sl (stD n rows), sl (aD a), sl (.str n), sl (.tuple (rows.map rwD)), sl (in3 x).2.1, sl (in3 x).2.2, none, none, none, none, none, none, sl (in3 x).1, none, none, none]) rfl (vs3 trivial trivial trivial) (fun x hx K hK => ?_) (fun x hx => ?_) (fun x hx _ => ?_) (fun x hx => ⟨vs3 rfl rfl rfl, rfl⟩) ?_
  · obtain ⟨r, _, rfl⟩ := List.mem_map.mp hx
    exact ⟨trivial, trivial, trivial, hK⟩
  · obtain ⟨r, _, rfl⟩ := List.mem_map.mp hx
    refine wc_one (pn_eq (pv_slot (x := aD r.1) rfl).pn (pv_slot (x := aD a) rfl).pn ⟨plain_aD _, plain_aD _, ?_⟩)
    have := depth_aD a
    show min _ (aD a).depth ≤ 60
    omega
  · obtain ⟨r, _, rfl⟩ := List.mem_map.mp hx
    exact pv_tupP (pvl_cons (pv_slot (x := .str r.2.1) rfl) (pvl_cons (pv_slot (x := .int r.2.2) rfl) pvl_nil)) (show 2 ≤ sizeLine by decide)
  have ef : (((arcs h n).map rowD).filter fun x => PyData.eqv (one3 x) (aD a)).map two3 = ((arcs h n).filter fun r => decide (r.1 = a)).map fun r => .tuple [.str r.2.1, .int r.2.2] := by
    rw [List.filter_map, List.map_map]
    have : ((fun x => PyData.eqv (one3 x) (aD a)) ∘ rowD) = fun r : ARow => decide (r.1 = a) := by
      funext r
      show PyData.eqv (aD r.1) (aD a) = _
      exact eqv_aD _ _
    rw [this]; rfl
  rw [ef]
  obtain ⟨r, l, el, hr1, hr2⟩ : ∃ r l, ((arcs h n).filter fun r => decide (r.1 = a)) = r :: l ∧ r ∈ arcs h n ∧ r.1 = a := by
    obtain ⟨r0, m0, e0⟩ := ex
    cases el : (arcs h n).filter fun r => decide (r.1 = a) with
    | nil =>
      rw [List.filter_eq_nil_iff] at el
      exact absurd (decide_eq_true e0) (el r0 m0)
    | cons r l =>
      have hm : r ∈ (arcs h n).filter fun r => decide (r.1 = a) := by rw [el]; exact List.mem_cons_self
      have := List.mem_filter.mp hm
      exact ⟨r, l, rfl, this.1, of_decide_eq_true this.2⟩
  rw [el]
  obtain ⟨ok, g1, g2⟩ := arcs_row hr1
  rw [hr2] at ok g1 g2
  refine pv_int _ ⟨_, at0, ⟨trivial, trivial, ?_⟩⟩
  rw [g1, g2]
  refine w_seq (w_par (wl_consP pv_int.pn (wl_consP pn_nil (wl_nil ⟨⟨rfl, by decide, vs2 trivial trivial⟩, ?_⟩))))
  refine w_seq (w_frz (G := ctx T (k + 1) noX) rfl rfl ?_)
  refine w_seq (w_forP rfl (wi_zipT (pv_idxT (pv_slot (x := hD h) rfl) pv_int at0).pn (pv_slot (x := .tuple (rows.map rwD)) rfl).pn)
    (fun i ρ => ∃ s9 s10 s11 s12, ρ = [sl (hD h), sl (stD n rows), sl (aD a), sl (.str n), sl (.tuple (rows.map rwD)), sl (.str (endOf h a)), sl (.int (growthOf h a)), sl (.int (bh (endsA a) (growthOf h a) n ((h.ms.zip rows).take i)).1), some ⟨.list ((bh (endsA a) (growthOf h a) n ((h.ms.zip rows).take i)).2.map rwD), 1, false, false⟩, s9, s10, s11, s12, none, none, none, none] ∧ Fr1 s9 ∧ Fr1 s10 ∧ Fr1 s11 ∧ Fr1 s12)
    ⟨none, none, none, none, rfl, .inl rfl, .inl rfl, .inl rfl, .inl rfl⟩ ?_ ?_)
  · rintro i x ρ K hx ⟨s9, s10, s11, s12, rfl, f9, f10, f11, f12⟩ fin
    obtain ⟨m, r', hm, hr', rfl⟩ := zip_at hx
    have hmm := List.mem_of_getElem? hm
    have hz : (h.ms.zip rows)[i]? = some (m, r') := by rw [List.getElem?_zip_eq_some]; exact ⟨hm, hr'⟩
    have hl := R.row r' (List.mem_of_getElem? hr')
    have hps := s.ps m hmm
    refine ⟨fr1_free (i := 10) f10 rfl, fr1_free (i := 11) f11 rfl, fr1_free (i := 12) f12 rfl, fr1_free (i := 9) f9 rfl, ?_⟩
    have rest : ∀ (t : Int) (D : KS), D.nx = K → t = (bhStep (endsA a) (growthOf h a) n (bh (endsA a) (growthOf h a) n ((h.ms.zip rows).take i)) (m, r')).1 → wpS (ctx T (k + 1) noX) (.seq (.append 8 (.fn .tuple (.cons (.lc 0 (.fn .min (.cons (.slot 15) (.cons (.bin .add (.slot 14) (.bin .mul (.slot 16) (.slot 6))) (.nil)))) (.tup (.cons (.tup (.cons (.nm 15) (.cons (.nm 16) (.nil)))) (.cons (.nm 14) (.nil)))) (.zp (.slot 12) (.slot 9)) (.nil) [14, 15, 16]) (.nil)))) (.nil))
        [sl (hD h), sl (stD n rows), sl (aD a), sl (.str n), sl (.tuple (rows.map rwD)), sl (.str (endOf h a)), sl (.int (growthOf h a)), sl (.int t), some ⟨.list ((bh (endsA a) (growthOf h a) n ((h.ms.zip rows).take i)).2.map rwD), 1, false, false⟩, sl (rwD (leftOf (endsA a) n m r')), sl (.str m.nm), sl (.int m.tm), sl (.tuple (m.ps.map pD)), none, none, none, none] D := fun t D eD ht => by
      have bl := bh_len (e := endsA a) (g := growthOf h a) (n := n) ((h.ms.zip rows).take i)
      have zl : ((h.ms.zip rows).take i).length ≤ 20 := by rw [List.length_take, List.length_zip]; omega
      refine w_seq (w_app (n := 0) rfl (by rw [List.length_map]; omega) (pv_tupL (n := 1) (ds := (outRow (growthOf h a) m.ps (leftOf (endsA a) n m r')).map .int) fun K hK => ?_) ?_)
      · refine w_lcA (items := zipD (m.ps.map pD) ((leftOf (endsA a) n m r').map .int)) rfl (wi_zipT (pv_slot (x := .tuple (m.ps.map pD)) rfl).pn (pv_slot (x := rwD (leftOf (endsA a) n m r')) rfl).pn) (by have := zip_len2 (f := pD) (g := PyData.int) m.ps (leftOf (endsA a) n m r'); have := hps.1; omega) (capB (growthOf h a))
          (fun x => [sl (hD h), sl (stD n rows), sl (aD a), sl (.str n), sl (.tuple (rows.map rwD)), sl (.str (endOf h a)), sl (.int (growthOf h a)), sl (.int t), some ⟨.list ((bh (endsA a) (growthOf h a) n ((h.ms.zip rows).take i)).2.map rwD), 1, false, false⟩, sl (rwD (leftOf (endsA a) n m r')), sl (.str m.nm), sl (.int m.tm), sl (.tuple (m.ps.map pD)), none, sl (en2 x).2, sl (en2 (en2 x).1).1, sl (en2 (en2 x).1).2]) rfl (vs3 trivial trivial trivial) (fun x hx K hK => ?_) (fun x hx => ?_) (fun x hx => ⟨vs3 rfl rfl rfl, rfl⟩) ?_
        · obtain ⟨p, _, v, _, rfl⟩ := zip_mem hx
          exact ⟨trivial, trivial, trivial, hK⟩
        · obtain ⟨p, hp, v, _, rfl⟩ := zip_mem hx
          exact pv_min2 (pv_slot (x := .int p.1) rfl) (pv_addI (pv_slot (x := .int v) rfl) (pv_mulI (pv_slot (x := .int p.2) rfl) (pv_slot rfl) (mul_small (hps.2 p hp) gs)))
        · rw [zip_map, ← outRow_map]; exact hK
      · show D.nx _
        rw [eD]
        refine fin _ ⟨sl (rwD (leftOf (endsA a) n m r')), sl (.str m.nm), sl (.int m.tm), sl (.tuple (m.ps.map pD)), ?_, .inr ⟨_, rfl⟩, .inr ⟨_, rfl⟩, .inr ⟨_, rfl⟩, .inr ⟨_, rfl⟩⟩
        rw [bh_take hz, ← ht]
        unfold bhStep
        rw [List.map_append]; rfl
    have cond : Pv (ctx T (k + 1) noX) (.and (.cmp .eq (.slot 10) (.slot 3)) (.cmp .ne (.idx (.slot 2) (.int 0)) (.str "up"))) [sl (hD h), sl (stD n rows), sl (aD a), sl (.str n), sl (.tuple (rows.map rwD)), sl (.str (endOf h a)), sl (.int (growthOf h a)), sl (.int (bh (endsA a) (growthOf h a) n ((h.ms.zip rows).take i)).1), some ⟨.list ((bh (endsA a) (growthOf h a) n ((h.ms.zip rows).take i)).2.map rwD), 1, false, false⟩, sl (rwD r'), sl (.str m.nm), sl (.int m.tm), sl (.tuple (m.ps.map pD)), none, none, none, none] (.bool (decide (m.nm = n) && endsA a)) :=
      pv_and (pv_eqS (pv_slot rfl) (pv_slot rfl)) fun _ => pv_ends rfl
    refine w_seq (w_ite cond (fun ht => ?_) (fun hf => ?_))
    · refine w_seq (w_par (wl_consP (pv_addI (pv_slot (x := .int m.tm) rfl) (pv_sumT (l := r') (pv_slot (x := rwD r') rfl).pn)).pn (wl_consP (pv_mulT (ds := [.int 0]) (pv_tupP (pvl_cons pv_int pvl_nil) (show 1 ≤ sizeLine by decide)) (pv_lenT (pv_slot (x := rwD r') rfl)) (by omega) (by rw [List.length_map]; omega) (show 1 ≤ 1000 by decide)).pn (wl_nil ⟨⟨rfl, by decide, vs2 rfl rfl⟩, ?_⟩))))
      refine w_seq (w_frz (G := ctx T (k + 1) noX) rfl rfl (w_seq (w_frz (G := ctx T (k + 1) noX) rfl rfl (w_nil (G := ctx T (k + 1) noX) ?_))))
      have e1 : leftOf (endsA a) n m r' = r'.map fun _ => 0 := by unfold leftOf; rw [if_pos ht]
      have e2 := fun D eD => rest (m.tm + r'.sum) D eD (by unfold bhStep; rw [if_pos ht])
      rw [e1] at e2
      rw [zeros_eq]
      exact e2 _ rfl
    · refine w_nil (G := ctx T (k + 1) noX) ?_
      have e1 : leftOf (endsA a) n m r' = r' := by unfold leftOf; rw [if_neg (by rw [hf]; exact Bool.false_ne_true)]
      have e2 := fun D eD => rest _ D eD (by unfold bhStep; rw [if_neg (by rw [hf]; exact Bool.false_ne_true)])
      rw [e1] at e2
      exact e2 _ rfl
  · rintro ρ ⟨s9, s10, s11, s12, rfl, f9, f10, f11, f12⟩
    have el : (h.ms.zip rows).take (zipD (h.ms.map mD) (rows.map rwD)).length = h.ms.zip rows := by
      rw [List.take_of_length_le]
      rw [zip_len, List.length_map, List.length_map, List.length_zip]; exact Nat.le_refl _
    rw [el]
    refine w_seq (w_ret (pv_tupP (pvl_cons (pv_tupP (pvl_cons (pv_slot (x := .str (endOf h a)) rfl) (pvl_cons (pv_tupS rfl (nc_rows _)) pvl_nil)) (show 2 ≤ sizeLine by decide)) (pvl_cons (pv_slot rfl) pvl_nil)) (show 2 ≤ sizeLine by decide)) ⟨[], rfl, q⟩)
end
end PL
end
section
set_option Elab.async false
set_option linter.all false
set_option maxRecDepth 100000
/-! PG12: more defs as terms: states of any value (printed by lib.py). -/
namespace PL
def psr_B (pii : Nat) : Sm := .seq (.ite (.or (.not (.isT [.tuple] (.slot 1))) (.cmp .ne (.fn .len (.cons (.slot 1) (.nil))) (.fn .len (.cons (.slot 0) (.nil))))) (.seq (.ret (.bool false)) (.nil)) (.nil)) (.seq (.ret (.fn .all (.cons (.lc 0 (.and (.call pii (.cons (.slot 2) (.nil))) (.chain .le .le (.int 0) (.slot 2) (.slot 3))) (.tup (.cons (.nm 2) (.cons (.tup (.cons (.nm 3) (.cons (.nm 4) (.nil)))) (.nil)))) (.zp (.slot 1) (.slot 0)) (.nil) [2, 3, 4]) (.nil)))) (.nil))
def psr_I (pii : Nat) : FnI := ⟨"is_row", 2, 5, [0, 0], psr_B pii⟩
def pss_B (pna psr : Nat) : Sm := .seq (.ite (.or (.not (.isT [.tuple] (.slot 1))) (.or (.cmp .ne (.fn .len (.cons (.slot 1) (.nil))) (.int 2)) (.not (.isT [.str] (.idx (.slot 1) (.int 0)))))) (.seq (.ret (.bool false)) (.nil)) (.nil)) (.seq (.ite (.or (.cmp .notin (.idx (.slot 1) (.int 0)) (.call pna (.cons (.slot 0) (.nil)))) (.or (.not (.isT [.tuple] (.idx (.slot 1) (.int 1)))) (.cmp .ne (.fn .len (.cons (.idx (.slot 1) (.int 1)) (.nil))) (.fn .len (.cons (.idx (.slot 0) (.int 0)) (.nil)))))) (.seq (.ret (.bool false)) (.nil)) (.nil)) (.seq (.ret (.fn .all (.cons (.lc 0 (.call psr (.cons (.slot 5) (.cons (.slot 2) (.nil)))) (.tup (.cons (.nm 2) (.cons (.tup (.cons (.nm 3) (.cons (.nm 4) (.cons (.nm 5) (.nil))))) (.nil)))) (.zp (.idx (.slot 1) (.int 1)) (.idx (.slot 0) (.int 0))) (.nil) [2, 3, 4, 5]) (.nil)))) (.nil)))
def pss_I (pna psr : Nat) : FnI := ⟨"is_state", 2, 6, [0, 0], pss_B pna psr⟩
def ist_B (na ii : Nat) : Sm := .seq (.ite (.or (.not (.isT [.tuple] (.slot 1))) (.or (.cmp .ne (.fn .len (.cons (.slot 1) (.nil))) (.int 2)) (.or (.not (.isT [.str] (.idx (.slot 1) (.int 0)))) (.cmp .notin (.idx (.slot 1) (.int 0)) (.call na (.cons (.slot 0) (.nil))))))) (.seq (.ret (.bool false)) (.nil)) (.nil)) (.seq (.ite (.or (.not (.isT [.tuple] (.idx (.slot 1) (.int 1)))) (.cmp .ne (.fn .len (.cons (.idx (.slot 1) (.int 1)) (.nil))) (.fn .len (.cons (.idx (.slot 0) (.int 0)) (.nil))))) (.seq (.ret (.bool false)) (.nil)) (.nil)) (.seq (.for_ (.tup (.cons (.tup (.cons (.nm 3) (.cons (.nm 4) (.cons (.nm 5) (.nil))))) (.cons (.nm 2) (.nil)))) (.zp (.idx (.slot 0) (.int 0)) (.idx (.slot 1) (.int 1))) (.seq (.ite (.or (.not (.isT [.tuple] (.slot 2))) (.cmp .ne (.fn .len (.cons (.slot 2) (.nil))) (.fn .len (.cons (.slot 5) (.nil))))) (.seq (.ret (.bool false)) (.nil)) (.nil)) (.seq (.ite (.cmp .ne (.lc 0 (.int 1) (.tup (.cons (.tup (.cons (.nm 7) (.cons (.nm 8) (.nil)))) (.cons (.nm 6) (.nil)))) (.zp (.slot 5) (.slot 2)) (.cons (.or (.not (.call ii (.cons (.slot 6) (.nil)))) (.not (.chain .le .le (.int 0) (.slot 6) (.slot 7)))) (.nil)) [6, 7, 8]) (.lst 0 (.nil))) (.seq (.ret (.bool false)) (.nil)) (.nil)) (.nil)))) (.seq (.ret (.bool true)) (.nil))))
def ist_I (na ii : Nat) : FnI := ⟨"_law_is_state", 2, 9, [0, 0], ist_B na ii⟩
def od_B (so : Nat) : Sm := .seq (.asg 1 (.lst 0 (.cons (.none) (.cons (.bool true) (.cons (.bool false) (.cons (.int 0) (.cons (.int 1) (.cons (.neg (.int 1)) (.cons (.bin .pow (.int 10) (.int 39)) (.cons (.str "") (.cons (.str "fill") (.cons (.str "up") (.cons (.tup (.nil)) (.cons (.lst 0 (.nil)) (.cons (.dnil) (.cons (.tup (.cons (.int 0) (.nil))) (.cons (.tup (.cons (.str "next") (.nil))) (.cons (.tup (.cons (.str "fill") (.cons (.tup (.nil)) (.nil)))) (.cons (.tup (.cons (.int 1) (.cons (.int 0) (.nil)))) (.nil)))))))))))))))))))) (.seq (.frz 1) (.seq (.ret (.call so (.cons (.lend 0) (.cons (.bin .add (.slot 1) (.lst 0 (.cons (.lst 0 (.cons (.str "fill") (.cons (.tup (.nil)) (.nil)))) (.cons (.tup (.cons (.str "up") (.cons (.int 0) (.nil)))) (.cons (.dsp (.str "fill") (.tup (.cons (.int 0) (.nil)))) (.cons (.dsp (.int 0) (.int 1)) (.cons (.str "a\n") (.cons (.tup (.cons (.tup (.cons (.str "next") (.cons (.str "fill") (.nil)))) (.nil))) (.nil))))))))) (.nil))))) (.nil)))
def od_I (so : Nat) : FnI := ⟨"_law_odd", 1, 2, [2], od_B so⟩
def bn_B (ta od ii so bn : Nat) : Sm := .seq (.ite (.or (.cmp .eq (.slot 2) (.int 0)) (.cmp .eq (.call ta (.cons (.lend 0) (.cons (.int 9) (.nil)))) (.int 0))) (.seq (.ret (.call od (.cons (.lend 0) (.nil)))) (.nil)) (.nil)) (.seq (.ite (.call ii (.cons (.slot 1) (.nil))) (.seq (.ret (.call so (.cons (.lend 0) (.cons (.lst 0 (.cons (.bin .add (.slot 1) (.int 1)) (.cons (.bin .sub (.slot 1) (.int 1)) (.cons (.int 0) (.cons (.neg (.slot 1)) (.cons (.cmp .eq (.slot 1) (.int 1)) (.cons (.none) (.cons (.bin .mul (.int 2) (.slot 1)) (.cons (.fn .str (.cons (.slot 1) (.nil))) (.nil)))))))))) (.nil))))) (.nil)) (.nil)) (.seq (.ite (.and (.isT [.dict] (.slot 1)) (.cmp .ne (.slot 1) (.dnil))) (.seq (.dead) (.seq (.unp (.tup (.cons (.nm 9) (.cons (.nm 10) (.nil)))) (.idx (.slot 3) (.int 0))) (.seq (.asg 4 (.bin .add (.slc (.slot 3) (.cons (.int 1) .nil) (.nil)) (.lst 0 (.cons (.tup (.cons (.slot 9) (.cons (.call bn (.cons (.lend 0) (.cons (.slot 10) (.cons (.bin .sub (.slot 2) (.int 1)) (.nil))))) (.nil)))) (.nil))))) (.seq (.frz 4) (.seq (.asg 5 (.lst 0 (.cons (.slc (.slot 3) (.cons (.int 1) .nil) (.nil)) (.cons (.slot 4) (.cons (.slot 4) (.nil)))))) (.seq (.frz 5) (.seq (.dead) (.nil)))))))) (.nil)) (.seq (.ite (.or (.not (.isT [.tuple] (.slot 1))) (.cmp .eq (.slot 1) (.tup (.nil)))) (.seq (.ret (.call so (.cons (.lend 0) (.cons (.lst 0 (.cons (.call od (.cons (.lend 0) (.nil))) (.cons (.ite (.isT [.str] (.slot 1)) (.bin .mul (.slot 1) (.int 2)) (.call od (.cons (.lend 0) (.nil)))) (.nil)))) (.nil))))) (.nil)) (.nil)) (.seq (.par [6, 7] (.cons (.call ta (.cons (.lend 0) (.cons (.int 9) (.nil)))) (.cons (.call ta (.cons (.lend 0) (.cons (.fn .len (.cons (.slot 1) (.nil))) (.nil)))) (.nil)))) (.seq (.frz 6) (.seq (.frz 7) (.seq (.ite (.cmp .eq (.slot 6) (.int 0)) (.seq (.asg 8 (.lst 0 (.cons (.fn .list (.cons (.slot 1) (.nil))) (.cons (.rev (.slot 1)) (.cons (.bin .add (.slc (.slot 1) (.nil) (.cons (.slot 7) .nil)) (.slc (.slot 1) (.cons (.bin .add (.slot 7) (.int 1)) .nil) (.nil))) (.cons (.bin .add (.slc (.slot 1) (.nil) (.cons (.bin .add (.slot 7) (.int 1)) .nil)) (.slc (.slot 1) (.cons (.slot 7) .nil) (.nil))) (.nil))))))) (.seq (.frz 8) (.seq (.ret (.call so (.cons (.lend 0) (.cons (.bin .add (.slot 8) (.lst 0 (.cons (.bin .add (.slot 1) (.tup (.cons (.none) (.nil)))) (.nil)))) (.nil))))) (.nil)))) (.nil)) (.seq (.ret (.bin .add (.bin .add (.slc (.slot 1) (.nil) (.cons (.slot 7) .nil)) (.tup (.cons (.call bn (.cons (.lend 0) (.cons (.idx (.slot 1) (.slot 7)) (.cons (.bin .sub (.slot 2) (.int 1)) (.nil))))) (.nil)))) (.slc (.slot 1) (.cons (.bin .add (.slot 7) (.int 1)) .nil) (.nil)))) (.nil)))))))))
def bn_I (ta od ii so bn : Nat) : FnI := ⟨"_law_bent", 3, 11, [2, 0, 0], bn_B ta od ii so bn⟩
def ah_B (so ta we li tr ha : Nat) : Sm := .seq (.asg 1 (.call so (.cons (.lend 0) (.cons (.lst 0 (.cons (.int 2) (.cons (.int 1) (.cons (.int 3) (.cons (.int 0) (.cons (.int 2) (.nil))))))) (.nil))))) (.seq (.frz 1) (.seq (.asg 2 (.call ta (.cons (.lend 0) (.cons (.int 6) (.nil))))) (.seq (.frz 2) (.seq (.ite (.cmp .eq (.slot 2) (.int 0)) (.seq (.ret (.call we (.cons (.lend 0) (.cons (.slot 1) (.cons (.int 3) (.nil)))))) (.nil)) (.nil)) (.seq (.ite (.cmp .eq (.slot 2) (.int 1)) (.seq (.ret (.call li (.cons (.lend 0) (.cons (.slot 1) (.cons (.int 3) (.nil)))))) (.nil)) (.nil)) (.seq (.ite (.cmp .eq (.slot 2) (.int 2)) (.seq (.ret (.call tr (.cons (.lend 0) (.cons (.slot 1) (.cons (.int 3) (.nil)))))) (.nil)) (.nil)) (.seq (.ret (.call ha (.cons (.lend 0) (.cons (.slot 1) (.cons (.int 3) (.nil)))))) (.nil))))))))
def ah_I (so ta we li tr ha : Nat) : FnI := ⟨"_law_any_hall", 1, 3, [2], ah_B so ta we li tr ha⟩
def dst_B (so ta na : Nat) : Sm := .seq (.asg 2 (.lst 0 (.nil))) (.seq (.for_ (.tup (.cons (.nm 3) (.cons (.nm 4) (.cons (.nm 5) (.nil))))) (.itv (.idx (.slot 1) (.int 0))) (.seq (.append 2 (.fn .tuple (.cons (.lc 0 (.call so (.cons (.lend 0) (.cons (.lst 0 (.cons (.slot 6) (.cons (.int 0) (.cons (.call ta (.cons (.lend 0) (.cons (.bin .add (.slot 6) (.int 1)) (.nil)))) (.nil))))) (.nil)))) (.tup (.cons (.nm 6) (.cons (.nm 7) (.nil)))) (.itv (.slot 5)) (.nil) [6, 7]) (.nil)))) (.nil))) (.seq (.ret (.tup (.cons (.call so (.cons (.lend 0) (.cons (.call na (.cons (.slot 1) (.nil))) (.nil)))) (.cons (.fnS .tuple 2) (.nil))))) (.nil)))
def dst_I (so ta na : Nat) : FnI := ⟨"_law_drawn_state", 2, 8, [2, 0], dst_B so ta na⟩
end PL
end
section
set_option Elab.async false
set_option linter.all false
set_option maxRecDepth 100000
set_option maxHeartbeats 800000
/-! PG13: whether any value is a state. -/
namespace PL
open L2 PySem.Spec PySem
def isIntB : PyData → Bool | .int _ => true | _ => false
theorem int_notBool (d : PyData) : (isTy .int d && !isTy .bool d) = isIntB d := by cases d <;> rfl
def heldOk (p : Int × Int) : PyData → Bool | .int i => decide (0 ≤ i) && decide (i ≤ p.1) | _ => false
def rowOk (ps : List (Int × Int)) : PyData → Bool | .tuple ds => decide (ds.length = ps.length) && (List.zipWith (fun d p => heldOk p d) ds ps).all id | _ => false
def stOk (h : Hall) : PyData → Bool
  | .tuple [.str z, .tuple rs] => decide (z ∈ h.ms.map Mc.nm) && (decide (rs.length = h.ms.length) && (List.zipWith (fun r m => rowOk m.ps r) rs h.ms).all id)
  | _ => false
theorem vs4 {ρ : PL.Env} {i j l m : Nat} (h1 : free i ρ) (h2 : free j ρ) (h3 : free l ρ) (h4 : free m ρ) : okForget [i, j, l, m] ρ := fun x hx => by
  simp only [List.mem_cons, List.not_mem_nil, or_false] at hx
  rcases hx with rfl | rfl | rfl | rfl
  · exact h1
  · exact h2
  · exact h3
  · exact h4
section
variable {G : PL.Ctx} {T : Tab} {k na ii pii psr pna pss ist n m i : Nat} {h : Hall} {Q : KF} {a b c : PL.E} {ρ : PL.Env} {d x : PyData} {ps : List (Int × Int)} {v w z : Int}
theorem pv_neF (ha : Pv G a ρ (.int v)) (hb : Pv G b ρ (.int w)) (e : v = w) : Pv G (.cmp .ne a b) ρ (.bool false) := by
  have := pv_neI ha hb
  rwa [decide_eq_true e] at this
theorem pv_neT (ha : Pv G a ρ (.int v)) (hb : Pv G b ρ (.int w)) (e : v ≠ w) : Pv G (.cmp .ne a b) ρ (.bool true) := by
  have := pv_neI ha hb
  rwa [decide_eq_false e] at this
theorem pv_chain (ha : Pv G a ρ (.int v)) (hb : Pv G b ρ (.int w)) (hc : Pv G c ρ (.int z)) : Pv G (.chain .le .le a b c) ρ (.bool (decide (v ≤ w) && decide (w ≤ z))) := fun K q => ha _ (hb _ (by
  show if decide (v ≤ w) = true then _ else _
  by_cases e : v ≤ w
  · rw [if_pos (decide_eq_true e)]
    refine hc _ ?_
    show K (.bool (decide (w ≤ z))) 0 ρ
    rw [decide_eq_true e, Bool.true_and] at q
    exact q
  · rw [if_neg (by simpa using e)]
    rw [decide_eq_false e, Bool.false_and] at q
    exact q))
theorem pv_notinT {l : List Str} {s : Str} (ha : Pv G a ρ (.str s)) (hb : Pn G b ρ (.tuple (l.map .str)) n) : Pv G (.cmp .notin a b) ρ (.bool (!decide (s ∈ l))) := fun K q => ha _ (hb _ ⟨⟨plain_strs l, rfl, (by show min 0 _ ≤ dLow; rw [Nat.zero_min]; exact Nat.zero_le _)⟩, by rw [any_in]; exact q⟩)
theorem pv_notinL {l : List Str} {s : Str} (ha : Pv G a ρ (.str s)) (hb : Pn G b ρ (.list (l.map .str)) n) : Pv G (.cmp .notin a b) ρ (.bool (!decide (s ∈ l))) := fun K q => ha _ (hb _ ⟨⟨plain_strs l, rfl, (by show min 0 _ ≤ dLow; rw [Nat.zero_min]; exact Nat.zero_le _)⟩, by rw [any_in]; exact q⟩)
theorem ii_ok (hi : T.fns[ii]? = some ii_I) (q : Q (.bool (isIntB d)) 0 []) : wpF T (k + 1) ii [d] Q noX := by
  refine wpF_step hi rfl ?_
  show wpS (ctx T k noX) ii_B [sl d] (endsOf ii_I Q)
  unfold ii_B
  refine w_seq (w_ret (pv_and (pv_isT (pv_slot rfl).pn) fun _ => pv_not (pv_isT (pv_slot rfl).pn)) ⟨[], rfl, ?_⟩)
  rw [int_notBool]; exact q
theorem pii_ok (hi : T.fns[pii]? = some pii_I) (q : Q (.bool (isIntB d)) 0 []) : wpF T (k + 1) pii [d] Q noX := by
  refine wpF_step hi rfl ?_
  show wpS (ctx T k noX) pii_B [sl d] (endsOf pii_I Q)
  unfold pii_B
  refine w_seq (w_ret (pv_and (pv_isT (pv_slot rfl).pn) fun _ => pv_not (pv_isT (pv_slot rfl).pn)) ⟨[], rfl, ?_⟩)
  rw [int_notBool]; exact q
def gHeld : PyData → PyData | .tuple [d, .tuple [.int s, .int b]] => .bool (heldOk (s, b) d) | _ => .none
theorem row_prog (hi : T.fns[psr]? = some (psr_I pii)) (h2 : T.fns[pii]? = some pii_I) (few : ps.length ≤ 100) (q : Q (.bool (rowOk ps d)) 0 []) : wpF T (k + 2) psr [.tuple (ps.map pD), d] Q noX := by
  refine wpF_step hi rfl ?_
  show wpS (ctx T (k + 1) noX) (psr_B pii) [sl (.tuple (ps.map pD)), sl d, none, none, none] (endsOf (psr_I pii) Q)
  unfold psr_B
  have bg := big
  have no : isTy .tuple d = false → wpS (ctx T (k + 1) noX) (psr_B pii) [sl (.tuple (ps.map pD)), sl d, none, none, none] (endsOf (psr_I pii) Q) := fun e => by
    unfold psr_B
    have p1 := pv_not (pv_isT (G := ctx T (k + 1) noX) (ρ := [sl (.tuple (ps.map pD)), sl d, none, none, none]) (ty := .tuple) (pv_slot (i := 1) rfl).pn)
    rw [e] at p1
    refine w_seq (w_ite (pv_or (u := true) p1 (fun z => by cases z)) (fun _ => ?_) (fun z => by cases z))
    refine w_seq (w_ret pv_bool ⟨[], rfl, ?_⟩)
    have : rowOk ps d = false := by cases d <;> first | rfl | cases e
    rw [this] at q; exact q
  cases d with
  | tuple ds =>
    refine w_seq (w_ite (pv_or (t := false) (pv_not (pv_isT (pv_slot (i := 1) (x := .tuple ds) rfl).pn)) fun _ => pv_neI (pv_lenT (pv_slot (x := .tuple ds) rfl)) (pv_lenT (pv_slot (x := .tuple (ps.map pD)) rfl))) (fun ht => ?_) (fun hf => ?_))
    · refine w_seq (w_ret pv_bool ⟨[], rfl, ?_⟩)
      rw [Bool.false_or, Bool.not_eq_true', decide_eq_false_iff_not, List.length_map] at ht
      have : rowOk ps (.tuple ds) = false := by
        show (decide (ds.length = ps.length) && _) = false
        rw [decide_eq_false (by omega), Bool.false_and]
      rw [this] at q; exact q
    · rw [Bool.false_or, Bool.not_eq_false', decide_eq_true_eq, List.length_map] at hf
      have hl : ds.length = ps.length := by omega
      refine w_nil (G := ctx T (k + 1) noX) (w_seq (w_ret (pv_all (n := 1) (bs := List.zipWith (fun d p => heldOk p d) ds ps) fun K hK => ?_) ⟨[], rfl, ?_⟩))
      · have ed : zipD ds (ps.map pD) = zipD (ds.map id) (ps.map pD) := by rw [List.map_id]
        refine w_lcA (items := zipD (ds.map id) (ps.map pD)) rfl (by rw [← ed]; exact wi_zipT (pv_slot (x := .tuple ds) rfl).pn (pv_slot (x := .tuple (ps.map pD)) rfl).pn) (by have := zip_len2 (f := id) (g := pD) ds ps; omega) gHeld (fun x => [sl (.tuple (ps.map pD)), sl (.tuple ds), sl (en2 x).1, sl (en2 (en2 x).2).1, sl (en2 (en2 x).2).2]) rfl (vs3 trivial trivial trivial) (fun x hx K hK => ?_) (fun x hx => ?_) (fun x hx => ⟨vs3 rfl rfl rfl, rfl⟩) ?_
        · obtain ⟨e, _, p, _, rfl⟩ := zip_mem hx
          exact ⟨trivial, trivial, trivial, hK⟩
        · obtain ⟨e, _, p, _, rfl⟩ := zip_mem hx
          show Pv (ctx T (k + 1) noX) _ [sl (.tuple (ps.map pD)), sl (.tuple ds), sl e, sl (.int p.1), sl (.int p.2)] (.bool (heldOk p e))
          have pc := pv_call1 (T := T) (k := k + 1) (f := pii) (ρ := [sl (.tuple (ps.map pD)), sl (.tuple ds), sl e, sl (.int p.1), sl (.int p.2)]) (a := .slot 2) (x := e) (y := .bool (isIntB e)) (pv_slot rfl) (by rw [sig_of h2]; rfl) fun Q q => pii_ok h2 q
          cases e with
          | int v => exact pv_and (t := true) (u := decide (0 ≤ v) && decide (v ≤ p.1)) pc fun _ => pv_chain pv_int (pv_slot (x := .int v) rfl) (pv_slot rfl)
          | none => exact pv_and (u := true) pc fun z => by cases z
          | bool b => exact pv_and (u := true) pc fun z => by cases z
          | str b => exact pv_and (u := true) pc fun z => by cases z
          | list b => exact pv_and (u := true) pc fun z => by cases z
          | tuple b => exact pv_and (u := true) pc fun z => by cases z
          | dict b => exact pv_and (u := true) pc fun z => by cases z
        · rw [zip_map, List.map_zipWith] at *
          exact hK
      · have : rowOk ps (.tuple ds) = (List.zipWith (fun d p => heldOk p d) ds ps).all id := by
          show (decide (ds.length = ps.length) && _) = _
          rw [decide_eq_true hl, Bool.true_and]
        rw [this] at q; exact q
  | none => exact no rfl
  | bool b => exact no rfl
  | int b => exact no rfl
  | str b => exact no rfl
  | list b => exact no rfl
  | dict b => exact no rfl
/-- what may not be a state at first sight -/
theorem isTy_tuple {d : PyData} (e : isTy .tuple d = false) : ∀ ds, d ≠ .tuple ds := fun ds z => by rw [z] at e; cases e
def gRow : PyData → PyData | .tuple [r, .tuple [_, _, .tuple ps]] => .bool (rowOk (ps.map fun p => match p with | .tuple [.int s, .int b] => (s, b) | _ => (0, 0)) r) | _ => .none
theorem ps_back (ps : List (Int × Int)) : ((ps.map pD).map fun p => match p with | .tuple [.int s, .int b] => (s, b) | _ => (0, 0)) = ps := by
  rw [List.map_map]
  conv => rhs; rw [← List.map_id ps]
  exact List.map_congr_left fun p _ => rfl
theorem state_prog (hi : T.fns[pss]? = some (pss_I pna psr)) (h1 : T.fns[pna]? = some pna_I) (h2 : T.fns[psr]? = some (psr_I pii)) (h3 : T.fns[pii]? = some pii_I) (s : NumH h) (q : Q (.bool (stOk h d)) 0 []) : wpF T (k + 3) pss [hD h, d] Q noX := by
  refine wpF_step hi rfl ?_
  show wpS (ctx T (k + 2) noX) (pss_B pna psr) [sl (hD h), sl d, none, none, none, none] (endsOf (pss_I pna psr) Q)
  have bg := big
  have hs := s.few.ms
  have first : ∀ b : Bool, b = true → stOk h d = false → Pv (ctx T (k + 2) noX) (.or (.not (.isT [.tuple] (.slot 1))) (.or (.cmp .ne (.fn .len (.cons (.slot 1) (.nil))) (.int 2)) (.not (.isT [.str] (.idx (.slot 1) (.int 0)))))) [sl (hD h), sl d, none, none, none, none] (.bool b) → wpS (ctx T (k + 2) noX) (pss_B pna psr) [sl (hD h), sl d, none, none, none, none] (endsOf (pss_I pna psr) Q) := fun b eb e p => by
    unfold pss_B
    refine w_seq (w_ite p (fun _ => ?_) (fun z => by rw [eb] at z; cases z))
    refine w_seq (w_ret pv_bool ⟨[], rfl, ?_⟩)
    rw [e] at q; exact q
  have notT : (∀ ds, d ≠ .tuple ds) → wpS (ctx T (k + 2) noX) (pss_B pna psr) [sl (hD h), sl d, none, none, none, none] (endsOf (pss_I pna psr) Q) := fun nt => by
    refine first (!isTy .tuple d || true) (by simp) ?_ (pv_or (pv_not (pv_isT (pv_slot rfl).pn)) fun z => ?_)
    · cases d <;> first | rfl | exact absurd rfl (nt _)
    · exfalso
      cases d <;> first | exact absurd rfl (nt _) | cases z
  cases d with
  | tuple ds =>
    by_cases hl : ds.length = 2
    · match ds, hl with
      | [x, y], _ =>
        have p0 := pv_or (t := false) (pv_not (pv_isT (G := ctx T (k + 2) noX) (ρ := [sl (hD h), sl (.tuple [x, y]), none, none, none, none]) (ty := .tuple) (pv_slot (i := 1) (x := .tuple [x, y]) rfl).pn)) fun _ => pv_or (t := false) (pv_neF (pv_lenT (pv_slot (i := 1) (x := .tuple [x, y]) rfl)) pv_int rfl) fun _ => pv_not (pv_isT (ty := .str) (pv_idxT (pv_slot (i := 1) (x := .tuple [x, y]) rfl) pv_int at0).pn)
        by_cases hx : isTy .str x = true
        · obtain ⟨z, rfl⟩ : ∃ z, x = .str z := by cases x <;> first | exact ⟨_, rfl⟩ | cases hx
          unfold pss_B
          refine w_seq (w_ite p0 (fun z => by cases z) (fun _ => w_nil (G := ctx T (k + 2) noX) ?_))
          have pn : Pv (ctx T (k + 2) noX) (.cmp .notin (.idx (.slot 1) (.int 0)) (.call pna (.cons (.slot 0) (.nil)))) [sl (hD h), sl (.tuple [.str z, y]), none, none, none, none] (.bool (!decide (z ∈ h.ms.map Mc.nm))) :=
            pv_notinT (n := 0) (pv_idxT (pv_slot (x := .tuple [.str z, y]) rfl) pv_int at0) (pn_call1 (k := k + 2) (pv_slot (x := hD h) rfl) (by rw [sig_of h1]; rfl) fun Q q => names_prog h1 s.few q)
          have second : ∀ b : Bool, b = true → stOk h (.tuple [.str z, y]) = false → Pv (ctx T (k + 2) noX) (.or (.cmp .notin (.idx (.slot 1) (.int 0)) (.call pna (.cons (.slot 0) (.nil)))) (.or (.not (.isT [.tuple] (.idx (.slot 1) (.int 1)))) (.cmp .ne (.fn .len (.cons (.idx (.slot 1) (.int 1)) (.nil))) (.fn .len (.cons (.idx (.slot 0) (.int 0)) (.nil)))))) [sl (hD h), sl (.tuple [.str z, y]), none, none, none, none] (.bool b) → ∀ r, wpS (ctx T (k + 2) noX) (.seq (.ite (.or (.cmp .notin (.idx (.slot 1) (.int 0)) (.call pna (.cons (.slot 0) (.nil)))) (.or (.not (.isT [.tuple] (.idx (.slot 1) (.int 1)))) (.cmp .ne (.fn .len (.cons (.idx (.slot 1) (.int 1)) (.nil))) (.fn .len (.cons (.idx (.slot 0) (.int 0)) (.nil)))))) (.seq (.ret (.bool false)) (.nil)) (.nil)) r) [sl (hD h), sl (.tuple [.str z, y]), none, none, none, none] (endsOf (pss_I pna psr) Q) := fun b eb e p r => by
            refine w_seq (w_ite p (fun _ => ?_) (fun z => by rw [eb] at z; cases z))
            refine w_seq (w_ret pv_bool ⟨[], rfl, ?_⟩)
            rw [e] at q; exact q
          by_cases hz : z ∈ h.ms.map Mc.nm
          · rw [decide_eq_true hz] at pn
            by_cases hy : isTy .tuple y = true
            · obtain ⟨rs, rfl⟩ : ∃ rs, y = .tuple rs := by cases y <;> first | exact ⟨_, rfl⟩ | cases hy
              have p2 := pv_or (t := false) pn fun _ => pv_or (t := false) (pv_not (pv_isT (ty := .tuple) (pv_idxT (pv_slot (i := 1) (x := .tuple [.str z, .tuple rs]) rfl) pv_int at1).pn)) fun _ => pv_neI (pv_lenT (pv_idxT (pv_slot (i := 1) (x := .tuple [.str z, .tuple rs]) rfl) pv_int at1)) (pv_lenT (pv_idxT (pv_slot (i := 0) (x := hD h) rfl) pv_int at0))
              by_cases hr : rs.length = h.ms.length
              · refine w_seq (w_ite p2 (fun z => by simp [hr] at z) (fun _ => w_nil (G := ctx T (k + 2) noX) ?_))
                refine w_seq (w_ret (pv_all (n := 1) (bs := List.zipWith (fun r m => rowOk m.ps r) rs h.ms) fun K hK => ?_) ⟨[], rfl, ?_⟩)
                · have ed : zipD rs (h.ms.map mD) = zipD (rs.map id) (h.ms.map mD) := by rw [List.map_id]
                  refine w_lcA (items := zipD (rs.map id) (h.ms.map mD)) rfl (by rw [← ed]; exact wi_zipT (pv_idxT (pv_slot (x := .tuple [.str z, .tuple rs]) rfl) pv_int at1).pn (pv_idxT (pv_slot (x := hD h) rfl) pv_int at0).pn) (by have := zip_len2 (f := id) (g := mD) rs h.ms; omega) gRow (fun x => [sl (hD h), sl (.tuple [.str z, .tuple rs]), sl (en2 x).1, sl (in3 (en2 x).2).1, sl (in3 (en2 x).2).2.1, sl (in3 (en2 x).2).2.2]) rfl (vs4 trivial trivial trivial trivial) (fun x hx K hK => ?_) (fun x hx => ?_) (fun x hx => ⟨vs4 rfl rfl rfl rfl, rfl⟩) ?_
                  · obtain ⟨e, _, m, _, rfl⟩ := zip_mem hx
                    exact ⟨trivial, trivial, trivial, trivial, hK⟩
                  · obtain ⟨e, _, m, hm, rfl⟩ := zip_mem hx
                    have eg : gRow (.tuple [id e, mD m]) = .bool (rowOk m.ps e) := by
                      show PyData.bool (rowOk ((m.ps.map pD).map fun p => match p with | .tuple [.int s, .int b] => (s, b) | _ => (0, 0)) e) = _
                      rw [ps_back]
                    rw [eg]
                    exact pv_call2 (k := k + 2) (pv_slot (x := .tuple (m.ps.map pD)) rfl) (pv_slot (x := e) rfl) (by rw [sig_of h2]; rfl) fun Q q => row_prog h2 h3 (s.ps m hm).1 q
                  · rw [zip_map]
                    have ez : (List.zipWith (fun (a : PyData) (b : Mc) => gRow (.tuple [id a, mD b])) rs h.ms) = (List.zipWith (fun r m => rowOk m.ps r) rs h.ms).map PyData.bool := by
                      rw [List.map_zipWith]
                      congr 1
                      funext e m
                      show PyData.bool (rowOk ((m.ps.map pD).map fun p => match p with | .tuple [.int s, .int b] => (s, b) | _ => (0, 0)) e) = _
                      rw [ps_back]
                    rw [ez]; exact hK
                · have : stOk h (.tuple [.str z, .tuple rs]) = (List.zipWith (fun r m => rowOk m.ps r) rs h.ms).all id := by
                    show (decide (z ∈ h.ms.map Mc.nm) && (decide (rs.length = h.ms.length) && _)) = _
                    rw [decide_eq_true hz, decide_eq_true hr, Bool.true_and, Bool.true_and]
                  rw [this] at q; exact q
              · refine second _ ?_ ?_ p2 _
                · rw [List.length_map]; simp; omega
                · show (decide (z ∈ h.ms.map Mc.nm) && (decide (rs.length = h.ms.length) && _)) = _
                  rw [decide_eq_false hr, Bool.false_and, Bool.and_false]
            · have hy : isTy .tuple y = false := by simpa using hy
              refine second (false || (true || true)) rfl ?_ (pv_or (t := false) pn fun _ => pv_or (t := true) (u := true) (by have := pv_not (pv_isT (G := ctx T (k + 2) noX) (ρ := [sl (hD h), sl (.tuple [.str z, y]), none, none, none, none]) (ty := .tuple) (pv_idxT (pv_slot (i := 1) (x := .tuple [.str z, y]) rfl) pv_int at1).pn); rw [hy] at this; exact this) fun z => by cases z) _
              cases y <;> first | rfl | cases hy
          · rw [decide_eq_false hz] at pn
            refine second (true || true) rfl ?_ (pv_or (t := true) (u := true) pn fun z => by cases z) _
            cases y <;> first | rfl | (show (decide (z ∈ h.ms.map Mc.nm) && _) = _; rw [decide_eq_false hz, Bool.false_and])
        · have hx : isTy .str x = false := by simpa using hx
          rw [hx] at p0
          refine first _ rfl ?_ p0
          cases x <;> first | rfl | cases hx
    · refine first (false || (true || true)) rfl ?_ (pv_or (t := false) (pv_not (pv_isT (G := ctx T (k + 2) noX) (ρ := [sl (hD h), sl (.tuple ds), none, none, none, none]) (ty := .tuple) (pv_slot (i := 1) (x := .tuple ds) rfl).pn)) fun _ => pv_or (t := true) (u := true) (pv_neT (v := (ds.length : Int)) (w := 2) (pv_lenT (pv_slot (i := 1) (x := .tuple ds) rfl)) pv_int (by omega)) fun z => by cases z)
      match ds, hl with
      | [], _ => rfl
      | [x], _ => cases x <;> rfl
      | x :: y :: u :: r, _ => cases x <;> first | rfl | (cases y <;> rfl)
      | [x, y], hl => exact absurd rfl hl
  | none => exact notT fun _ => nofun
  | bool b => exact notT fun _ => nofun
  | int b => exact notT fun _ => nofun
  | str b => exact notT fun _ => nofun
  | list b => exact notT fun _ => nofun
  | dict b => exact notT fun _ => nofun
end
end PL
end
section
set_option Elab.async false
set_option linter.all false
set_option maxRecDepth 100000
set_option maxHeartbeats 800000
/-! PG14: whether any value is a state, by the law. -/
namespace PL
open L2 PySem.Spec PySem
def bad1 (d : PyData) : Bool := match d with | .tuple [.tuple [.int s, .int b], x] => !heldOk (s, b) x | _ => false
theorem bad_nil : ∀ (ps : List (Int × Int)) (ds : List PyData), ((zipD (ps.map pD) (ds.map id)).filter bad1).isEmpty = (List.zipWith (fun d p => heldOk p d) ds ps).all id
  | [], [] => rfl
  | [], _ :: _ => rfl
  | _ :: _, [] => rfl
  | p :: ps, d :: ds => by
    have ih := bad_nil ps ds
    show ((PyData.tuple [pD p, id d] :: zipD (ps.map pD) (ds.map id)).filter bad1).isEmpty = (heldOk p d && (List.zipWith (fun d p => heldOk p d) ds ps).all id)
    rw [List.filter_cons]
    have e : bad1 (.tuple [pD p, id d]) = !heldOk p d := rfl
    rw [e]
    cases heldOk p d with
    | true => rw [if_neg (by decide), Bool.true_and]; exact ih
    | false => rw [if_pos (by decide), Bool.false_and]; rfl
theorem zipWith_at {α β γ : Type} {f : α → β → γ} {as : List α} {bs : List β} {i : Nat} {a : α} {b : β} (h1 : as[i]? = some a) (h2 : bs[i]? = some b) : (List.zipWith f as bs)[i]? = some (f a b) := by
  rw [List.getElem?_zipWith, h1, h2]
section
variable {G : PL.Ctx} {T : Tab} {k na ii pii psr pna pss ist n m i : Nat} {h : Hall} {Q : KF} {a b c : PL.E} {ρ : PL.Env} {d x : PyData} {ps : List (Int × Int)} {v w z : Int}
theorem pv_isTb {ty : TyN} {t : Bool} (ha : Pn G a ρ x n) (e : isTy ty x = t) : Pv G (.isT [ty] a) ρ (.bool t) := by
  rw [← e]; exact pv_isT ha
/-- one row judged by the law -/
theorem row_law {r : PyData} {D : KS} {th : PyData} {nm : Str} {tm : Int} (h3 : T.fns[ii]? = some ii_I) (few : ps.length ≤ 100)
    (q1 : rowOk ps r = true → D.nx [sl (hD h), sl th, sl r, sl (.str nm), sl (.int tm), sl (.tuple (ps.map pD)), none, none, none])
    (q2 : rowOk ps r = false → D.rt (.bool false) 0 ([sl (hD h), sl th, sl r, sl (.str nm), sl (.int tm), sl (.tuple (ps.map pD)), none, none, none])) :
    wpS (ctx T (k + 1) noX) (.seq (.ite (.or (.not (.isT [.tuple] (.slot 2))) (.cmp .ne (.fn .len (.cons (.slot 2) (.nil))) (.fn .len (.cons (.slot 5) (.nil))))) (.seq (.ret (.bool false)) (.nil)) (.nil)) (.seq (.ite (.cmp .ne (.lc 0 (.int 1) (.tup (.cons (.tup (.cons (.nm 7) (.cons (.nm 8) (.nil)))) (.cons (.nm 6) (.nil)))) (.zp (.slot 5) (.slot 2)) (.cons (.or (.not (.call ii (.cons (.slot 6) (.nil)))) (.not (.chain .le .le (.int 0) (.slot 6) (.slot 7)))) (.nil)) [6, 7, 8]) (.lst 0 (.nil))) (.seq (.ret (.bool false)) (.nil)) (.nil)) (.nil)))
      [sl (hD h), sl th, sl r, sl (.str nm), sl (.int tm), sl (.tuple (ps.map pD)), none, none, none] D := by
  have bg := big
  have fail : ∀ b : Bool, b = true → rowOk ps r = false → Pv (ctx T (k + 1) noX) (.or (.not (.isT [.tuple] (.slot 2))) (.cmp .ne (.fn .len (.cons (.slot 2) (.nil))) (.fn .len (.cons (.slot 5) (.nil))))) [sl (hD h), sl th, sl r, sl (.str nm), sl (.int tm), sl (.tuple (ps.map pD)), none, none, none] (.bool b) →
      ∀ m, wpS (ctx T (k + 1) noX) (.seq (.ite (.or (.not (.isT [.tuple] (.slot 2))) (.cmp .ne (.fn .len (.cons (.slot 2) (.nil))) (.fn .len (.cons (.slot 5) (.nil))))) (.seq (.ret (.bool false)) (.nil)) (.nil)) m) [sl (hD h), sl th, sl r, sl (.str nm), sl (.int tm), sl (.tuple (ps.map pD)), none, none, none] D := fun b eb e p m => by
    refine w_seq (w_ite p (fun _ => ?_) (fun z => by rw [eb] at z; cases z))
    exact w_seq (w_ret pv_bool (q2 e))
  by_cases ht : isTy .tuple r = true
  · obtain ⟨ds, rfl⟩ : ∃ ds, r = .tuple ds := by cases r <;> first | exact ⟨_, rfl⟩ | cases ht
    by_cases hl : ds.length = ps.length
    · refine w_seq (w_ite (t := false || false) (pv_or (pv_not (pv_isTb (t := true) (pv_slot (x := .tuple ds) rfl).pn rfl)) fun _ => pv_neF (pv_lenT (pv_slot (x := .tuple ds) rfl)) (pv_lenT (pv_slot (x := .tuple (ps.map pD)) rfl)) (by rw [List.length_map]; omega)) (fun z => by cases z) (fun _ => w_nil (G := ctx T (k + 1) noX) ?_))
      have er : rowOk ps (.tuple ds) = (List.zipWith (fun d p => heldOk p d) ds ps).all id := by
        show (decide (ds.length = ps.length) && _) = _
        rw [decide_eq_true hl, Bool.true_and]
      have pl : Pn (ctx T (k + 1) noX) (.lc 0 (.int 1) (.tup (.cons (.tup (.cons (.nm 7) (.cons (.nm 8) (.nil)))) (.cons (.nm 6) (.nil)))) (.zp (.slot 5) (.slot 2)) (.cons (.or (.not (.call ii (.cons (.slot 6) (.nil)))) (.not (.chain .le .le (.int 0) (.slot 6) (.slot 7)))) (.nil)) [6, 7, 8]) [sl (hD h), sl th, sl (.tuple ds), sl (.str nm), sl (.int tm), sl (.tuple (ps.map pD)), none, none, none] (.list (((zipD (ps.map pD) (ds.map id)).filter bad1).map fun _ => .int 1)) 1 := fun K hK => by
        have ed : zipD (ps.map pD) ds = zipD (ps.map pD) (ds.map id) := by rw [List.map_id]
        refine w_lcG (items := zipD (ps.map pD) (ds.map id)) rfl (by rw [← ed]; exact wi_zipT (pv_slot (x := .tuple (ps.map pD)) rfl).pn (pv_slot (x := .tuple ds) rfl).pn) (by have := zip_len2 (f := pD) (g := id) ps ds; omega) bad1 (fun _ => .int 1) (fun x => [sl (hD h), sl th, sl (.tuple ds), sl (.str nm), sl (.int tm), sl (.tuple (ps.map pD)), sl (en2 x).2, sl (en2 (en2 x).1).1, sl (en2 (en2 x).1).2]) rfl (vs3 trivial trivial trivial) (fun x hx K hK => ?_) (fun x hx => ?_) (fun x hx _ => pv_int) (fun x hx => ⟨vs3 rfl rfl rfl, rfl⟩) hK
        · obtain ⟨p, _, e, _, rfl⟩ := zip_mem hx
          exact ⟨trivial, trivial, trivial, hK⟩
        · obtain ⟨p, _, e, _, rfl⟩ := zip_mem hx
          refine wc_one ?_
          show Pv (ctx T (k + 1) noX) _ [sl (hD h), sl th, sl (.tuple ds), sl (.str nm), sl (.int tm), sl (.tuple (ps.map pD)), sl e, sl (.int p.1), sl (.int p.2)] (.bool (!heldOk p e))
          have pc := pv_call1 (T := T) (k := k + 1) (f := ii) (ρ := [sl (hD h), sl th, sl (.tuple ds), sl (.str nm), sl (.int tm), sl (.tuple (ps.map pD)), sl e, sl (.int p.1), sl (.int p.2)]) (a := .slot 6) (x := e) (y := .bool (isIntB e)) (pv_slot rfl) (by rw [sig_of h3]; rfl) fun Q q => ii_ok h3 q
          cases e with
          | int v => exact pv_or (t := false) (u := !(decide (0 ≤ v) && decide (v ≤ p.1))) (pv_not pc) fun _ => pv_not (pv_chain pv_int (pv_slot (x := .int v) rfl) (pv_slot rfl))
          | none => exact pv_or (t := true) (u := true) (pv_not pc) fun z => by cases z
          | bool b => exact pv_or (t := true) (u := true) (pv_not pc) fun z => by cases z
          | str b => exact pv_or (t := true) (u := true) (pv_not pc) fun z => by cases z
          | list b => exact pv_or (t := true) (u := true) (pv_not pc) fun z => by cases z
          | tuple b => exact pv_or (t := true) (u := true) (pv_not pc) fun z => by cases z
          | dict b => exact pv_or (t := true) (u := true) (pv_not pc) fun z => by cases z
      have plain1 : ∀ l : List PyData, PyData.plainAll (l.map fun _ => PyData.int 1) = true := fun l => by
        induction l with
        | nil => rfl
        | cons a l ih => rw [List.map_cons, PyData.plainAll, ih]; rfl
      have pc := pn_ne pl pn_nil ⟨by rw [PyData.plain]; exact plain1 _, rfl, Nat.le_trans (Nat.min_le_right _ _) (by decide)⟩
      rw [eqv_nil, List.isEmpty_map, bad_nil, ← er] at pc
      refine w_seq (w_ite pc (fun z => ?_) (fun z => w_nil (G := ctx T (k + 1) noX) ?_))
      · exact w_seq (w_ret pv_bool (q2 (by simpa using z)))
      · exact q1 (by simpa using z)
    · have e : rowOk ps (.tuple ds) = false := by
        show (decide (ds.length = ps.length) && _) = _
        rw [decide_eq_false hl, Bool.false_and]
      exact fail (false || true) rfl e (pv_or (pv_not (pv_isTb (t := true) (pv_slot (x := .tuple ds) rfl).pn rfl)) fun _ => pv_neT (pv_lenT (pv_slot (x := .tuple ds) rfl)) (pv_lenT (pv_slot (x := .tuple (ps.map pD)) rfl)) (by rw [List.length_map]; omega)) _
  · have ht : isTy .tuple r = false := by simpa using ht
    have e : rowOk ps r = false := by cases r <;> first | rfl | cases ht
    exact fail (true || true) rfl e (pv_or (t := true) (u := true) (pv_not (pv_isTb (t := false) (pv_slot (x := r) rfl).pn ht)) fun z => by cases z) _
theorem state_law (hi : T.fns[ist]? = some (ist_I na ii)) (h1 : T.fns[na]? = some na_I) (h3 : T.fns[ii]? = some ii_I) (s : NumH h) (q : Q (.bool (stOk h d)) 0 []) : wpF T (k + 2) ist [hD h, d] Q noX := by
  refine wpF_step hi rfl ?_
  show wpS (ctx T (k + 1) noX) (ist_B na ii) [sl (hD h), sl d, none, none, none, none, none, none, none] (endsOf (ist_I na ii) Q)
  have bg := big
  have hs := s.few.ms
  have first : ∀ b : Bool, b = true → stOk h d = false → Pv (ctx T (k + 1) noX) (.or (.not (.isT [.tuple] (.slot 1))) (.or (.cmp .ne (.fn .len (.cons (.slot 1) (.nil))) (.int 2)) (.or (.not (.isT [.str] (.idx (.slot 1) (.int 0)))) (.cmp .notin (.idx (.slot 1) (.int 0)) (.call na (.cons (.slot 0) (.nil))))))) [sl (hD h), sl d, none, none, none, none, none, none, none] (.bool b) → wpS (ctx T (k + 1) noX) (ist_B na ii) [sl (hD h), sl d, none, none, none, none, none, none, none] (endsOf (ist_I na ii) Q) := fun b eb e p => by
    unfold ist_B
    refine w_seq (w_ite p (fun _ => ?_) (fun z => by rw [eb] at z; cases z))
    refine w_seq (w_ret pv_bool ⟨[], rfl, ?_⟩)
    rw [e] at q; exact q
  by_cases ht : isTy .tuple d = true
  · obtain ⟨ds, rfl⟩ : ∃ ds, d = .tuple ds := by cases d <;> first | exact ⟨_, rfl⟩ | cases ht
    by_cases hl : ds.length = 2
    · match ds, hl with
      | [x, y], _ =>
        by_cases hx : isTy .str x = true
        · obtain ⟨z, rfl⟩ : ∃ z, x = .str z := by cases x <;> first | exact ⟨_, rfl⟩ | cases hx
          have pn : Pv (ctx T (k + 1) noX) (.cmp .notin (.idx (.slot 1) (.int 0)) (.call na (.cons (.slot 0) (.nil)))) [sl (hD h), sl (.tuple [.str z, y]), none, none, none, none, none, none, none] (.bool (!decide (z ∈ h.ms.map Mc.nm))) :=
            pv_notinL (n := 1) (pv_idxT (pv_slot (x := .tuple [.str z, y]) rfl) pv_int at0) (pn_call1 (k := k + 1) (pv_slot (x := hD h) rfl) (by rw [sig_of h1]; rfl) fun Q q => names_law h1 s.few q)
          by_cases hz : z ∈ h.ms.map Mc.nm
          · rw [decide_eq_true hz] at pn
            unfold ist_B
            refine w_seq (w_ite (t := false || (false || (false || false))) (pv_or (pv_not (pv_isTb (t := true) (pv_slot (x := .tuple [.str z, y]) rfl).pn rfl)) fun _ => pv_or (pv_neF (pv_lenT (pv_slot (x := .tuple [.str z, y]) rfl)) pv_int rfl) fun _ => pv_or (pv_not (pv_isTb (t := true) (pv_idxT (pv_slot (x := .tuple [.str z, y]) rfl) pv_int at0).pn rfl)) fun _ => pn) (fun z => by cases z) (fun _ => w_nil (G := ctx T (k + 1) noX) ?_))
            have second : ∀ b : Bool, b = true → stOk h (.tuple [.str z, y]) = false → Pv (ctx T (k + 1) noX) (.or (.not (.isT [.tuple] (.idx (.slot 1) (.int 1)))) (.cmp .ne (.fn .len (.cons (.idx (.slot 1) (.int 1)) (.nil))) (.fn .len (.cons (.idx (.slot 0) (.int 0)) (.nil))))) [sl (hD h), sl (.tuple [.str z, y]), none, none, none, none, none, none, none] (.bool b) → ∀ r, wpS (ctx T (k + 1) noX) (.seq (.ite (.or (.not (.isT [.tuple] (.idx (.slot 1) (.int 1)))) (.cmp .ne (.fn .len (.cons (.idx (.slot 1) (.int 1)) (.nil))) (.fn .len (.cons (.idx (.slot 0) (.int 0)) (.nil))))) (.seq (.ret (.bool false)) (.nil)) (.nil)) r) [sl (hD h), sl (.tuple [.str z, y]), none, none, none, none, none, none, none] (endsOf (ist_I na ii) Q) := fun b eb e p r => by
              refine w_seq (w_ite p (fun _ => ?_) (fun z => by rw [eb] at z; cases z))
              refine w_seq (w_ret pv_bool ⟨[], rfl, ?_⟩)
              rw [e] at q; exact q
            by_cases hy : isTy .tuple y = true
            · obtain ⟨rs, rfl⟩ : ∃ rs, y = .tuple rs := by cases y <;> first | exact ⟨_, rfl⟩ | cases hy
              by_cases hr : rs.length = h.ms.length
              · refine w_seq (w_ite (t := false || false) (pv_or (pv_not (pv_isTb (t := true) (pv_idxT (pv_slot (x := .tuple [.str z, .tuple rs]) rfl) pv_int at1).pn rfl)) fun _ => pv_neF (pv_lenT (pv_idxT (pv_slot (x := .tuple [.str z, .tuple rs]) rfl) pv_int at1)) (pv_lenT (pv_idxT (pv_slot (x := hD h) rfl) pv_int at0)) (by rw [List.length_map]; omega)) (fun z => by cases z) (fun _ => w_nil (G := ctx T (k + 1) noX) ?_))
                have es : stOk h (.tuple [.str z, .tuple rs]) = (List.zipWith (fun r m => rowOk m.ps r) rs h.ms).all id := by
                  show (decide (z ∈ h.ms.map Mc.nm) && (decide (rs.length = h.ms.length) && _)) = _
                  rw [decide_eq_true hz, decide_eq_true hr, Bool.true_and, Bool.true_and]
                rw [es] at q
                have ed : zipD (h.ms.map mD) rs = zipD (h.ms.map mD) (rs.map id) := by rw [List.map_id]
                refine w_seq (w_forP (items := zipD (h.ms.map mD) (rs.map id)) rfl (by rw [← ed]; exact wi_zipT (pv_idxT (pv_slot (x := hD h) rfl) pv_int at0).pn (pv_idxT (pv_slot (x := .tuple [.str z, .tuple rs]) rfl) pv_int at1).pn)
                  (fun i ρ => (∃ s2 s3 s4 s5, ρ = [sl (hD h), sl (.tuple [.str z, .tuple rs]), s2, s3, s4, s5, none, none, none] ∧ Fr1 s2 ∧ Fr1 s3 ∧ Fr1 s4 ∧ Fr1 s5) ∧ ((List.zipWith (fun r m => rowOk m.ps r) rs h.ms).take i).all id = true) ⟨⟨none, none, none, none, rfl, .inl rfl, .inl rfl, .inl rfl, .inl rfl⟩, rfl⟩ ?_ ?_)
                · rintro i x ρ K hx ⟨⟨s2, s3, s4, s5, rfl, f2, f3, f4, f5⟩, hall⟩ fin
                  obtain ⟨m, r, hm, hr', rfl⟩ := zip_at hx
                  have hzw := zipWith_at (f := fun (r : PyData) (m : Mc) => rowOk m.ps r) hr' hm
                  refine ⟨fr1_free (i := 3) f3 rfl, fr1_free (i := 4) f4 rfl, fr1_free (i := 5) f5 rfl, fr1_free (i := 2) f2 rfl, ?_⟩
                  refine row_law (k := k) h3 (s.ps m (List.mem_of_getElem? hm)).1 (fun ok => ?_) (fun no => ?_)
                  · refine fin _ ⟨⟨sl r, sl (.str m.nm), sl (.int m.tm), sl (.tuple (m.ps.map pD)), rfl, .inr ⟨_, rfl⟩, .inr ⟨_, rfl⟩, .inr ⟨_, rfl⟩, .inr ⟨_, rfl⟩⟩, ?_⟩
                    rw [List.take_add_one, hzw, List.all_append, hall]
                    simpa using ok
                  · refine ⟨[], rfl, ?_⟩
                    have : (List.zipWith (fun r m => rowOk m.ps r) rs h.ms).all id = false := by
                      rw [List.all_eq_false]
                      exact ⟨_, List.mem_of_getElem? hzw, by have no : rowOk m.ps r = false := no; show ¬ rowOk m.ps r = true; rw [no]; exact Bool.false_ne_true⟩
                    rw [this] at q; exact q
                · rintro ρ ⟨⟨s2, s3, s4, s5, rfl, f2, f3, f4, f5⟩, hall⟩
                  rw [List.take_of_length_le (by rw [zip_len, List.length_map, List.length_map, List.length_zipWith]; omega)] at hall
                  rw [hall] at q
                  exact w_seq (w_ret pv_bool ⟨[], rfl, q⟩)
              · refine second (false || true) rfl ?_ (pv_or (pv_not (pv_isTb (t := true) (pv_idxT (pv_slot (x := .tuple [.str z, .tuple rs]) rfl) pv_int at1).pn rfl)) fun _ => pv_neT (pv_lenT (pv_idxT (pv_slot (x := .tuple [.str z, .tuple rs]) rfl) pv_int at1)) (pv_lenT (pv_idxT (pv_slot (x := hD h) rfl) pv_int at0)) (by rw [List.length_map]; omega)) _
                show (decide (z ∈ h.ms.map Mc.nm) && (decide (rs.length = h.ms.length) && _)) = _
                rw [decide_eq_false hr, Bool.false_and, Bool.and_false]
            · have hy : isTy .tuple y = false := by simpa using hy
              refine second (true || true) rfl ?_ (pv_or (t := true) (u := true) (pv_not (pv_isTb (t := false) (pv_idxT (pv_slot (x := .tuple [.str z, y]) rfl) pv_int at1).pn hy)) fun z => by cases z) _
              cases y <;> first | rfl | cases hy
          · rw [decide_eq_false hz] at pn
            refine first (false || (false || (false || true))) rfl ?_ (pv_or (pv_not (pv_isTb (t := true) (pv_slot (x := .tuple [.str z, y]) rfl).pn rfl)) fun _ => pv_or (pv_neF (pv_lenT (pv_slot (x := .tuple [.str z, y]) rfl)) pv_int rfl) fun _ => pv_or (pv_not (pv_isTb (t := true) (pv_idxT (pv_slot (x := .tuple [.str z, y]) rfl) pv_int at0).pn rfl)) fun _ => pn)
            cases y <;> first | rfl | (show (decide (z ∈ h.ms.map Mc.nm) && _) = _; rw [decide_eq_false hz, Bool.false_and])
        · have hx : isTy .str x = false := by simpa using hx
          refine first (false || (false || (true || true))) rfl ?_ (pv_or (pv_not (pv_isTb (t := true) (pv_slot (x := .tuple [x, y]) rfl).pn rfl)) fun _ => pv_or (pv_neF (pv_lenT (pv_slot (x := .tuple [x, y]) rfl)) pv_int rfl) fun _ => pv_or (t := true) (u := true) (pv_not (pv_isTb (t := false) (pv_idxT (pv_slot (x := .tuple [x, y]) rfl) pv_int at0).pn hx)) fun z => by cases z)
          cases x <;> first | rfl | cases hx
    · refine first (false || (true || true)) rfl ?_ (pv_or (pv_not (pv_isTb (t := true) (pv_slot (x := .tuple ds) rfl).pn rfl)) fun _ => pv_or (t := true) (u := true) (pv_neT (v := (ds.length : Int)) (w := 2) (pv_lenT (pv_slot (x := .tuple ds) rfl)) pv_int (by omega)) fun z => by cases z)
      match ds, hl with
      | [], _ => rfl
      | [x], _ => cases x <;> rfl
      | x :: y :: u :: r, _ => cases x <;> first | rfl | (cases y <;> rfl)
      | [x, y], hl => exact absurd rfl hl
  · have ht : isTy .tuple d = false := by simpa using ht
    refine first (true || true) rfl ?_ (pv_or (t := true) (u := true) (pv_not (pv_isTb (t := false) (pv_slot (x := d) rfl).pn ht)) fun z => by cases z)
    cases d <;> first | rfl | cases ht
end
end PL
end
section
set_option Elab.async false
set_option linter.all false
set_option maxRecDepth 100000
set_option maxHeartbeats 400000
/-! PG15: any hall, a state drawn. -/
namespace PL
open L2 PySem.Spec PySem
theorem Made.num {most : Int} {h : Hall} (M : Made most h) : NumH h := ⟨M.fewB, fun m hm => by
  obtain ⟨_, h2, h3⟩ := M.ok m hm
  exact ⟨by omega, fun p hp => by have := h3 p hp; omega⟩⟩
/-- rows of a drawn state -/
structure Drawn (h : Hall) (rows : List (List Int)) : Prop where
  len : rows.length = h.ms.length
  row : ∀ r ∈ rows, r.length ≤ 2 ∧ ∀ v ∈ r, 0 ≤ v ∧ v ≤ 1000
theorem Drawn.rows {h : Hall} {rows : List (List Int)} (d : Drawn h rows) : Rows h rows := ⟨d.len, fun r hr => by have := (d.row r hr).1; omega⟩
section
variable {T : Tab} {k B ta so mi pu fi we li tr ha lv na ar ah dst : Nat} {bag : PyData} {Q : KF} {h : Hall} {most : Int}
theorem w_callA {G : PL.Ctx} {f : Nat} {es : PL.E} {ρ : PL.Env} {K : KE} (h : wpA G es ρ fun as ρ' => ∃ ds, argsD ρ' as = some ds ∧ lendOk ρ' as (G.sig f) = true ∧ ((lents as).length ≤ 1 ∧ ∀ i ∈ lents as, i ∉ bors as) ∧
      G.call f ds (fun d n outs => (bors as = [] ∨ (flatN n d = true ∧ outsFlat (G.sig f) outs = true)) ∧ K d n (putOuts as outs ρ')) G.ex) : wpE G (.call f es) ρ K := h
theorem wa_lend {G : PL.Ctx} {i : Nat} {r : PL.E} {ρ : PL.Env} {s : PL.Slot} {kk : List Arg → PL.Env → Prop} (hr : ρ[i]? = some (some s)) (h : wpA G r ρ fun as ρ2 => kk (.lend i :: as) ρ2) : wpA G (.cons (.lend i) r) ρ kk := ⟨s, hr, h⟩
theorem any_hall (hi : T.fns[ah]? = some (ah_I so ta we li tr ha)) (hh : T.fns[ha]? = some (ha_I we lv)) (hv : T.fns[lv]? = some (lv_I na ar)) (hn : T.fns[na]? = some na_I) (hr : T.fns[ar]? = some ar_I) (hw : T.fns[we]? = some (we_I mi so ta pu fi)) (hl : T.fns[li]? = some (li_I mi ta pu)) (ht : T.fns[tr]? = some (tr_I mi ta pu so))
    (tk : T.fns[ta]? = some takeI) (sm : T.fns[so]? = some (someI ta)) (mx : T.fns[mi]? = some (mixedI ta)) (hf : T.fns[fi]? = some (fi_I so ta)) (hp : T.fns[pu]? = some (pu_I so ta)) (hb : Bag B bag) (hB : B + 2000 < 2 ^ 200)
    (q : ∀ h bag', Made 3 h → Bag (B + 300) bag' → Q (hD h) 0 [bag']) : wpF T (k + 6) ah [bag] Q noX := by
  refine wpF_step hi rfl ?_
  show wpS (ctx T (k + 5) noX) (ah_B so ta we li tr ha) [some ⟨bag, 2, true, false⟩, none, none] (endsOf (ah_I so ta we li tr ha) Q)
  unfold ah_B
  have five : 5 ≤ sizeLine := by decide
  refine w_seq (w_asgE (w_some (k := k + 3) tk sm hb (by omega) rfl (pn_lstP (pvl_cons pv_int (pvl_cons pv_int (pvl_cons pv_int (pvl_cons pv_int (pvl_cons pv_int pvl_nil))))) five) (.inl rfl) (by simp) five fun d bag1 hd hb1 => ⟨trivial, ?_⟩))
  obtain ⟨mach, rfl, m0, m1⟩ : ∃ c : Int, d = .int c ∧ 0 ≤ c ∧ c ≤ 5 := by
    simp only [List.mem_cons, List.not_mem_nil, or_false] at hd
    rcases hd with rfl | rfl | rfl | rfl | rfl
    all_goals exact ⟨_, rfl, by decide, by decide⟩
  refine w_seq (w_frz rfl rfl ?_)
  refine w_seq (w_asgE ?_)
  refine w_take (k := k + 4) tk hb1 (by omega) rfl pv_int (by decide) (by decide) fun v bag2 v0 v1 hb2 => ⟨trivial, ?_⟩
  refine w_seq (w_frz rfl rfl ?_)
  refine w_seq (w_ite (pv_eqI (pv_slot (x := .int v) rfl) pv_int) (fun _ => ?_) (fun _ => w_nil (G := ctx T (k + 5) noX) ?_))
  · refine w_seq (w_retE (w_lend2 (by rw [sig_of hw]; rfl) rfl (pv_slot (x := .int mach) rfl).pn pv_int.pn fun Q2 hQ => web_made (k := k + 1) tk sm mx hf hp hw (by decide) (by decide) hb2 (by omega) m0 m1 fun h bag' M hb' => hQ _ _ _ ⟨[bag'], rfl, q h bag' M (hb'.mono (by omega))⟩))
  refine w_seq (w_ite (pv_eqI (pv_slot (x := .int v) rfl) pv_int) (fun _ => ?_) (fun _ => w_nil (G := ctx T (k + 5) noX) ?_))
  · refine w_seq (w_retE (w_lend2 (by rw [sig_of hl]; rfl) rfl (pv_slot (x := .int mach) rfl).pn pv_int.pn fun Q2 hQ => line_made (k := k + 1) tk sm mx hp hl (by decide) (by decide) hb2 (by omega) m0 m1 fun h bag' M hb' => hQ _ _ _ ⟨[bag'], rfl, q h bag' M (hb'.mono (by omega))⟩))
  refine w_seq (w_ite (pv_eqI (pv_slot (x := .int v) rfl) pv_int) (fun _ => ?_) (fun _ => w_nil (G := ctx T (k + 5) noX) ?_))
  · refine w_seq (w_retE (w_lend2 (by rw [sig_of ht]; rfl) rfl (pv_slot (x := .int mach) rfl).pn pv_int.pn fun Q2 hQ => tree_made (k := k + 1) tk sm mx hp ht (by decide) (by decide) hb2 (by omega) m0 m1 fun h bag' M hb' => hQ _ _ _ ⟨[bag'], rfl, q h bag' M (hb'.mono (by omega))⟩))
  refine w_seq (w_retE (w_lend2 (by rw [sig_of hh]; rfl) rfl (pv_slot (x := .int mach) rfl).pn pv_int.pn fun Q2 hQ => hall_fix (k := k) hh hv hn hr hw tk sm mx hf hp (by decide) (by decide) hb2 (by omega) m0 m1 fun h bag' M hb' => hQ _ _ _ ⟨[bag'], rfl, q h bag' M (hb'.mono (by omega))⟩))
theorem state_drawn (hi : T.fns[dst]? = some (dst_I so ta na)) (hn : T.fns[na]? = some na_I) (tk : T.fns[ta]? = some takeI) (sm : T.fns[so]? = some (someI ta)) (M : Made most h) (hm : most ≤ 500) (ne : h.ms ≠ []) (hb : Bag B bag) (hB : B + 2000 < 2 ^ 200)
    (q : ∀ n rows bag', n ∈ h.ms.map Mc.nm → Drawn h rows → Bag (B + 100) bag' → Q (stD n rows) 0 [bag']) : wpF T (k + 3) dst [bag, hD h] Q noX := by
  refine wpF_step hi rfl ?_
  show wpS (ctx T (k + 2) noX) (dst_B so ta na) [some ⟨bag, 2, true, false⟩, sl (hD h), none, none, none, none, none, none] (endsOf (dst_I so ta na) Q)
  unfold dst_B
  have bg := big
  have few := M.few
  refine w_seq (w_asg pn_nil ⟨trivial, ?_⟩)
  refine w_seq (w_forL (items := h.ms.map mD) (pv_idxT (pv_slot (x := hD h) rfl) pv_int at0).pn (.inr rfl) (fun i ρ => ∃ bag' rws s3 s4 s5, ρ = [some ⟨bag', 2, true, false⟩, sl (hD h), some ⟨.list (rws.map rwD), 1, false, false⟩, s3, s4, s5, none, none] ∧ Fr1 s3 ∧ Fr1 s4 ∧ Fr1 s5 ∧ rws.length = i ∧ (∀ r ∈ rws, r.length ≤ 2 ∧ ∀ v ∈ r, 0 ≤ v ∧ v ≤ 1000) ∧ Bag (B + 4 * i) bag') ⟨bag, [], none, none, none, rfl, .inl rfl, .inl rfl, .inl rfl, rfl, by simp, hb⟩ ?_ ?_)
  · rintro i x ρ K hx ⟨bag', rws, s3, s4, s5, rfl, f3, f4, f5, hl, hr, hb'⟩ fin
    have hi' := (List.getElem?_eq_some_iff.mp hx).1
    rw [List.length_map] at hi'
    rw [List.getElem?_map] at hx
    obtain ⟨m, hm', rfl⟩ := Option.map_eq_some_iff.mp hx
    obtain ⟨_, mps, mok⟩ := M.ok m (List.mem_of_getElem? hm')
    refine ⟨fr1_free (i := 3) f3 rfl, fr1_free (i := 4) f4 rfl, fr1_free (i := 5) f5 rfl, ?_⟩
    refine w_seq ⟨⟨_, rfl, _, rfl⟩, w_fnE (wl_cons ?_)⟩
    refine w_lcL (items := m.ps.map pD) (pv_slot (x := .tuple (m.ps.map pD)) rfl).pn (.inr rfl) rfl (vs2 trivial trivial) (fun j acc ρ => ∃ (bag2 : PyData) (row : List Int), ρ = [some ⟨bag2, 2, true, false⟩, sl (hD h), some ⟨.list (rws.map rwD), 1, false, false⟩, sl (.str m.nm), sl (.int m.tm), sl (.tuple (m.ps.map pD)), none, none] ∧ acc = row.map .int ∧ row.length = j ∧ (∀ v ∈ row, 0 ≤ v ∧ v ≤ 1000) ∧ Bag (B + 4 * i + 2 * j) bag2) ⟨bag', [], rfl, rfl, rfl, by simp, hb'⟩ ?_ ?_
    · rintro j x acc ρ KA hx ⟨bag2, row, rfl, rfl, hlr, hrow, hb2⟩ fin2
      have hj := (List.getElem?_eq_some_iff.mp hx).1
      rw [List.length_map] at hj
      rw [List.getElem?_map] at hx
      obtain ⟨p, hp, rfl⟩ := Option.map_eq_some_iff.mp hx
      obtain ⟨p1, p2, p3, p4⟩ := mok p (List.mem_of_getElem? hp)
      refine ⟨trivial, trivial, ?_⟩
      show wpE _ _ _ _
      refine w_callA (wa_lend rfl (wa_lst (w_lstE (wl_cons ?_))))
      refine pv_slot (x := .int p.1) rfl _ (wl_cons (pv_int _ (wl_cons ?_)))
      refine w_take (k := k + 1) (m := p.1 + 1) tk hb2 (by omega) rfl ?_ (by omega) (by omega) fun v bag3 v0 v1 hb3 => wl_nil ⟨⟨(show 3 ≤ sizeLine by decide), fun _ _ => .inr (.inl rfl)⟩, ?_⟩
      · exact pv_addI (pv_slot rfl) pv_int
      refine ⟨[bag3, .list [.int p.1, .int 0, .int v]], rfl, sg_some sm, ⟨Nat.le_refl 1, fun j _ => by simp [bors]⟩, ?_⟩
      refine some_ok (k := k) tk sm hb3 (by omega) (.inl rfl) (by simp) (show 3 ≤ sizeLine by decide) fun d bag4 hd hb4 => ⟨.inl rfl, ?_⟩
      obtain ⟨u, rfl, u0, u1⟩ : ∃ u : Int, d = .int u ∧ 0 ≤ u ∧ u ≤ 1000 := by
        simp only [List.mem_cons, List.not_mem_nil, or_false] at hd
        rcases hd with rfl | rfl | rfl
        · exact ⟨p.1, rfl, by omega, by omega⟩
        · exact ⟨0, rfl, by omega, by omega⟩
        · exact ⟨v, rfl, v0, by omega⟩
      refine ⟨⟨.inr (.inl rfl), by rw [List.length_map]; omega, vs2 rfl rfl⟩, ?_⟩
      refine fin2 _ _ ⟨bag4, row ++ [u], rfl, by rw [List.map_append]; rfl, by simp [hlr], fun w hw => ?_, hb4.mono (by omega)⟩
      rcases List.mem_append.mp hw with z | z
      · exact hrow w z
      · rw [List.mem_singleton.mp z]; exact ⟨u0, u1⟩
    · rintro acc ρ ⟨bag2, row, rfl, rfl, hlr, hrow, hb2⟩
      rw [List.length_map] at hlr hb2
      refine wl_nil (fi_tup ⟨_, rfl, rfl, ⟨Nat.zero_lt_one, .inr (.inl rfl), by rw [List.length_map]; omega⟩, ?_⟩)
      refine (show K _ from fin _ ⟨bag2, rws ++ [row], sl (.str m.nm), sl (.int m.tm), sl (.tuple (m.ps.map pD)), ?_, .inr ⟨_, rfl⟩, .inr ⟨_, rfl⟩, .inr ⟨_, rfl⟩, by simp [hl], fun r hr' => ?_, hb2.mono (by omega)⟩)
      · rw [List.map_append]; rfl
      · rcases List.mem_append.mp hr' with z | z
        · exact hr r z
        · rw [List.mem_singleton.mp z]; exact ⟨by omega, hrow⟩
  · rintro ρ ⟨bag', rws, s3, s4, s5, rfl, f3, f4, f5, hl, hr, hb'⟩
    rw [List.length_map] at hl hb'
    refine w_seq (w_retE (w_tupE (wl_cons ?_)))
    refine w_some (k := k) (x := .list ((h.ms.map Mc.nm).map .str)) (ds := (h.ms.map Mc.nm).map .str) tk sm hb' (by omega) rfl (pn_call1 (n := 1) (k := k + 2) (pv_slot (x := hD h) rfl) (by rw [sig_of hn]; rfl) fun Q q => names_law hn M.fewB q) (.inl rfl) (by simpa using ne) (by rw [List.length_map, List.length_map]; omega) fun d bag2 hd hb2 => ?_
    obtain ⟨n, hn', rfl⟩ := List.mem_map.mp hd
    refine wl_cons (pv_tupS (n := 1) rfl (nc_rows rws) _ (wl_nil ⟨(show 2 ≤ sizeLine by decide), [bag2], rfl, ?_⟩))
    exact q n rws bag2 hn' ⟨hl, hr⟩ (hb2.mono (by omega))
end
end PL
end
section
set_option Elab.async false
set_option linter.all false
set_option maxRecDepth 100000
set_option maxHeartbeats 400000
/-! PG16: what may be shown, by its weight. -/
namespace PL
open L2 PySem.Spec PySem
structure Sd (k w : Nat) (d : PyData) : Prop where
  show_ : d.showable = true
  leaves : d.leavesShort 50 = true
  depth : d.depth ≤ k
  weight : d.weight ≤ w
structure SdL (k w : Nat) (ds : List PyData) : Prop where
  show_ : PyData.showableAll ds = true
  leaves : PyData.leavesShortAll 50 ds = true
  depth : PyData.depthAll ds ≤ k
  weight : PyData.weightAll ds ≤ w
section
variable {k k' w w' w2 n : Nat} {d : PyData} {ds es : List PyData}
theorem Sd.mono (h : Sd k w d) (hk : k ≤ k') (hw : w ≤ w') : Sd k' w' d := ⟨h.show_, h.leaves, Nat.le_trans h.depth hk, Nat.le_trans h.weight hw⟩
theorem SdL.mono (h : SdL k w ds) (hk : k ≤ k') (hw : w ≤ w') : SdL k' w' ds := ⟨h.show_, h.leaves, Nat.le_trans h.depth hk, Nat.le_trans h.weight hw⟩
theorem sd_nil : SdL k w [] := ⟨rfl, rfl, Nat.zero_le _, Nat.zero_le _⟩
theorem sd_cons (h : Sd k w d) (t : SdL k w' ds) : SdL k (w + 1 + w') (d :: ds) := by
  refine ⟨?_, ?_, ?_, ?_⟩
  · rw [PyData.showableAll, h.show_, t.show_]; rfl
  · rw [PyData.leavesShortAll, h.leaves, t.leaves]; rfl
  · rw [PyData.depthAll]; exact Nat.max_le.mpr ⟨h.depth, t.depth⟩
  · rw [PyData.weightAll]
    have := h.weight
    have := t.weight
    omega
theorem sd_uncons (h : SdL k w (d :: ds)) : Sd k w d ∧ SdL k w ds ∧ d.weight + 1 + PyData.weightAll ds ≤ w := by
  obtain ⟨h1, h2, h3, h4⟩ := h
  rw [PyData.showableAll, Bool.and_eq_true] at h1
  rw [PyData.leavesShortAll, Bool.and_eq_true] at h2
  rw [PyData.depthAll] at h3
  rw [PyData.weightAll] at h4
  exact ⟨⟨h1.1, h2.1, by omega, by omega⟩, ⟨h1.2, h2.2, by omega, by omega⟩, h4⟩
theorem sd_app : ∀ {ds : List PyData} {w : Nat}, SdL k w ds → SdL k w' es → SdL k (w + w') (ds ++ es)
  | [], w, _, t => t.mono (Nat.le_refl _) (by omega)
  | d :: ds, w, h, t => by
    obtain ⟨h1, h2, h3⟩ := sd_uncons h
    have t2 : SdL k (PyData.weightAll ds) ds := ⟨h2.show_, h2.leaves, h2.depth, Nat.le_refl _⟩
    have t1 : Sd k d.weight d := ⟨h1.show_, h1.leaves, h1.depth, Nat.le_refl _⟩
    exact (sd_cons t1 (sd_app t2 t)).mono (Nat.le_refl _) (by omega)
theorem sd_sub : ∀ {ds es : List PyData} {w : Nat}, SdL k w (ds ++ es) → SdL k w ds ∧ SdL k w es
  | [], es, w, h => ⟨sd_nil, h⟩
  | d :: ds, es, w, h => by
    obtain ⟨h1, h2, h3⟩ := sd_uncons (ds := ds ++ es) h
    have t : SdL k (PyData.weightAll (ds ++ es)) (ds ++ es) := ⟨h2.show_, h2.leaves, h2.depth, Nat.le_refl _⟩
    obtain ⟨a, b⟩ := sd_sub t
    have t1 : Sd k d.weight d := ⟨h1.show_, h1.leaves, h1.depth, Nat.le_refl _⟩
    exact ⟨(sd_cons t1 a).mono (Nat.le_refl _) (by omega), b.mono (Nat.le_refl _) (by omega)⟩
theorem sd_take (h : SdL k w ds) (n : Nat) : SdL k w (ds.take n) := by
  rw [← List.take_append_drop n ds] at h
  exact (sd_sub h).1
theorem sd_drop (h : SdL k w ds) (n : Nat) : SdL k w (ds.drop n) := by
  rw [← List.take_append_drop n ds] at h
  exact (sd_sub h).2
theorem sd_mem : ∀ {ds : List PyData} {w : Nat}, SdL k w ds → d ∈ ds → Sd k w d
  | x :: ds, w, h, hd => by
    obtain ⟨h1, h2, _⟩ := sd_uncons h
    rcases List.mem_cons.mp hd with rfl | hd
    · exact h1
    · exact sd_mem h2 hd
theorem sd_rev : ∀ {ds : List PyData} {w : Nat}, SdL k w ds → SdL k w ds.reverse
  | [], w, _ => sd_nil
  | d :: ds, w, h => by
    obtain ⟨h1, h2, h3⟩ := sd_uncons h
    have t2 : SdL k (PyData.weightAll ds) ds := ⟨h2.show_, h2.leaves, h2.depth, Nat.le_refl _⟩
    have t1 : Sd k d.weight d := ⟨h1.show_, h1.leaves, h1.depth, Nat.le_refl _⟩
    rw [List.reverse_cons]
    exact (sd_app (sd_rev t2) (sd_cons t1 (sd_nil (w := 0)))).mono (Nat.le_refl _) (by omega)
theorem sd_tuple (h : SdL k w ds) : Sd (k + 1) w (.tuple ds) := by
  refine ⟨?_, ?_, ?_, ?_⟩
  · rw [PyData.showable]; exact h.show_
  · rw [PyData.leavesShort]; exact h.leaves
  · rw [PyData.depth]; have := h.depth; omega
  · rw [PyData.weight]; exact h.weight
theorem sd_list (h : SdL k w ds) : Sd (k + 1) w (.list ds) := by
  refine ⟨?_, ?_, ?_, ?_⟩
  · rw [PyData.showable]; exact h.show_
  · rw [PyData.leavesShort]; exact h.leaves
  · rw [PyData.depth]; have := h.depth; omega
  · rw [PyData.weight]; exact h.weight
theorem sd_untuple (h : Sd (k + 1) w (.tuple ds)) : SdL k w ds := by
  obtain ⟨h1, h2, h3, h4⟩ := h
  rw [PyData.showable] at h1
  rw [PyData.leavesShort] at h2
  rw [PyData.depth] at h3
  rw [PyData.weight] at h4
  exact ⟨h1, h2, by omega, h4⟩
theorem sd_none : Sd k w .none := ⟨rfl, rfl, Nat.zero_le _, Nat.zero_le _⟩
theorem sd_bool {b : Bool} : Sd k w (.bool b) := ⟨rfl, rfl, Nat.zero_le _, Nat.zero_le _⟩
theorem sd_int {i : Int} (h : i.natAbs < 10 ^ 12) : Sd k 41 (.int i) := by
  obtain ⟨h1, h2, h3, h4, h5⟩ := sh_int (k := k) h
  exact ⟨h3, decide_eq_true (by have : (PyData.shown (.int i)).length ≤ 13 := of_decide_eq_true h4; omega), h2, h5⟩
def safeS (x : Str) : Bool := x.cps.toList.all fun c => decide (c < 16 ^ 8)
theorem sd_str {x : Str} (h : safeS x = true) (hw : x.cps.size ≤ w) : Sd k w (.str x) := ⟨rfl, h, Nat.zero_le _, hw⟩
theorem safe_text (s : String) : safeS (Str.ofString s) = true := by
  unfold safeS
  rw [List.all_eq_true]
  intro c hc
  have e : (Str.ofString s).cps.toList = s.toList.map Char.toNat := by
    show (cpsOfBytes 0 0 s.toByteArray.data.toList).toArray.toList = _
    rw [List.toList_toArray, cpsOfBytes_string]
  rw [e] at hc
  obtain ⟨x, _, rfl⟩ := List.mem_map.mp hc
  have := x.valid
  refine decide_eq_true ?_
  have h2 : x.toNat < 0x110000 := by
    rcases x.valid with h | ⟨_, h⟩
    · exact Nat.lt_of_lt_of_le h (by decide)
    · exact h
  exact Nat.lt_of_lt_of_le h2 (by decide)
theorem sd_repr (h : Sd k w d) (hk : k ≤ 60) (hw : w ≤ 2 ^ 17) : d.showable = true ∧ d.shown.length ≤ sizeLine ∧ d.depth ≤ dLow := by
  refine ⟨h.show_, ?_, by have := h.depth; show d.depth ≤ 60; omega⟩
  have h1 := PyData.shown_le 50 (by decide) d h.leaves
  have h2 := h.weight
  have h3 : (50 + 2) * d.weight + 50 ≤ (50 + 2) * 2 ^ 17 + 50 := by
    have := Nat.mul_le_mul_left 52 (Nat.le_trans h2 hw)
    omega
  exact Nat.le_trans h1 (Nat.le_trans h3 (by decide))
end
end PL
end
section
set_option Elab.async false
set_option linter.all false
set_option maxRecDepth 100000
set_option maxHeartbeats 400000
/-! PG17: odd values; a value near a nest of tuples. -/
namespace PL
open L2 PySem.Spec PySem
def PnL (G : Ctx) (es : E) (ρ : Env) (ds : List (PyData × Nat)) : Prop := ∀ KL : List (PyData × Nat) → Env → Prop, KL ds ρ → wpL G es ρ KL
/-- a thing that is bent: small numbers, short texts, tuples of these -/
inductive Tn : PyData → Prop
  | int {i : Int} : i.natAbs ≤ 5000 → Tn (.int i)
  | str {x : Str} : x.length ≤ 100 → safeS x = true → Tn (.str x)
  | tup {ds : List PyData} : ds.length ≤ 1000 → (∀ d ∈ ds, Tn d) → Tn (.tuple ds)
section
variable {G : Ctx} {T : Tab} {k B ta so od ii bn n i : Nat} {bag : PyData} {Q : KF} {a b e es r : E} {ρ : Env} {x y d : PyData} {ds : List (PyData × Nat)} {K : KE} {l : List PyData} {z : Str} {v : Int}
theorem pnl_nil : PnL G .nil ρ [] := fun KL q => q
theorem pnl_cons (ha : Pn G a ρ x n) (hr : PnL G r ρ ds) : PnL G (.cons a r) ρ ((x, n) :: ds) := fun KL q => ha _ (hr (fun ds ρ2 => KL ((x, n) :: ds) ρ2) q)
theorem pn_lstN (h : PnL G es ρ ds) (few : ds.length ≤ sizeLine) : Pn G (.lst 0 es) ρ (.list (ds.map (·.1))) 1 := fun K q => h _ ⟨⟨few, fun p _ => .inr (.inl rfl)⟩, q⟩
theorem pn_dsp (ha : Pv G a ρ x) (hb : Pv G b ρ y) (ok : (kOf x).isSome = true) : Pn G (.dsp a b) ρ (.dict [(x, y)]) 1 := fun K q => ha _ (hb _ ⟨ok, q⟩)
theorem pn_dnil : Pn G .dnil ρ (.dict []) 1 := fun K q => q
theorem pv_pow {w : Int} (ha : Pv G a ρ (.int v)) (hb : Pv G b ρ (.int w)) (ok : CPow v w) : Pv G (.bin .pow a b) ρ (.int (v ^ w.toNat)) := fun K q => ha _ (hb _ ⟨ok, q⟩)
theorem pv_strI (ha : Pv G a ρ (.int v)) (h : v.natAbs.log2 < 1920) : Pv G (.fn .str (.cons a .nil)) ρ (.str (Str.ofString (toString v))) := pv_fn1 ha.pn fun kd q => ⟨h, q⟩
theorem pn_listT (ha : Pv G a ρ (.tuple l)) : Pn G (.fn .list (.cons a .nil)) ρ (.list l) 1 := fun K q => ha _ q
theorem pv_revT (ha : Pv G a ρ (.tuple l)) : Pv G (.rev a) ρ (.tuple l.reverse) := fun K q => ha _ q
theorem pv_addT {m : List PyData} (ha : Pv G a ρ (.tuple l)) (hb : Pv G b ρ (.tuple m)) (few : l.length + m.length ≤ sizeLine) : Pv G (.bin .add a b) ρ (.tuple (l ++ m)) := fun K q => ha _ (hb _ ⟨few, q⟩)
theorem pv_mulS (ha : Pv G a ρ (.str z)) (hb : Pv G b ρ (.int v)) (h1 : -(2 ^ 63) ≤ v) (h2 : v ≤ 1000) (h3 : z.length ≤ 1000) : Pv G (.bin .mul a b) ρ (.str (Txt.mul z v)) := fun K q => ha _ (hb _ ⟨⟨h1, h2, h3⟩, q⟩)
theorem w_lend0 {f : Nat} {pr : Bool} (sg : sigOf T f = [2]) (hr : ρ[i]? = some (some ⟨bag, 2, pr, false⟩)) (h : ∀ Q : KF, (∀ d m bag', K d m (ρ.set i (some ⟨bag', 2, pr, false⟩)) → Q d m [bag']) → wpF T k f [bag] Q noX) : wpE (ctx T k noX) (.call f (.cons (.lend i) .nil)) ρ K := by
  show wpA (ctx T k noX) (.cons (.lend i) .nil) ρ _
  refine ⟨_, hr, ?_⟩
  refine ⟨[bag], ?_, ?_, ⟨Nat.le_refl 1, fun j _ => by simp [bors]⟩, ?_⟩
  · show (match ρ[i]? with | some (some s) => (some ([] : List PyData)).map (s.d :: ·) | _ => none) = _
    rw [hr]; rfl
  · show lendOk ρ [.lend i] (sigOf T f) = true
    rw [sg]
    show (2 != 0 && (match ρ[i]? with | some (some s) => s.n == 2 && !s.lk | _ => false) && true) = true
    rw [hr]; rfl
  · refine h _ fun d m bag' q => ⟨.inl rfl, ?_⟩
    show K d m (putD ρ i bag')
    unfold putD
    rw [hr]; exact q
theorem odd_ok (hi : T.fns[od]? = some (od_I so)) (tk : T.fns[ta]? = some takeI) (sm : T.fns[so]? = some (someI ta)) (hb : Bag B bag) (hB : B + 10 < 2 ^ 200) (q : ∀ d bag', Sd 3 300 d → Bag (B + 1) bag' → Q d 0 [bag']) : wpF T (k + 3) od [bag] Q noX := by
  refine wpF_step hi rfl ?_
  show wpS (ctx T (k + 2) noX) (od_B so) [some ⟨bag, 2, true, false⟩, none] (endsOf (od_I so) Q)
  unfold od_B
  have t0 : ∀ (G : Ctx) (ρ : Env), Pv G (.tup .nil) ρ (.tuple []) := fun G ρ => pv_tupP pvl_nil (Nat.zero_le _)
  have one : 1 ≤ sizeLine := by decide
  have two : 2 ≤ sizeLine := by decide
  refine w_seq (w_asg (pn_lstN (pnl_cons pv_none.pn (pnl_cons pv_bool.pn (pnl_cons pv_bool.pn (pnl_cons pv_int.pn (pnl_cons pv_int.pn (pnl_cons (pv_neg pv_int).pn (pnl_cons (pv_pow pv_int pv_int (by unfold CPow; decide)).pn (pnl_cons pv_str.pn (pnl_cons pv_str.pn (pnl_cons pv_str.pn (pnl_cons (t0 _ _).pn (pnl_cons pn_nil (pnl_cons pn_dnil
    (pnl_cons (pv_tupP (pvl_cons pv_int pvl_nil) one).pn (pnl_cons (pv_tupP (pvl_cons pv_str pvl_nil) one).pn (pnl_cons (pv_tupP (pvl_cons pv_str (pvl_cons (t0 _ _) pvl_nil)) two).pn (pnl_cons (pv_tupP (pvl_cons pv_int (pvl_cons pv_int pvl_nil)) two).pn pnl_nil))))))))))))))))) (show 17 ≤ sizeLine by decide)) ⟨trivial, ?_⟩)
  refine w_seq (w_frz (G := ctx T (k + 2) noX) rfl rfl ?_)
  refine w_seq (w_retE (w_some (k := k) tk sm hb (by omega) rfl (pn_add2 (pv_slot rfl).pn (pn_lstN (pnl_cons (pn_lstP (pvl_cons pv_str (pvl_cons (t0 _ _) pvl_nil)) two) (pnl_cons (pv_tupP (pvl_cons pv_str (pvl_cons pv_int pvl_nil)) two).pn (pnl_cons (pn_dsp pv_str (pv_tupP (pvl_cons pv_int pvl_nil) one) rfl) (pnl_cons (pn_dsp pv_int pv_int rfl) (pnl_cons pv_str.pn (pnl_cons (pv_tupP (pvl_cons (pv_tupP (pvl_cons pv_str (pvl_cons pv_str pvl_nil)) two) pvl_nil) one).pn pnl_nil)))))) (show 6 ≤ sizeLine by decide)) ?fa) (.inl rfl) ?fb ?fc fun d bag' hd hb' => ⟨[bag'], rfl, q d bag' ?_ hb'⟩))
  case fa => show 17 + 6 ≤ sizeLine; decide
  case fb => exact fun z => by cases z
  case fc => show 23 ≤ sizeLine; decide
  simp only [List.map_cons, List.map_nil, List.cons_append, List.nil_append, List.mem_cons, List.not_mem_nil, or_false] at hd
  rcases hd with rfl | rfl | rfl | rfl | rfl | rfl | rfl | rfl | rfl | rfl | rfl | rfl | rfl | rfl | rfl | rfl | rfl | rfl | rfl | rfl | rfl | rfl | rfl
  all_goals exact ⟨by decide +kernel, by decide +kernel, by decide +kernel, by decide +kernel⟩
end
end PL
end
section
set_option Elab.async false
set_option linter.all false
set_option maxRecDepth 100000
set_option maxHeartbeats 400000
/-! PG18: a value near a nest of tuples. -/
namespace PL
open L2 PySem.Spec PySem
theorem sd_two {k w : Nat} {z : Str} (h : safeS z = true) (hw : z.cps.size ≤ w) : Sd k (2 * w) (.str (Txt.mul z 2)) := by
  unfold Txt.mul
  rw [if_neg (by decide)]
  split
  · exact sd_str h (by omega)
  · have e : ((List.replicate (2 : Int).toNat z.cps).foldl (· ++ ·) #[]).toList = z.cps.toList ++ z.cps.toList := by
      show ((#[] ++ z.cps) ++ z.cps).toList = _
      simp
    have e2 : ((List.replicate (2 : Int).toNat z.cps).foldl (· ++ ·) #[]).size = z.cps.size + z.cps.size := by
      show ((#[] ++ z.cps) ++ z.cps).size = _
      simp
    refine sd_str ?_ (by show ((List.replicate (2 : Int).toNat z.cps).foldl (· ++ ·) #[]).size ≤ _; rw [e2]; omega)
    unfold safeS at h ⊢
    show (((List.replicate (2 : Int).toNat z.cps).foldl (· ++ ·) #[]).toList.all _) = true
    rw [e, List.all_append, h]; rfl
theorem sd_text {k : Nat} {v : Int} (h : v.natAbs < 10 ^ 12) : Sd k 13 (.str (Str.ofString (toString v))) := sd_str (safe_text _) (PyData.shown_int_le h)
section
variable {G : Ctx} {T : Tab} {k B ta so od ii bn n i kk w deep : Nat} {bag : PyData} {Q : KF} {a b e es r : E} {ρ : Env} {x y d : PyData} {K : KE} {v u : Int}
theorem w_orE (h : wpE G a ρ fun x _ ρ1 => match x with | .bool true => K (.bool true) 0 ρ1 | .bool false => wpE G b ρ1 K | _ => False) : wpE G (.or a b) ρ K := h
theorem pv_eqIF (ha : Pv G a ρ (.int v)) (hb : Pv G b ρ (.int u)) (ne : v ≠ u) : Pv G (.cmp .eq a b) ρ (.bool false) := by
  have := pv_eqI ha hb
  rwa [decide_eq_false ne] at this
theorem pv_eqIT (ha : Pv G a ρ (.int v)) (hb : Pv G b ρ (.int u)) (e : v = u) : Pv G (.cmp .eq a b) ρ (.bool true) := by
  have := pv_eqI ha hb
  rwa [decide_eq_true e] at this
def bnTup (so bn : Nat) : Sm := (.seq (.ite (.cmp .eq (.slot 6) (.int 0)) (.seq (.asg 8 (.lst 0 (.cons (.fn .list (.cons (.slot 1) (.nil))) (.cons (.rev (.slot 1)) (.cons (.bin .add (.slc (.slot 1) (.nil) (.cons (.slot 7) .nil)) (.slc (.slot 1) (.cons (.bin .add (.slot 7) (.int 1)) .nil) (.nil))) (.cons (.bin .add (.slc (.slot 1) (.nil) (.cons (.bin .add (.slot 7) (.int 1)) .nil)) (.slc (.slot 1) (.cons (.slot 7) .nil) (.nil))) (.nil))))))) (.seq (.frz 8) (.seq (.ret (.call so (.cons (.lend 0) (.cons (.bin .add (.slot 8) (.lst 0 (.cons (.bin .add (.slot 1) (.tup (.cons (.none) (.nil)))) (.nil)))) (.nil))))) (.nil)))) (.nil)) (.seq (.ret (.bin .add (.bin .add (.slc (.slot 1) (.nil) (.cons (.slot 7) .nil)) (.tup (.cons (.call bn (.cons (.lend 0) (.cons (.idx (.slot 1) (.slot 7)) (.cons (.bin .sub (.slot 2) (.int 1)) (.nil))))) (.nil)))) (.slc (.slot 1) (.cons (.bin .add (.slot 7) (.int 1)) .nil) (.nil)))) (.nil)))
/-- a tuple bent -/
theorem bent_tup {ds : List PyData} {way at_ : Int} (tk : T.fns[ta]? = some takeI) (sm : T.fns[so]? = some (someI ta)) (hn : T.fns[bn]? = some (bn_I ta od ii so bn)) (hb : Bag B bag) (hB : B + 10 * (deep + 2) < 2 ^ 200)
    (few : ds.length ≤ 1000) (all : ∀ d ∈ ds, Tn d) (sd : SdL kk w ds) (a0 : 0 ≤ at_) (a1 : at_ < ds.length)
    (rec_ : ∀ (d : PyData) (Q : KF), Tn d → Sd kk w d → (∀ d' bag', Sd (kk + 3) (300 + (2 * w + 1) * (deep + 1)) d' → Bag (B + 6 * (deep + 1)) bag' → Q d' 0 [bag']) → wpF T (k + 3) bn [bag, d, .int deep] Q noX)
    (q : ∀ d' bag', Sd (kk + 4) (300 + (2 * w + 1) * (deep + 2)) d' → Bag (B + 6 * (deep + 1)) bag' → Q d' 0 [bag']) :
    wpS (ctx T (k + 3) noX) (bnTup so bn) [some ⟨bag, 2, true, false⟩, sl (.tuple ds), sl (.int ((deep + 1 : Nat) : Int)), none, none, none, sl (.int way), sl (.int at_), none, none, none] (endsOf (bn_I ta od ii so bn) Q) := by
  have bg := big
  have one : 1 ≤ sizeLine := by decide
  unfold bnTup
  have wle : w ≤ 300 + (2 * w + 1) * (deep + 2) := by
    have := Nat.le_mul_of_pos_right (2 * w + 1) (show 0 < deep + 2 by omega)
    omega
  have wle2 : 2 * w + 1 ≤ 300 + (2 * w + 1) * (deep + 2) := by
    have := Nat.le_mul_of_pos_right (2 * w + 1) (show 0 < deep + 2 by omega)
    omega
  have lt : (ds.take at_.toNat).length ≤ 1000 := by rw [List.length_take]; omega
  have lt1 : (ds.take (at_ + 1).toNat).length ≤ 1000 := by rw [List.length_take]; omega
  have ld : (ds.drop at_.toNat).length ≤ 1000 := by rw [List.length_drop]; omega
  have ld1 : (ds.drop (at_ + 1).toNat).length ≤ 1000 := by rw [List.length_drop]; omega
  refine w_seq (w_ite (pv_eqI (pv_slot (x := .int way) rfl) pv_int) (fun _ => ?_) (fun _ => w_nil (G := ctx T (k + 3) noX) ?_))
  · refine w_seq (w_asg (pn_lstN (pnl_cons (pn_listT (pv_slot (x := .tuple ds) rfl)) (pnl_cons (pv_revT (pv_slot (x := .tuple ds) rfl)).pn (pnl_cons (pv_addT (pv_cutTo (pv_slot (x := .tuple ds) rfl) (pv_slot (x := .int at_) rfl) a0) (pv_cutFrom (pv_slot (x := .tuple ds) rfl) (pv_addI (pv_slot (x := .int at_) rfl) pv_int) (by omega)) (by omega)).pn (pnl_cons (pv_addT (pv_cutTo (pv_slot (x := .tuple ds) rfl) (pv_addI (pv_slot (x := .int at_) rfl) pv_int) (by omega)) (pv_cutFrom (pv_slot (x := .tuple ds) rfl) (pv_slot (x := .int at_) rfl) a0) (by omega)).pn pnl_nil)))) (show 4 ≤ sizeLine by decide)) ⟨trivial, ?_⟩)
    refine w_seq (w_frz (G := ctx T (k + 3) noX) rfl rfl ?_)
    refine w_seq (w_retE (w_some (k := k + 1) tk sm hb (by omega) rfl (pn_add2 (pv_slot rfl).pn (pn_lstP (pvl_cons (pv_addT (pv_slot (x := .tuple ds) rfl) (pv_tupP (pvl_cons pv_none pvl_nil) one) (show ds.length + 1 ≤ sizeLine by omega)) pvl_nil) one) ?fa) (.inl rfl) ?fb ?fc fun d bag' hd hb' => ⟨[bag'], rfl, q d bag' ?_ (hb'.mono (by omega))⟩))
    case fa => show 4 + 1 ≤ sizeLine; decide
    case fb => exact fun z => by cases z
    case fc => show 5 ≤ sizeLine; decide
    simp only [List.map_cons, List.map_nil, List.cons_append, List.nil_append, List.mem_cons, List.not_mem_nil, or_false] at hd
    rcases hd with rfl | rfl | rfl | rfl | rfl
    · exact (sd_list sd).mono (by omega) wle
    · exact (sd_tuple (sd_rev sd)).mono (by omega) wle
    · exact (sd_tuple (sd_app (sd_take sd _) (sd_drop sd _))).mono (by omega) (by omega)
    · exact (sd_tuple (sd_app (sd_take sd _) (sd_drop sd _))).mono (by omega) (by omega)
    · exact (sd_tuple (sd_app sd (sd_cons (sd_none (w := 0)) (sd_nil (w := 0))))).mono (by omega) (by omega)
  · obtain ⟨p, e1, hm, e2⟩ := atI_nat (xs := ds) a0 a1
    refine w_seq (w_retE (w_binE (w_binE ?_)))
    refine pv_cutTo (pv_slot (x := .tuple ds) rfl) (pv_slot (x := .int at_) rfl) a0 _ (w_tupE (wl_cons ?_))
    refine w_lend2 (n2 := 0) (x := p) (y := .int (deep : Int)) (by rw [sig_of hn]; rfl) rfl (pv_idxT (pv_slot (x := .tuple ds) rfl) (pv_slot (x := .int at_) rfl) e1).pn ?_ fun Q2 hQ => rec_ p Q2 (all p hm) (sd_mem sd hm) fun d' bag' s' hb' => hQ _ _ _ (wl_nil ⟨one, ⟨by show (ds.take at_.toNat).length + 1 ≤ sizeLine; omega, ?_⟩⟩)
    · have := pv_subI (G := ctx T (k + 3) noX) (ρ := [some ⟨bag, 2, true, false⟩, sl (.tuple ds), sl (.int ((deep + 1 : Nat) : Int)), none, none, none, sl (.int way), sl (.int at_), none, none, none]) (a := .slot 2) (b := .int 1) (pv_slot rfl) pv_int
      have e : ((deep + 1 : Nat) : Int) - 1 = (deep : Int) := by omega
      rw [e] at this
      exact this.pn
    · refine pv_cutFrom (pv_slot (x := .tuple ds) rfl) (pv_addI (pv_slot (x := .int at_) rfl) pv_int) (by omega) _ ⟨?_, [bag'], rfl, q _ bag' ?_ hb'⟩
      · show (ds.take at_.toNat ++ [d']).length + (ds.drop (at_ + 1).toNat).length ≤ sizeLine
        rw [List.length_append, List.length_singleton]; omega
      · refine (sd_tuple (sd_app (sd_app ((sd_take sd _).mono (show kk ≤ kk + 3 by omega) (Nat.le_refl _)) (sd_cons s' (sd_nil (w := 0)))) ((sd_drop sd _).mono (show kk ≤ kk + 3 by omega) (Nat.le_refl _)))).mono (Nat.le_refl _) ?_
        have : (2 * w + 1) * (deep + 2) = (2 * w + 1) * (deep + 1) + (2 * w + 1) := by rw [← Nat.mul_succ]
        omega
theorem bent_step (hi : T.fns[bn]? = some (bn_I ta od ii so bn)) (ho : T.fns[od]? = some (od_I so)) (hii : T.fns[ii]? = some ii_I) (tk : T.fns[ta]? = some takeI) (sm : T.fns[so]? = some (someI ta)) (hb : Bag B bag) (hB : B + 20 * (deep + 2) < 2 ^ 200) (td : Tn d) (sd : Sd kk w d)
    (rec_ : ∀ (kk B : Nat) (bag d : PyData) (Q : KF), Bag B bag → B + 20 * (deep + 1) < 2 ^ 200 → Tn d → Sd kk w d → (∀ d' bag', Sd (kk + 3) (300 + (2 * w + 1) * (deep + 1)) d' → Bag (B + 6 * (deep + 1)) bag' → Q d' 0 [bag']) → wpF T (k + 3) bn [bag, d, .int deep] Q noX)
    (q : ∀ d' bag', Sd (kk + 3) (300 + (2 * w + 1) * (deep + 2)) d' → Bag (B + 6 * (deep + 2)) bag' → Q d' 0 [bag']) : wpF T (k + 4) bn [bag, d, .int ((deep + 1 : Nat) : Int)] Q noX := by
  refine wpF_step hi rfl ?_
  show wpS (ctx T (k + 3) noX) (bn_B ta od ii so bn) [some ⟨bag, 2, true, false⟩, sl d, sl (.int ((deep + 1 : Nat) : Int)), none, none, none, none, none, none, none, none] (endsOf (bn_I ta od ii so bn) Q)
  unfold bn_B
  have bg := big
  have wpos : 300 ≤ 300 + (2 * w + 1) * (deep + 2) := Nat.le_add_right _ _
  have big2 : 300 + 2 * w ≤ 300 + (2 * w + 1) * (deep + 2) := by
    have := Nat.le_mul_of_pos_right (2 * w + 1) (show 0 < deep + 2 by omega)
    omega
  refine w_seq (w_iteS (w_orE (pv_eqIF (pv_slot (x := .int ((deep + 1 : Nat) : Int)) rfl) pv_int (by omega) _ (w_cmpE ?_))))
  refine w_take (k := k + 2) tk hb (by omega) rfl pv_int (by decide) (by decide) fun z bag1 z0 z1 hb1 => pv_int _ (i_eqI ?_)
  show (if decide (z = 0) = true then wpS (ctx T (k + 3) noX) _ [some ⟨bag1, 2, true, false⟩, sl d, sl (.int ((deep + 1 : Nat) : Int)), none, none, none, none, none, none, none, none] _ else wpS (ctx T (k + 3) noX) _ [some ⟨bag1, 2, true, false⟩, sl d, sl (.int ((deep + 1 : Nat) : Int)), none, none, none, none, none, none, none, none] _)
  split
  · refine w_seq (w_retE (w_lend0 (by rw [sig_of ho]; rfl) rfl fun Q2 hQ => odd_ok (k := k) ho tk sm hb1 (by omega) fun d' bag' s' hb' => hQ _ _ _ ⟨[bag'], rfl, q d' bag' (s'.mono (by omega) wpos) (hb'.mono (by omega))⟩))
  refine w_nil (G := ctx T (k + 3) noX) ?_
  have ci := pv_call1 (T := T) (k := k + 3) (f := ii) (ρ := [some ⟨bag1, 2, true, false⟩, sl d, sl (.int ((deep + 1 : Nat) : Int)), none, none, none, none, none, none, none, none]) (a := .slot 1) (x := d) (y := .bool (isIntB d)) (pv_slot rfl) (by rw [sig_of hii]; rfl) fun Q q => ii_ok hii q
  cases td with
  | @int v hv =>
    refine w_seq (w_ite (t := true) ci (fun _ => ?_) (fun z => by cases z))
    refine w_seq (w_retE (w_some (k := k + 1) tk sm hb1 (by omega) rfl (pn_lstP (pvl_cons (pv_addI (pv_slot (x := .int v) rfl) pv_int) (pvl_cons (pv_subI (pv_slot (x := .int v) rfl) pv_int) (pvl_cons pv_int (pvl_cons (pv_neg (pv_slot (x := .int v) rfl)) (pvl_cons (pv_eqI (pv_slot (x := .int v) rfl) pv_int) (pvl_cons pv_none (pvl_cons (pv_mulI pv_int (pv_slot (x := .int v) rfl) (mul_small (by decide) (by omega))) (pvl_cons (pv_strI (pv_slot (x := .int v) rfl) ?fd) pvl_nil)))))))) (show 8 ≤ sizeLine by decide)) (.inl rfl) (by simp) (show 8 ≤ sizeLine by decide) fun d' bag' hd hb' => ⟨[bag'], rfl, q d' bag' ?_ (hb'.mono (by omega))⟩))
    case fd =>
      by_cases z : v.natAbs = 0
      · rw [z]; decide
      · have : v.natAbs.log2 < 13 := (Nat.log2_lt z).mpr (by omega)
        omega
    simp only [List.mem_cons, List.not_mem_nil, or_false] at hd
    rcases hd with rfl | rfl | rfl | rfl | rfl | rfl | rfl | rfl
    · exact (sd_int (k := kk) (by omega)).mono (by omega) (by omega)
    · exact (sd_int (k := kk) (by omega)).mono (by omega) (by omega)
    · exact (sd_int (k := kk) (by decide)).mono (by omega) (by omega)
    · exact (sd_int (k := kk) (by omega)).mono (by omega) (by omega)
    · exact sd_bool
    · exact sd_none
    · exact (sd_int (k := kk) (by omega)).mono (by omega) (by omega)
    · exact (sd_text (k := kk) (by omega)).mono (by omega) (by omega)
  | @str x hx hs =>
    refine w_seq (w_ite (t := false) ci (fun z => by cases z) (fun _ => w_nil (G := ctx T (k + 3) noX) ?_))
    refine w_seq (w_ite (t := false && true) (pv_and (pv_isTb (t := false) (pv_slot (x := .str x) rfl).pn rfl) fun z => by cases z) (fun z => by cases z) (fun _ => w_nil (G := ctx T (k + 3) noX) ?_))
    refine w_seq (w_ite (t := true || true) (pv_or (t := true) (u := true) (pv_not (pv_isTb (t := false) (pv_slot (x := .str x) rfl).pn rfl)) fun z => by cases z) (fun _ => ?_) (fun z => by cases z))
    refine w_seq (w_retE (w_callA (wa_lend rfl (wa_lst (w_lstE (wl_cons ?_))))))
    refine w_lend0 (by rw [sig_of ho]; rfl) rfl fun Q2 hQ => odd_ok (k := k) ho tk sm hb1 (by omega) fun d1 bag2 s1 hb2 => hQ _ _ _ (wl_cons ?_)
    refine w_iteE2 (pv_isTb (t := true) (pv_slot (x := .str x) rfl).pn rfl _ ?_)
    refine pv_mulS (pv_slot (x := .str x) rfl) pv_int (by decide) (by decide) (by omega) _ (wl_nil ⟨⟨(show 2 ≤ sizeLine by decide), fun _ _ => .inr (.inl rfl)⟩, ?_⟩)
    refine ⟨[bag2, .list [d1, .str (Txt.mul x 2)]], rfl, sg_some sm, ⟨Nat.le_refl 1, fun j _ => by simp [bors]⟩, ?_⟩
    refine some_ok (k := k + 1) tk sm hb2 (by omega) (.inl rfl) (by simp) (show 2 ≤ sizeLine by decide) fun d' bag3 hd hb3 => ⟨.inl rfl, [bag3], rfl, q d' bag3 ?_ (hb3.mono (by omega))⟩
    simp only [List.mem_cons, List.not_mem_nil, or_false] at hd
    rcases hd with rfl | rfl
    · exact s1.mono (by omega) wpos
    · exact (sd_two (k := kk) hs (show x.cps.size ≤ w from sd.weight)).mono (by omega) (by omega)
  | @tup ds few all =>
    refine w_seq (w_ite (t := false) ci (fun z => by cases z) (fun _ => w_nil (G := ctx T (k + 3) noX) ?_))
    refine w_seq (w_ite (t := false && true) (pv_and (pv_isTb (t := false) (pv_slot (x := .tuple ds) rfl).pn rfl) fun z => by cases z) (fun z => by cases z) (fun _ => w_nil (G := ctx T (k + 3) noX) ?_))
    have kpos : ∃ kk', kk = kk' + 1 := by
      have := sd.depth
      rw [PyData.depth] at this
      exact ⟨kk - 1, by omega⟩
    obtain ⟨kk', rfl⟩ := kpos
    have pl : (PyData.tuple ds).plain = true := by
      have key : ∀ d, Tn d → d.plain = true := fun d h => by
        induction h with
        | int => rfl
        | str => rfl
        | @tup ds _ _ ih =>
          rw [PyData.plain]
          have : ∀ ds : List PyData, (∀ d ∈ ds, d.plain = true) → PyData.plainAll ds = true := fun ds => by
            induction ds with
            | nil => intro _; rfl
            | cons a l ih => intro h; rw [PyData.plainAll, h a List.mem_cons_self, ih fun d hd => h d (List.mem_cons_of_mem _ hd)]; rfl
          exact this ds ih
      exact key _ (.tup few all)
    have pe := pn_eq (G := ctx T (k + 3) noX) (ρ := [some ⟨bag1, 2, true, false⟩, sl (.tuple ds), sl (.int ((deep + 1 : Nat) : Int)), none, none, none, none, none, none, none, none]) (a := .slot 1) (b := .tup .nil) (pv_slot (x := .tuple ds) rfl).pn (pv_tupP pvl_nil (Nat.zero_le _)).pn ⟨pl, rfl, Nat.le_trans (Nat.min_le_right _ _) (by decide)⟩
    rw [eqv_nilT] at pe
    cases ds with
    | nil =>
      refine w_seq (w_ite (t := false || true) (pv_or (t := false) (u := true) (pv_not (pv_isTb (t := true) (pv_slot (x := .tuple []) rfl).pn rfl)) fun _ => pe) (fun _ => ?_) (fun z => by cases z))
      refine w_seq (w_retE (w_callA (wa_lend rfl (wa_lst (w_lstE (wl_cons ?_))))))
      refine w_lend0 (by rw [sig_of ho]; rfl) rfl fun Q2 hQ => odd_ok (k := k) ho tk sm hb1 (by omega) fun d1 bag2 s1 hb2 => hQ _ _ _ (wl_cons ?_)
      refine w_iteE2 (pv_isTb (t := false) (pv_slot (x := .tuple []) rfl).pn rfl _ ?_)
      refine w_lend0 (by rw [sig_of ho]; rfl) rfl fun Q2 hQ => odd_ok (k := k) ho tk sm hb2 (by omega) fun d2 bag3 s2 hb3 => hQ _ _ _ (wl_nil ⟨⟨(show 2 ≤ sizeLine by decide), fun _ _ => .inr (.inl rfl)⟩, ?_⟩)
      refine ⟨[bag3, .list [d1, d2]], rfl, sg_some sm, ⟨Nat.le_refl 1, fun j _ => by simp [bors]⟩, ?_⟩
      refine some_ok (k := k + 1) tk sm hb3 (by omega) (.inl rfl) (by simp) (show 2 ≤ sizeLine by decide) fun d' bag4 hd hb4 => ⟨.inl rfl, [bag4], rfl, q d' bag4 ?_ (hb4.mono (by omega))⟩
      simp only [List.mem_cons, List.not_mem_nil, or_false] at hd
      rcases hd with rfl | rfl
      · exact s1.mono (by omega) wpos
      · exact s2.mono (by omega) wpos
    | cons c cs =>
      refine w_seq (w_ite (t := false || false) (pv_or (t := false) (u := false) (pv_not (pv_isTb (t := true) (pv_slot (x := .tuple (c :: cs)) rfl).pn rfl)) fun _ => pe) (fun z => by cases z) (fun _ => w_nil (G := ctx T (k + 3) noX) ?_))
      refine w_seq (w_par (wl_cons ?_))
      refine w_take (k := k + 2) tk hb1 (by omega) rfl pv_int (by decide) (by decide) fun way bag2 w0 w1 hb2 => wl_cons ?_
      refine w_take (k := k + 2) (m := ((c :: cs).length : Int)) tk hb2 (by omega) rfl ?_ (by rw [List.length_cons]; omega) (by omega) fun at_ bag3 a0 a1 hb3 => wl_nil ⟨⟨rfl, by decide, vs2 trivial trivial⟩, ?_⟩
      · exact pv_lenT (pv_slot rfl)
      refine w_seq (w_frz (G := ctx T (k + 3) noX) rfl rfl (w_seq (w_frz (G := ctx T (k + 3) noX) rfl rfl ?_)))
      refine bent_tup (way := way) tk sm hi hb3 (by omega) few all (sd_untuple sd) a0 a1 (fun d Q td sd q => rec_ kk' (B + 1 + 1 + 1) bag3 d Q hb3 (by omega) td sd q) fun d' bag' s' hb' => q d' bag' s' (hb'.mono (by omega))
theorem bent_ok (hi : T.fns[bn]? = some (bn_I ta od ii so bn)) (ho : T.fns[od]? = some (od_I so)) (hii : T.fns[ii]? = some ii_I) (tk : T.fns[ta]? = some takeI) (sm : T.fns[so]? = some (someI ta)) : ∀ (deep k kk B : Nat) (bag d : PyData) (Q : KF), Bag B bag → B + 20 * (deep + 1) < 2 ^ 200 → Tn d → Sd kk w d →
    (∀ d' bag', Sd (kk + 3) (300 + (2 * w + 1) * (deep + 1)) d' → Bag (B + 6 * (deep + 1)) bag' → Q d' 0 [bag']) → wpF T (k + deep + 4) bn [bag, d, .int (deep : Int)] Q noX
  | 0, k, kk, B, bag, d, Q, hb, hB, td, sd, q => by
    refine wpF_step hi rfl ?_
    show wpS (ctx T (k + 0 + 3) noX) (bn_B ta od ii so bn) [some ⟨bag, 2, true, false⟩, sl d, sl (.int ((0 : Nat) : Int)), none, none, none, none, none, none, none, none] (endsOf (bn_I ta od ii so bn) Q)
    unfold bn_B
    refine w_seq (w_ite (t := true || true) (pv_or (t := true) (u := true) (pv_eqIT (pv_slot (x := .int ((0 : Nat) : Int)) rfl) pv_int rfl) fun z => by cases z) (fun _ => ?_) (fun z => by cases z))
    refine w_seq (w_retE (w_lend0 (by rw [sig_of ho]; rfl) rfl fun Q2 hQ => odd_ok (k := k) ho tk sm hb (by omega) fun d' bag' s' hb' => hQ _ _ _ ⟨[bag'], rfl, q d' bag' (s'.mono (by omega) (Nat.le_add_right _ _)) (hb'.mono (by omega))⟩))
  | deep + 1, k, kk, B, bag, d, Q, hb, hB, td, sd, q =>
    bent_step (k := k + deep + 1) hi ho hii tk sm hb hB td sd (fun kk B bag d Q hb hB td sd q => bent_ok hi ho hii tk sm deep k kk B bag d Q hb hB td sd q) q
end
end PL
end
section
set_option Elab.async false
set_option linter.all false
set_option maxRecDepth 100000
set_option maxHeartbeats 400000
/-! PG19: halls, states, what is behind: small enough to be compared and shown. -/
namespace PL
open L2 PySem.Spec PySem
theorem w_call3 {T : Tab} {k f n1 n2 n3 : Nat} {a b c : E} {x y z : PyData} {ρ : Env} {K : KE} (ha : Pn (ctx T k noX) a ρ x n1) (hb : Pn (ctx T k noX) b ρ y n2) (hc : Pn (ctx T k noX) c ρ z n3) (sg : sigOf T f = [0, 0, 0]) (h : wpF T k f [x, y, z] (fun d n _ => K d n ρ) noX) : wpE (ctx T k noX) (.call f (.cons a (.cons b (.cons c .nil)))) ρ K := by
  show wpA (ctx T k noX) (.cons a (.cons b (.cons c .nil))) ρ _
  refine ha.arg (hb.arg (hc.arg ⟨[x, y, z], rfl, ?_, ⟨Nat.zero_le _, fun i hi => by cases hi⟩, ?_⟩))
  · show lendOk ρ [.val x n1, .val y n2, .val z n3] (sigOf T f) = true
    rw [sg]; rfl
  · have e : (fun d n (outs : List PyData) => (bors [Arg.val x n1, .val y n2, .val z n3] = [] ∨ (flatN n d = true ∧ outsFlat (sigOf T f) outs = true)) ∧ K d n (putOuts [Arg.val x n1, .val y n2, .val z n3] outs ρ)) = fun d n _ => K d n ρ := by
      funext d n outs
      refine propext ⟨fun h => h.2, fun h => ⟨.inl rfl, h⟩⟩
    show wpF T k f [x, y, z] _ noX
    rw [e]; exact h
theorem pv_call3 {T : Tab} {k f n1 n2 n3 : Nat} {a b c : E} {x y z u : PyData} {ρ : Env} (ha : Pn (ctx T k noX) a ρ x n1) (hb : Pn (ctx T k noX) b ρ y n2) (hc : Pn (ctx T k noX) c ρ z n3) (sg : sigOf T f = [0, 0, 0]) (h : ∀ Q : KF, Q u 0 [] → wpF T k f [x, y, z] Q noX) : Pv (ctx T k noX) (.call f (.cons a (.cons b (.cons c .nil)))) ρ u := fun K q => w_call3 ha hb hc sg (h _ q)
mutual
theorem leaves_mono {m n : Nat} (h : m ≤ n) : ∀ d : PyData, d.leavesShort m = true → d.leavesShort n = true
  | .none, _ => rfl
  | .bool _, _ => rfl
  | .int i, e => by
    rw [PyData.leavesShort] at e ⊢
    exact decide_eq_true (Nat.le_trans (of_decide_eq_true e) h)
  | .str x, e => e
  | .list xs, e => by
    rw [PyData.leavesShort] at e ⊢
    exact leavesL_mono h xs e
  | .tuple xs, e => by
    rw [PyData.leavesShort] at e ⊢
    exact leavesL_mono h xs e
  | .dict kvs, e => by
    rw [PyData.leavesShort] at e ⊢
    exact leavesK_mono h kvs e
theorem leavesL_mono {m n : Nat} (h : m ≤ n) : ∀ ds : List PyData, PyData.leavesShortAll m ds = true → PyData.leavesShortAll n ds = true
  | [], _ => rfl
  | d :: ds, e => by
    rw [PyData.leavesShortAll, Bool.and_eq_true] at e
    rw [PyData.leavesShortAll, leaves_mono h d e.1, leavesL_mono h ds e.2]; rfl
theorem leavesK_mono {m n : Nat} (h : m ≤ n) : ∀ ds : List (PyData × PyData), PyData.leavesShortKv m ds = true → PyData.leavesShortKv n ds = true
  | [], _ => rfl
  | (a, b) :: ds, e => by
    rw [PyData.leavesShortKv, Bool.and_eq_true, Bool.and_eq_true] at e
    rw [PyData.leavesShortKv, leaves_mono h a e.1.1, leaves_mono h b e.1.2, leavesK_mono h ds e.2]; rfl
end
theorem Sh.sd {k w : Nat} {d : PyData} (h : Sh k w d) : Sd k w d := ⟨h.show_, leaves_mono (by decide) d h.leaves, h.depth, h.weight⟩
theorem nm_sh {k : Nat} {x : Str} (h : x ∈ NM) : Sh k 10 (.str x) := by
  have : ∀ x ∈ NM, x.cps.toList.all (fun c => decide (c < 16 ^ 8)) = true ∧ x.cps.size ≤ 10 := by decide +kernel
  exact sh_str (this x h).1 (this x h).2
theorem int_sh {k : Nat} {v : Int} (h : v.natAbs ≤ 100000) : Sh k 41 (.int v) := sh_int (by
  have : (100000 : Nat) < 10 ^ 12 := by decide
  omega)
theorem rows_sh {rows : List (List Int)} (hl : rows.length ≤ 9) (h : ∀ r ∈ rows, r.length ≤ 2 ∧ ∀ v ∈ r, v.natAbs ≤ 100000) : Sh 2 765 (.tuple (rows.map rwD)) := by
  refine sh_tuple (k := 1) (w := 84) (n := 9) (fun x hx => ?_) (by rw [List.length_map]; exact hl)
  obtain ⟨r, hr, rfl⟩ := List.mem_map.mp hx
  refine sh_tuple (k := 0) (w := 41) (n := 2) (fun y hy => ?_) (by rw [List.length_map]; exact (h r hr).1)
  obtain ⟨v, hv, rfl⟩ := List.mem_map.mp hy
  exact int_sh ((h r hr).2 v hv)
theorem st_sh {n : Str} {rows : List (List Int)} (hn : n ∈ NM) (hl : rows.length ≤ 9) (h : ∀ r ∈ rows, r.length ≤ 2 ∧ ∀ v ∈ r, v.natAbs ≤ 100000) : Sh 3 1532 (stD n rows) := by
  refine sh_tuple (k := 2) (w := 765) (n := 2) (fun x hx => ?_) (Nat.le_refl 2)
  simp only [List.mem_cons, List.not_mem_nil, or_false] at hx
  rcases hx with rfl | rfl
  · exact (nm_sh (k := 2) hn).mono (Nat.le_refl _) (by decide)
  · exact rows_sh hl h
section
variable {h : Hall} {most : Int} {n : Str} {rows : List (List Int)}
theorem hall_sh (M : Made most h) (hm : most ≤ 1000) : Sh 5 18003 (hD h) := by
  have pt : ∀ p : Int × Int, p.1.natAbs ≤ 100000 → p.2.natAbs ≤ 100000 → Sh 1 84 (pD p) := fun p h1 h2 => by
    refine sh_tuple (k := 0) (w := 41) (n := 2) (fun y hy => ?_) (Nat.le_refl 2)
    simp only [List.mem_cons, List.not_mem_nil, or_false] at hy
    rcases hy with rfl | rfl
    · exact int_sh h1
    · exact int_sh h2
  have mt : ∀ m ∈ h.ms, Sh 3 600 (mD m) := fun m hm' => by
    obtain ⟨⟨t0, t1⟩, p1, p2⟩ := M.ok m hm'
    refine (sh_tuple (ds := [.str m.nm, .int m.tm, .tuple (m.ps.map pD)]) (k := 2) (w := 170) (n := 3) (fun y hy => ?_) (Nat.le_refl 3)).mono (Nat.le_refl _) (by decide)
    simp only [List.mem_cons, List.not_mem_nil, or_false] at hy
    rcases hy with rfl | rfl | rfl
    · exact (nm_sh (k := 2) (M.nm m hm')).mono (Nat.le_refl _) (by decide)
    · exact (int_sh (k := 2) (by omega)).mono (Nat.le_refl _) (by decide)
    · refine (sh_tuple (k := 1) (w := 84) (n := 2) (fun z hz => ?_) (by rw [List.length_map]; exact p1)).mono (Nat.le_refl _) (by decide)
      obtain ⟨p, hp, rfl⟩ := List.mem_map.mp hz
      have := p2 p hp
      exact pt p (by omega) (by omega)
  have bt : ∀ b ∈ h.bs, Sh 1 200 (bD b) := fun b hb => by
    have ok := M.bok b hb
    obtain ⟨o1, o2, o3, o4⟩ := ok
    have st : b.s ∈ NM := by
      obtain ⟨m, hm', e⟩ := M.ends.starts b hb
      rw [← e]; exact M.nm m hm'
    have en : b.e ∈ NM := by
      obtain ⟨m, hm', e⟩ := M.ends.ends b hb
      rw [← e]; exact M.nm m hm'
    refine (sh_tuple (ds := [.str b.s, .str b.e, .int b.room, .int b.first]) (k := 0) (w := 41) (n := 4) (fun y hy => ?_) (Nat.le_refl 4)).mono (Nat.le_refl _) (by decide)
    simp only [List.mem_cons, List.not_mem_nil, or_false] at hy
    rcases hy with rfl | rfl | rfl | rfl
    · exact (nm_sh st).mono (Nat.le_refl _) (by decide)
    · exact (nm_sh en).mono (Nat.le_refl _) (by decide)
    · exact int_sh (by omega)
    · exact int_sh (by omega)
  have few := M.few
  have fb := M.bs
  refine sh_tuple (k := 4) (w := 6000) (n := 3) (fun x hx => ?_) (Nat.le_refl 3)
  simp only [List.mem_cons, List.not_mem_nil, or_false] at hx
  rcases hx with rfl | rfl | rfl
  · refine (sh_tuple (k := 3) (w := 600) (n := 9) (fun x hx => ?_) (by rw [List.length_map]; exact few)).mono (Nat.le_refl _) (by decide)
    obtain ⟨m, hm', rfl⟩ := List.mem_map.mp hx
    exact mt m hm'
  · refine (sh_tuple (k := 1) (w := 200) (n := 20) (fun x hx => ?_) (by rw [List.length_map]; exact fb)).mono (by decide) (by decide)
    obtain ⟨b, hb, rfl⟩ := List.mem_map.mp hx
    exact bt b hb
  · exact (nm_sh (k := 4) M.fl).mono (Nat.le_refl _) (by decide)
theorem growth_le (M : Made most h) {a : Arc} (ok : arcOk h a) : 0 ≤ growthOf h a ∧ growthOf h a ≤ 100 := by
  cases a with
  | next n => exact ⟨(by decide : (0 : Int) ≤ 1), (by decide : (1 : Int) ≤ 100)⟩
  | down j =>
    have e : h.bs[j]? = some h.bs[j] := List.getElem?_eq_getElem ok
    have o := M.bok _ (List.mem_of_getElem? e)
    obtain ⟨o1, o2, o3, o4⟩ := o
    have : growthOf h (.down j) = h.bs[j].first := by show (match h.bs[j]? with | some b => b.first | none => 0) = _; rw [e]
    rw [this]; omega
  | up j =>
    have e : h.bs[j]? = some h.bs[j] := List.getElem?_eq_getElem ok
    have o := M.bok _ (List.mem_of_getElem? e)
    obtain ⟨o1, o2, o3, o4⟩ := o
    have : growthOf h (.up j) = h.bs[j].room - h.bs[j].first := by show (match h.bs[j]? with | some b => b.room - b.first | none => 0) = _; rw [e]
    rw [this]; omega
theorem end_nm (M : Made most h) {r : ARow} (hn : n ∈ NM) (hr : r ∈ arcs h n) : endOf h r.1 ∈ NM := by
  obtain ⟨ok, e1, _⟩ := arcs_row hr
  unfold arcs at hr
  have st : ∀ b ∈ h.bs, b.s ∈ NM ∧ b.e ∈ NM := fun b hb => by
    obtain ⟨m, hm', e⟩ := M.ends.starts b hb
    obtain ⟨m2, hm2, e2⟩ := M.ends.ends b hb
    exact ⟨by rw [← e]; exact M.nm m hm', by rw [← e2]; exact M.nm m2 hm2⟩
  rw [← e1]
  rcases List.mem_append.mp hr with z | z
  · rcases List.mem_cons.mp z with rfl | z
    · exact hn
    · obtain ⟨i, b, e, rfl⟩ := downs_mem n z
      exact (st b (List.mem_of_getElem? e)).2
  · obtain ⟨i, b, e, rfl⟩ := ups_mem n z
    exact (st b (List.mem_of_getElem? e)).1
theorem zip_all {α β γ : Type} {f : α → β → γ} {P : γ → Prop} : ∀ {as : List α} {bs : List β}, (∀ a ∈ as, ∀ b ∈ bs, P (f a b)) → ∀ c ∈ List.zipWith f as bs, P c
  | [], bs, _, c, hc => by cases bs <;> cases hc
  | a :: as, [], _, c, hc => by cases hc
  | a :: as, b :: bs, h, c, hc => by
    rcases List.mem_cons.mp (show c ∈ f a b :: List.zipWith f as bs from hc) with rfl | hc
    · exact h a List.mem_cons_self b List.mem_cons_self
    · exact zip_all (fun a ha b hb => h a (List.mem_cons_of_mem _ ha) b (List.mem_cons_of_mem _ hb)) c hc
theorem bh_le (M : Made most h) (hm : most ≤ 1000) (d : Drawn h rows) {e : Bool} {g : Int} (g0 : 0 ≤ g) : (bh e g n (h.ms.zip rows)).1.natAbs ≤ 100000 ∧ ∀ r ∈ (bh e g n (h.ms.zip rows)).2, r.length ≤ 2 ∧ ∀ v ∈ r, v.natAbs ≤ 100000 := by
  have key : ∀ (l : List (Mc × List Int)) (a : Int × List (List Int)), (∀ x ∈ l, McOk most x.1 ∧ x.2.length ≤ 2 ∧ ∀ v ∈ x.2, 0 ≤ v ∧ v ≤ 1000) → (a.1.natAbs ≤ 100000 ∧ ∀ r ∈ a.2, r.length ≤ 2 ∧ ∀ v ∈ r, v.natAbs ≤ 100000) →
      ((l.foldl (bhStep e g n) a).1.natAbs ≤ 100000 ∧ ∀ r ∈ (l.foldl (bhStep e g n) a).2, r.length ≤ 2 ∧ ∀ v ∈ r, v.natAbs ≤ 100000) := fun l => by
    induction l with
    | nil => intro a _ h; exact h
    | cons x l ih =>
      intro a hx ha
      rw [List.foldl_cons]
      obtain ⟨⟨⟨t0, t1⟩, p1, p2⟩, x1, x2⟩ := hx x List.mem_cons_self
      refine ih _ (fun y hy => hx y (List.mem_cons_of_mem _ hy)) ⟨?_, fun r hr => ?_⟩
      · unfold bhStep
        simp only
        split
        · have hs : 0 ≤ x.2.sum ∧ x.2.sum ≤ 2000 := by
            match e' : x.2, x1 with
            | [], _ => simp
            | [u], _ =>
              have := x2 u (by rw [e']; simp)
              simp; omega
            | [u, v], _ =>
              have := x2 u (by rw [e']; simp)
              have := x2 v (by rw [e']; simp)
              simp; omega
            | u :: v :: w :: r, hl => simp at hl
          omega
        · exact ha.1
      · unfold bhStep at hr
        simp only at hr
        rcases List.mem_append.mp hr with z | z
        · exact ha.2 r z
        · rw [List.mem_singleton.mp z]
          unfold outRow
          refine ⟨by rw [List.length_zipWith]; omega, ?_⟩
          refine zip_all (P := fun v : Int => v.natAbs ≤ 100000) fun p hp v hv => ?_
          have q := p2 p hp
          have hv2 : 0 ≤ v := by
            unfold leftOf at hv
            split at hv
            · obtain ⟨_, _, rfl⟩ := List.mem_map.mp hv
              exact Int.le_refl _
            · exact (x2 v hv).1
          have m0 : 0 ≤ p.2 * g := Int.mul_nonneg q.2.2.1 g0
          show (cap g p v).natAbs ≤ 100000
          unfold cap
          split <;> omega
  unfold bh
  refine key _ _ (fun x hx => ?_) ⟨by decide, by simp⟩
  obtain ⟨m, r⟩ := x
  have hz := List.of_mem_zip hx
  exact ⟨M.ok m hz.1, (d.row r hz.2).1, (d.row r hz.2).2⟩
theorem bhD_sh (M : Made most h) (hm : most ≤ 1000) (d : Drawn h rows) {r : ARow} (hn : n ∈ NM) (hr : r ∈ arcs h n) : Sh 4 4000 (bhD h n rows r.1) := by
  obtain ⟨ok, _, _⟩ := arcs_row hr
  have g := growth_le M ok
  have b := bh_le (n := n) (e := endsA r.1) M hm d g.1
  have few := M.few
  refine (sh_tuple (ds := [stD (endOf h r.1) (bh (endsA r.1) (growthOf h r.1) n (h.ms.zip rows)).2, .int (bh (endsA r.1) (growthOf h r.1) n (h.ms.zip rows)).1]) (k := 3) (w := 1532) (n := 2) (fun x hx => ?_) (Nat.le_refl 2)).mono (Nat.le_refl _) (by decide)
  simp only [List.mem_cons, List.not_mem_nil, or_false] at hx
  rcases hx with rfl | rfl
  · exact st_sh (end_nm M hn hr) (by rw [bh_len, List.length_zip]; omega) b.2
  · exact (int_sh (k := 3) b.1).mono (Nat.le_refl _) (by decide)
theorem drawn_tn (d : Drawn h rows) (hn : n ∈ NM) (few : h.ms.length ≤ 9) : Tn (stD n rows) := by
  have : ∀ x ∈ NM, x.length ≤ 100 ∧ safeS x = true := by decide +kernel
  refine .tup (show 2 ≤ 1000 by decide) fun x hx => ?_
  simp only [List.mem_cons, List.not_mem_nil, or_false] at hx
  rcases hx with rfl | rfl
  · exact .str (this n hn).1 (this n hn).2
  · refine .tup (by rw [List.length_map, d.len]; omega) fun y hy => ?_
    obtain ⟨r, hr, rfl⟩ := List.mem_map.mp hy
    have q := d.row r hr
    refine .tup (by rw [List.length_map]; omega) fun z hz => ?_
    obtain ⟨v, hv, rfl⟩ := List.mem_map.mp hz
    have := q.2 v hv
    exact .int (by omega)
theorem full_sh (M : Made most h) (hm : most ≤ 1000) (hn : n ∈ NM) : Sh 3 1532 (stD n (fullR h)) := by
  refine st_sh hn (by unfold fullR; rw [List.length_map]; exact M.few) fun r hr => ?_
  unfold fullR at hr
  obtain ⟨m, hm', rfl⟩ := List.mem_map.mp hr
  obtain ⟨_, p1, p2⟩ := M.ok m hm'
  refine ⟨by rw [List.length_map]; exact p1, fun v hv => ?_⟩
  obtain ⟨p, hp, rfl⟩ := List.mem_map.mp hv
  have := p2 p hp
  omega
end
end PL
end
section
set_option Elab.async false
set_option linter.all false
set_option maxRecDepth 100000
set_option maxHeartbeats 4000000
/-! the defs of the law as terms; each passes the check. Printed by gen.py, mk.py. -/
namespace K19
open PL PySem PySem.Spec PyProof.Rows L2
abbrev top (i : Nat) : Stmt := PySem.Challenge.pw_fillerfed_k19_states_and_what_is_behind.main.body.getD i (.Pass ⟨0, 0, 0, 0⟩)
def n0 : List Str := ["hall", "machine"]
def b0 : Sm := .seq (.ret (.fn .tuple (.cons (.lc 0 (.idx (.slot 1) (.int 0)) (.nm 1) (.itv (.idx (.slot 0) (.int 0))) (.nil) [1]) (.nil)))) (.nil)
def f0 : FnI := ⟨"names_of", 1, 2, [0], b0⟩
def n1 : List Str := ["hall", "arc", "word", "place"]
def b1 : Sm := .seq (.unp (.tup (.cons (.nm 2) (.cons (.nm 3) (.nil)))) (.slot 1)) (.seq (.ite (.cmp .eq (.slot 2) (.str "next")) (.seq (.ret (.slot 3)) (.nil)) (.nil)) (.seq (.ret (.idx (.idx (.idx (.slot 0) (.int 1)) (.slot 3)) (.ite (.cmp .eq (.slot 2) (.str "down")) (.int 1) (.int 0)))) (.nil)))
def f1 : FnI := ⟨"end_of", 2, 4, [0, 0], b1⟩
def n2 : List Str := ["hall", "arc", "word", "place", "start", "end", "room", "first"]
def b2 : Sm := .seq (.unp (.tup (.cons (.nm 2) (.cons (.nm 3) (.nil)))) (.slot 1)) (.seq (.ite (.cmp .eq (.slot 2) (.str "next")) (.seq (.ret (.int 1)) (.nil)) (.nil)) (.seq (.unp (.tup (.cons (.nm 4) (.cons (.nm 5) (.cons (.nm 6) (.cons (.nm 7) (.nil)))))) (.idx (.idx (.slot 0) (.int 1)) (.slot 3))) (.seq (.ret (.ite (.cmp .eq (.slot 2) (.str "down")) (.slot 7) (.bin .sub (.slot 6) (.slot 7)))) (.nil))))
def f2 : FnI := ⟨"growth_of", 2, 8, [0, 0], b2⟩
def n3 : List Str := ["arc"]
def b3 : Sm := .seq (.ret (.cmp .ne (.idx (.slot 0) (.int 0)) (.str "up"))) (.nil)
def f3 : FnI := ⟨"does_end", 1, 1, [0], b3⟩
def n4 : List Str := ["thing"]
def b4 : Sm := .seq (.ret (.and (.isT [.int] (.slot 0)) (.not (.isT [.bool] (.slot 0))))) (.nil)
def f4 : FnI := ⟨"is_integer", 1, 1, [0], b4⟩
def n5 : List Str := ["purses", "thing", "held", "size", "back"]
def b5 : Sm := .seq (.ite (.or (.not (.isT [.tuple] (.slot 1))) (.cmp .ne (.fn .len (.cons (.slot 1) (.nil))) (.fn .len (.cons (.slot 0) (.nil))))) (.seq (.ret (.bool false)) (.nil)) (.nil)) (.seq (.ret (.fn .all (.cons (.lc 0 (.and (.call 4 (.cons (.slot 2) (.nil))) (.chain .le .le (.int 0) (.slot 2) (.slot 3))) (.tup (.cons (.nm 2) (.cons (.tup (.cons (.nm 3) (.cons (.nm 4) (.nil)))) (.nil)))) (.zp (.slot 1) (.slot 0)) (.nil) [2, 3, 4]) (.nil)))) (.nil))
def f5 : FnI := ⟨"is_row", 2, 5, [0, 0], b5⟩
def n6 : List Str := ["hall", "thing", "row", "name", "time", "purses"]
def b6 : Sm := .seq (.ite (.or (.not (.isT [.tuple] (.slot 1))) (.or (.cmp .ne (.fn .len (.cons (.slot 1) (.nil))) (.int 2)) (.not (.isT [.str] (.idx (.slot 1) (.int 0)))))) (.seq (.ret (.bool false)) (.nil)) (.nil)) (.seq (.ite (.or (.cmp .notin (.idx (.slot 1) (.int 0)) (.call 0 (.cons (.slot 0) (.nil)))) (.or (.not (.isT [.tuple] (.idx (.slot 1) (.int 1)))) (.cmp .ne (.fn .len (.cons (.idx (.slot 1) (.int 1)) (.nil))) (.fn .len (.cons (.idx (.slot 0) (.int 0)) (.nil)))))) (.seq (.ret (.bool false)) (.nil)) (.nil)) (.seq (.ret (.fn .all (.cons (.lc 0 (.call 5 (.cons (.slot 5) (.cons (.slot 2) (.nil)))) (.tup (.cons (.nm 2) (.cons (.tup (.cons (.nm 3) (.cons (.nm 4) (.cons (.nm 5) (.nil))))) (.nil)))) (.zp (.idx (.slot 1) (.int 1)) (.idx (.slot 0) (.int 0))) (.nil) [2, 3, 4, 5]) (.nil)))) (.nil)))
def f6 : FnI := ⟨"is_state", 2, 6, [0, 0], b6⟩
def n7 : List Str := ["hall", "name", "other", "time", "purses", "size", "back"]
def b7 : Sm := .seq (.ret (.tup (.cons (.slot 1) (.cons (.fn .tuple (.cons (.lc 0 (.fn .tuple (.cons (.lc 0 (.slot 5) (.tup (.cons (.nm 5) (.cons (.nm 6) (.nil)))) (.itv (.slot 4)) (.nil) [5, 6]) (.nil))) (.tup (.cons (.nm 2) (.cons (.nm 3) (.cons (.nm 4) (.nil))))) (.itv (.idx (.slot 0) (.int 0))) (.nil) [2, 3, 4]) (.nil))) (.nil))))) (.nil)
def f7 : FnI := ⟨"full_state", 2, 7, [0, 0], b7⟩
def n8 : List Str := ["hall", "state", "arc", "growth", "ticks", "found", "row", "left", "name", "time", "purses", "held", "size", "back"]
def b8 : Sm := .seq (.par [3, 4, 5] (.cons (.call 2 (.cons (.slot 0) (.cons (.slot 2) (.nil)))) (.cons (.int 0) (.cons (.lst 0 (.nil)) (.nil))))) (.seq (.frz 3) (.seq (.frz 4) (.seq (.for_ (.tup (.cons (.tup (.cons (.nm 8) (.cons (.nm 9) (.cons (.nm 10) (.nil))))) (.cons (.nm 6) (.nil)))) (.zp (.idx (.slot 0) (.int 0)) (.idx (.slot 1) (.int 1))) (.seq (.asg 7 (.slot 6)) (.seq (.frz 7) (.seq (.ite (.and (.cmp .eq (.slot 8) (.idx (.slot 1) (.int 0))) (.call 3 (.cons (.slot 2) (.nil)))) (.seq (.par [4, 7] (.cons (.bin .add (.slot 9) (.fn .sum (.cons (.slot 6) (.nil)))) (.cons (.bin .mul (.tup (.cons (.int 0) (.nil))) (.fn .len (.cons (.slot 6) (.nil)))) (.nil)))) (.seq (.frz 4) (.seq (.frz 7) (.nil)))) (.nil)) (.seq (.append 5 (.fn .tuple (.cons (.lc 0 (.fn .min (.cons (.slot 12) (.cons (.bin .add (.slot 11) (.bin .mul (.slot 13) (.slot 3))) (.nil)))) (.tup (.cons (.nm 11) (.cons (.tup (.cons (.nm 12) (.cons (.nm 13) (.nil)))) (.nil)))) (.zp (.slot 7) (.slot 10)) (.nil) [11, 12, 13]) (.nil)))) (.nil)))))) (.seq (.ret (.tup (.cons (.tup (.cons (.call 1 (.cons (.slot 0) (.cons (.slot 2) (.nil)))) (.cons (.fnS .tuple 5) (.nil)))) (.cons (.slot 4) (.nil))))) (.nil)))))
def f8 : FnI := ⟨"behind", 3, 14, [0, 0, 0], b8⟩
def n9 : List Str := ["_law_bag_here", "_law_many", "_law_begin", "_law_second", "_law_cell", "_law_stirred", "_law_value"]
def b9 : Sm := .seq (.ite (.cmp .eq (.idxS 0 (.int 0)) (.int 0)) (.seq (.asg 4 (.idx (.bin .add (.slc2S 0 (.int 3) (.cons (.idxS 0 (.int 2)) .nil) (.nil)) (.lst 0 (.cons (.int 0) (.nil)))) (.int 0))) (.seq (.frz 4) (.seq (.augIx 0 (.int 2) .add (.int 1)) (.seq (.ite (.cmp .ge (.slot 4) (.bin .pow (.int 10) (.int 18))) (.seq (.setIx 0 (.int 0) (.slot 4)) (.nil)) (.nil)) (.seq (.asg 5 (.bin .add (.bin .add (.bin .mul (.idxS 0 (.int 1)) (.int 48271)) (.bin .mod (.fn .int (.cons (.slot 4) (.nil))) (.int 2147483647))) (.bin .mul (.int 7919) (.idxS 0 (.int 2))))) (.seq (.frz 5) (.seq (.setIx 0 (.int 1) (.bin .mod (.fn .int (.cons (.slot 5) (.nil))) (.int 2147483647))) (.nil)))))))) (.nil)) (.seq (.ite (.cmp .gt (.idxS 0 (.int 0)) (.int 0)) (.seq (.asg 6 (.bin .mod (.fn .int (.cons (.idxS 0 (.int 0)) (.nil))) (.slot 1))) (.seq (.frz 6) (.seq (.setIx 0 (.int 0) (.bin .fdiv (.fn .int (.cons (.idxS 0 (.int 0)) (.nil))) (.slot 1))) (.seq (.ret (.slot 6)) (.nil))))) (.nil)) (.seq (.asg 2 (.bin .mod (.fn .int (.cons (.bin .mul (.bin .add (.idxS 0 (.int 1)) (.int 1)) (.int 39373)) (.nil))) (.int 1000000007))) (.seq (.frz 2) (.seq (.asg 3 (.bin .mod (.fn .int (.cons (.bin .mul (.bin .mod (.fn .int (.cons (.bin .mul (.slot 2) (.slot 2)) (.nil))) (.int 998244353)) (.int 30011)) (.nil))) (.int 998244353))) (.seq (.frz 3) (.seq (.ret (.bin .mod (.fn .int (.cons (.bin .fdiv (.slot 3) (.int 7)) (.nil))) (.slot 1))) (.nil)))))))
def f9 : FnI := ⟨"_law_take", 2, 7, [2, 0], b9⟩
def n10 : List Str := ["_law_bag_here", "_law_things"]
def b10 : Sm := .seq (.ret (.idx (.slot 1) (.call 9 (.cons (.lend 0) (.cons (.fn .len (.cons (.slot 1) (.nil))) (.nil)))))) (.nil)
def f10 : FnI := ⟨"_law_some", 2, 2, [2, 0], b10⟩
def n11 : List Str := ["_law_bag_here", "_law_things", "_law_found", "_law_thing"]
def b11 : Sm := .seq (.asg 2 (.lst 0 (.nil))) (.seq (.for_ (.nm 3) (.itv (.slot 1)) (.seq (.insert 2 (.call 9 (.cons (.lend 0) (.cons (.bin .add (.fnS .len 2) (.int 1)) (.nil)))) (.slot 3)) (.nil))) (.seq (.retS 2) (.nil)))
def f11 : FnI := ⟨"_law_mixed", 2, 4, [2, 0], b11⟩
def n12 : List Str := ["_law_found", "_law_due"]
def b12 : Sm := .seq (.ret (.and (.cmp .eq (.slot 0) (.slot 1)) (.cmp .eq (.fn .repr (.cons (.slot 0) (.nil))) (.fn .repr (.cons (.slot 1) (.nil)))))) (.nil)
def f12 : FnI := ⟨"_law_alike", 2, 2, [0, 0], b12⟩
def n13 : List Str := ["_law_thing"]
def b13 : Sm := .seq (.ret (.and (.isT [.int] (.slot 0)) (.not (.isT [.bool] (.slot 0))))) (.nil)
def f13 : FnI := ⟨"_law_is_int", 1, 1, [0], b13⟩
def n14 : List Str := ["_law_hall_here", "_law_machine"]
def b14 : Sm := .seq (.ret (.lc 0 (.idx (.slot 1) (.int 0)) (.nm 1) (.itv (.idx (.slot 0) (.int 0))) (.nil) [1])) (.nil)
def f14 : FnI := ⟨"_law_names", 1, 2, [0], b14⟩
def n15 : List Str := ["_law_hall_here", "_law_name", "_law_found", "_law_at", "_law_belt"]
def b15 : Sm := .seq (.asg 2 (.lst 0 (.cons (.tup (.cons (.tup (.cons (.str "next") (.cons (.slot 1) (.nil)))) (.cons (.slot 1) (.cons (.int 1) (.nil))))) (.nil)))) (.seq (.extend 2 (.lc 0 (.tup (.cons (.tup (.cons (.str "down") (.cons (.slot 3) (.nil)))) (.cons (.idx (.slot 4) (.int 1)) (.cons (.idx (.slot 4) (.int 3)) (.nil))))) (.tup (.cons (.nm 3) (.cons (.nm 4) (.nil)))) (.enm (.idx (.slot 0) (.int 1))) (.cons (.cmp .eq (.idx (.slot 4) (.int 0)) (.slot 1)) (.nil)) [3, 4])) (.seq (.frz 2) (.seq (.ret (.bin .add (.slot 2) (.lc 0 (.tup (.cons (.tup (.cons (.str "up") (.cons (.slot 3) (.nil)))) (.cons (.idx (.slot 4) (.int 0)) (.cons (.bin .sub (.idx (.slot 4) (.int 2)) (.idx (.slot 4) (.int 3))) (.nil))))) (.tup (.cons (.nm 3) (.cons (.nm 4) (.nil)))) (.enm (.idx (.slot 0) (.int 1))) (.cons (.cmp .eq (.idx (.slot 4) (.int 1)) (.slot 1)) (.nil)) [3, 4]))) (.nil))))
def f15 : FnI := ⟨"_law_arcs", 2, 5, [0, 0], b15⟩
def n16 : List Str := ["_law_hall_here", "_law_left", "_law_turn", "_law_led", "_law_name", "_law_arc", "_law_end", "_law_growth"]
def b16 : Sm := .seq (.asg 1 (.call 14 (.cons (.slot 0) (.nil)))) (.seq (.frz 1) (.seq (.for_ (.nm 2) (.rng (.fn .len (.cons (.slot 1) (.nil)))) (.seq (.asg 3 (.lst 0 (.nil))) (.seq (.for_ (.nm 4) (.itv (.slot 1)) (.seq (.extend 3 (.lc 0 (.slot 6) (.tup (.cons (.nm 5) (.cons (.nm 6) (.cons (.nm 7) (.nil))))) (.itv (.call 15 (.cons (.slot 0) (.cons (.slot 4) (.nil))))) (.cons (.cmp .eq (.slot 7) (.int 0)) (.nil)) [5, 6, 7])) (.nil))) (.seq (.asg 1 (.lc 0 (.slot 4) (.nm 4) (.itv (.slot 1)) (.cons (.cmpS .inn (.slot 4) 3) (.nil)) [4])) (.seq (.frz 1) (.nil)))))) (.seq (.ret (.cmp .eq (.slot 1) (.lst 0 (.nil)))) (.nil))))
def f16 : FnI := ⟨"_law_is_live", 1, 8, [0], b16⟩
def n17 : List Str := ["_law_bag_here", "_law_most", "_law_many", "_law_turn"]
def b17 : Sm := .seq (.asg 2 (.call 10 (.cons (.lend 0) (.cons (.lst 0 (.cons (.int 1) (.cons (.int 0) (.cons (.int 1) (.cons (.int 1) (.cons (.int 2) (.nil))))))) (.nil))))) (.seq (.frz 2) (.seq (.ret (.fn .tuple (.cons (.lc 0 (.tup (.cons (.bin .add (.int 1) (.call 9 (.cons (.lend 0) (.cons (.slot 1) (.nil))))) (.cons (.call 10 (.cons (.lend 0) (.cons (.lst 0 (.cons (.int 0) (.cons (.int 0) (.cons (.int 1) (.cons (.int 2) (.cons (.int 1) (.nil))))))) (.nil)))) (.nil)))) (.nm 3) (.rng (.slot 2)) (.nil) [3]) (.nil)))) (.nil)))
def f17 : FnI := ⟨"_law_purses", 2, 4, [2, 0], b17⟩
def n18 : List Str := ["_law_bag_here", "_law_room"]
def b18 : Sm := .seq (.ret (.call 10 (.cons (.lend 0) (.cons (.lst 0 (.cons (.slot 1) (.cons (.slot 1) (.cons (.int 0) (.cons (.call 9 (.cons (.lend 0) (.cons (.bin .add (.slot 1) (.int 1)) (.nil)))) (.nil)))))) (.nil))))) (.nil)
def f18 : FnI := ⟨"_law_first", 2, 2, [2, 0], b18⟩
def n19 : List Str := ["_law_bag_here", "_law_machines", "_law_most", "_law_names_here", "_law_name", "_law_turn", "_law_filler", "_law_pace", "_law_found", "_law_belts", "_law_joined", "_law_time", "_law_first_here", "_law_room", "_law_other", "_law_start", "_law_end"]
def b19 : Sm := .seq (.asg 3 (.slc (.call 11 (.cons (.lend 0) (.cons (.lst 0 (.cons (.str "cap") (.cons (.str "box") (.cons (.str "wash") (.cons (.str "sort") (.cons (.str "lab") (.cons (.str "a") (.cons (.str "tray") (.cons (.str "z") (.nil)))))))))) (.nil)))) (.nil) (.cons (.slot 1) .nil))) (.seq (.frz 3) (.seq (.par [6, 7] (.cons (.call 10 (.cons (.lend 0) (.cons (.lst 0 (.cons (.str "fill") (.cons (.str "m") (.cons (.str "fill") (.nil))))) (.nil)))) (.cons (.bin .add (.int 2) (.call 9 (.cons (.lend 0) (.cons (.int 6) (.nil))))) (.nil)))) (.seq (.frz 6) (.seq (.frz 7) (.seq (.par [8, 9, 10] (.cons (.lst 0 (.cons (.tup (.cons (.slot 6) (.cons (.slot 7) (.cons (.tup (.nil)) (.nil))))) (.nil))) (.cons (.lst 0 (.nil)) (.cons (.lst 0 (.cons (.slot 6) (.nil))) (.nil))))) (.seq (.for_ (.nm 4) (.itv (.slot 3)) (.seq (.asg 11 (.bin .add (.int 1) (.call 9 (.cons (.lend 0) (.cons (.bin .add (.slot 7) (.fn .int (.cons (.cmp .eq (.call 9 (.cons (.lend 0) (.cons (.int 6) (.nil)))) (.int 0)) (.nil)))) (.nil)))))) (.seq (.frz 11) (.seq (.append 8 (.tup (.cons (.slot 4) (.cons (.slot 11) (.cons (.call 17 (.cons (.lend 0) (.cons (.slot 2) (.nil)))) (.nil)))))) (.seq (.par [13, 14] (.cons (.bin .add (.int 1) (.call 9 (.cons (.lend 0) (.cons (.int 4) (.nil))))) (.cons (.call 10 (.cons (.lend 0) (.cons (.bor 10) (.nil)))) (.nil)))) (.seq (.frz 13) (.seq (.frz 14) (.seq (.asg 12 (.call 18 (.cons (.lend 0) (.cons (.slot 13) (.nil))))) (.seq (.frz 12) (.seq (.append 9 (.ite (.cmp .gt (.call 9 (.cons (.lend 0) (.cons (.int 3) (.nil)))) (.int 0)) (.tup (.cons (.slot 4) (.cons (.slot 14) (.cons (.slot 13) (.cons (.slot 12) (.nil)))))) (.tup (.cons (.slot 14) (.cons (.slot 4) (.cons (.slot 13) (.cons (.slot 12) (.nil)))))))) (.seq (.append 10 (.slot 4)) (.nil)))))))))))) (.seq (.for_ (.nm 5) (.rng (.ite (.cmp .gt (.slot 1) (.int 0)) (.call 10 (.cons (.lend 0) (.cons (.lst 0 (.cons (.int 0) (.cons (.int 0) (.cons (.int 1) (.cons (.int 2) (.nil)))))) (.nil)))) (.int 0))) (.seq (.unp (.tup (.cons (.nm 15) (.cons (.nm 16) (.nil)))) (.slc (.call 11 (.cons (.lend 0) (.cons (.bor 10) (.nil)))) (.nil) (.cons (.int 2) .nil))) (.seq (.asg 13 (.bin .add (.int 1) (.call 9 (.cons (.lend 0) (.cons (.int 4) (.nil)))))) (.seq (.frz 13) (.seq (.append 9 (.tup (.cons (.slot 15) (.cons (.slot 16) (.cons (.slot 13) (.cons (.call 18 (.cons (.lend 0) (.cons (.slot 13) (.nil)))) (.nil))))))) (.nil)))))) (.seq (.ret (.tup (.cons (.fn .tuple (.cons (.fnS .sorted 8) (.nil))) (.cons (.fn .tuple (.cons (.call 11 (.cons (.lend 0) (.cons (.bor 9) (.nil)))) (.nil))) (.cons (.slot 6) (.nil)))))) (.nil)))))))))
def f19 : FnI := ⟨"_law_web", 3, 17, [2, 0, 0], b19⟩
def n20 : List Str := ["_law_bag_here", "_law_machines", "_law_most", "_law_hall_here", "_law_belts", "_law_start", "_law_end", "_law_room", "_law_first_here"]
def b20 : Sm := .seq (.asg 3 (.call 19 (.cons (.lend 0) (.cons (.slot 1) (.cons (.slot 2) (.nil)))))) (.seq (.frz 3) (.seq (.ite (.call 16 (.cons (.slot 3) (.nil))) (.seq (.ret (.slot 3)) (.nil)) (.nil)) (.seq (.asg 4 (.lst 0 (.nil))) (.seq (.for_ (.tup (.cons (.nm 5) (.cons (.nm 6) (.cons (.nm 7) (.cons (.nm 8) (.nil)))))) (.itv (.idx (.slot 3) (.int 1))) (.seq (.asg 7 (.fn .max (.cons (.int 2) (.cons (.slot 7) (.nil))))) (.seq (.frz 7) (.seq (.append 4 (.tup (.cons (.slot 5) (.cons (.slot 6) (.cons (.slot 7) (.cons (.fn .min (.cons (.bin .sub (.slot 7) (.int 1)) (.cons (.fn .max (.cons (.int 1) (.cons (.slot 8) (.nil)))) (.nil)))) (.nil))))))) (.nil))))) (.seq (.ret (.tup (.cons (.idx (.slot 3) (.int 0)) (.cons (.fnS .tuple 4) (.cons (.idx (.slot 3) (.int 2)) (.nil)))))) (.nil))))))
def f20 : FnI := ⟨"_law_hall", 3, 9, [2, 0, 0], b20⟩
def n21 : List Str := ["_law_bag_here", "_law_machines", "_law_most", "_law_names_here", "_law_pace", "_law_found", "_law_belts", "_law_start", "_law_end", "_law_room", "_law_name"]
def b21 : Sm := .seq (.asg 3 (.bin .add (.slc (.call 11 (.cons (.lend 0) (.cons (.lst 0 (.cons (.str "cap") (.cons (.str "box") (.cons (.str "wash") (.cons (.str "sort") (.cons (.str "lab") (.cons (.str "a") (.cons (.str "tray") (.nil))))))))) (.nil)))) (.nil) (.cons (.slot 1) .nil)) (.lst 0 (.cons (.str "fill") (.nil))))) (.seq (.frz 3) (.seq (.asg 4 (.bin .add (.int 3) (.call 9 (.cons (.lend 0) (.cons (.int 7) (.nil)))))) (.seq (.frz 4) (.seq (.asg 5 (.bin .add (.lc 0 (.tup (.cons (.slot 10) (.cons (.bin .add (.int 1) (.call 9 (.cons (.lend 0) (.cons (.slot 4) (.nil))))) (.cons (.call 17 (.cons (.lend 0) (.cons (.slot 2) (.nil)))) (.nil))))) (.nm 10) (.itv (.slc (.slot 3) (.nil) (.cons (.neg (.int 1)) .nil))) (.nil) [10]) (.lst 0 (.cons (.tup (.cons (.str "fill") (.cons (.slot 4) (.cons (.tup (.nil)) (.nil))))) (.nil))))) (.seq (.frz 5) (.seq (.asg 6 (.lst 0 (.nil))) (.seq (.for_ (.tup (.cons (.nm 7) (.cons (.nm 8) (.nil)))) (.zp (.slot 3) (.slc (.slot 3) (.cons (.int 1) .nil) (.nil))) (.seq (.asg 9 (.bin .add (.int 1) (.call 9 (.cons (.lend 0) (.cons (.int 5) (.nil)))))) (.seq (.frz 9) (.seq (.append 6 (.tup (.cons (.slot 7) (.cons (.slot 8) (.cons (.slot 9) (.cons (.slot 9) (.nil))))))) (.nil))))) (.seq (.ret (.tup (.cons (.fn .tuple (.cons (.fn .sorted (.cons (.slot 5) (.nil))) (.nil))) (.cons (.fn .tuple (.cons (.call 11 (.cons (.lend 0) (.cons (.bor 6) (.nil)))) (.nil))) (.cons (.str "fill") (.nil)))))) (.nil)))))))))
def f21 : FnI := ⟨"_law_line", 3, 11, [2, 0, 0], b21⟩
def n22 : List Str := ["_law_bag_here", "_law_machines", "_law_most", "_law_name", "_law_names_here", "_law_pace", "_law_found", "_law_belts", "_law_joined", "_law_room"]
def b22 : Sm := .seq (.par [4, 5] (.cons (.slc (.call 11 (.cons (.lend 0) (.cons (.lst 0 (.cons (.str "cap") (.cons (.str "box") (.cons (.str "wash") (.cons (.str "sort") (.cons (.str "lab") (.cons (.str "a") (.cons (.str "tray") (.nil))))))))) (.nil)))) (.nil) (.cons (.slot 1) .nil)) (.cons (.bin .add (.int 3) (.call 9 (.cons (.lend 0) (.cons (.int 7) (.nil))))) (.nil)))) (.seq (.frz 4) (.seq (.frz 5) (.seq (.par [6, 7, 8] (.cons (.lst 0 (.cons (.tup (.cons (.str "fill") (.cons (.slot 5) (.cons (.tup (.nil)) (.nil))))) (.nil))) (.cons (.lst 0 (.nil)) (.cons (.lst 0 (.cons (.str "fill") (.nil))) (.nil))))) (.seq (.for_ (.nm 3) (.itv (.slot 4)) (.seq (.asg 9 (.bin .add (.int 1) (.call 9 (.cons (.lend 0) (.cons (.int 5) (.nil)))))) (.seq (.frz 9) (.seq (.append 6 (.tup (.cons (.slot 3) (.cons (.bin .add (.int 1) (.call 9 (.cons (.lend 0) (.cons (.slot 5) (.nil))))) (.cons (.call 17 (.cons (.lend 0) (.cons (.slot 2) (.nil)))) (.nil)))))) (.seq (.append 7 (.tup (.cons (.slot 3) (.cons (.call 10 (.cons (.lend 0) (.cons (.bor 8) (.nil)))) (.cons (.slot 9) (.cons (.slot 9) (.nil))))))) (.seq (.append 8 (.slot 3)) (.nil))))))) (.seq (.ret (.tup (.cons (.fn .tuple (.cons (.fnS .sorted 6) (.nil))) (.cons (.fn .tuple (.cons (.call 11 (.cons (.lend 0) (.cons (.bor 7) (.nil)))) (.nil))) (.cons (.str "fill") (.nil)))))) (.nil))))))
def f22 : FnI := ⟨"_law_tree", 3, 10, [2, 0, 0], b22⟩
def n23 : List Str := ["_law_hall_here", "_law_name", "_law_time", "_law_purses_here", "_law_size", "_law_back"]
def b23 : Sm := .seq (.ret (.fn .tuple (.cons (.lc 0 (.fn .tuple (.cons (.lc 0 (.slot 4) (.tup (.cons (.nm 4) (.cons (.nm 5) (.nil)))) (.itv (.slot 3)) (.nil) [4, 5]) (.nil))) (.tup (.cons (.nm 1) (.cons (.nm 2) (.cons (.nm 3) (.nil))))) (.itv (.idx (.slot 0) (.int 0))) (.nil) [1, 2, 3]) (.nil)))) (.nil)
def f23 : FnI := ⟨"_law_full", 1, 6, [0], b23⟩
def n24 : List Str := ["_law_hall_here", "_law_state", "_law_arc", "_law_name", "_law_contents", "_law_end", "_law_growth", "_law_ticks", "_law_found", "_law_row", "_law_other", "_law_time", "_law_purses_here", "_law_one", "_law_held", "_law_size", "_law_back"]
def b24 : Sm := .seq (.unp (.tup (.cons (.nm 3) (.cons (.nm 4) (.nil)))) (.slot 1)) (.seq (.unp (.tup (.cons (.nm 5) (.cons (.nm 6) (.nil)))) (.idx (.lc 0 (.tup (.cons (.slot 5) (.cons (.slot 6) (.nil)))) (.tup (.cons (.nm 13) (.cons (.nm 5) (.cons (.nm 6) (.nil))))) (.itv (.call 15 (.cons (.slot 0) (.cons (.slot 3) (.nil))))) (.cons (.cmp .eq (.slot 13) (.slot 2)) (.nil)) [13, 5, 6]) (.int 0))) (.seq (.par [7, 8] (.cons (.int 0) (.cons (.lst 0 (.nil)) (.nil)))) (.seq (.frz 7) (.seq (.for_ (.tup (.cons (.tup (.cons (.nm 10) (.cons (.nm 11) (.cons (.nm 12) (.nil))))) (.cons (.nm 9) (.nil)))) (.zp (.idx (.slot 0) (.int 0)) (.slot 4)) (.seq (.ite (.and (.cmp .eq (.slot 10) (.slot 3)) (.cmp .ne (.idx (.slot 2) (.int 0)) (.str "up"))) (.seq (.par [7, 9] (.cons (.bin .add (.slot 11) (.fn .sum (.cons (.slot 9) (.nil)))) (.cons (.bin .mul (.tup (.cons (.int 0) (.nil))) (.fn .len (.cons (.slot 9) (.nil)))) (.nil)))) (.seq (.frz 7) (.seq (.frz 9) (.nil)))) (.nil)) (.seq (.append 8 (.fn .tuple (.cons (.lc 0 (.fn .min (.cons (.slot 15) (.cons (.bin .add (.slot 14) (.bin .mul (.slot 16) (.slot 6))) (.nil)))) (.tup (.cons (.tup (.cons (.nm 15) (.cons (.nm 16) (.nil)))) (.cons (.nm 14) (.nil)))) (.zp (.slot 12) (.slot 9)) (.nil) [14, 15, 16]) (.nil)))) (.nil)))) (.seq (.ret (.tup (.cons (.tup (.cons (.slot 5) (.cons (.fnS .tuple 8) (.nil)))) (.cons (.slot 7) (.nil))))) (.nil))))))
def f24 : FnI := ⟨"_law_behind", 3, 17, [0, 0, 0], b24⟩
def n25 : List Str := ["_law_bag_here", "_law_some_here"]
def b25 : Sm := .seq (.asg 1 (.lst 0 (.cons (.none) (.cons (.bool true) (.cons (.bool false) (.cons (.int 0) (.cons (.int 1) (.cons (.neg (.int 1)) (.cons (.bin .pow (.int 10) (.int 39)) (.cons (.str "") (.cons (.str "fill") (.cons (.str "up") (.cons (.tup (.nil)) (.cons (.lst 0 (.nil)) (.cons (.dnil) (.cons (.tup (.cons (.int 0) (.nil))) (.cons (.tup (.cons (.str "next") (.nil))) (.cons (.tup (.cons (.str "fill") (.cons (.tup (.nil)) (.nil)))) (.cons (.tup (.cons (.int 1) (.cons (.int 0) (.nil)))) (.nil)))))))))))))))))))) (.seq (.frz 1) (.seq (.ret (.call 10 (.cons (.lend 0) (.cons (.bin .add (.slot 1) (.lst 0 (.cons (.lst 0 (.cons (.str "fill") (.cons (.tup (.nil)) (.nil)))) (.cons (.tup (.cons (.str "up") (.cons (.int 0) (.nil)))) (.cons (.dsp (.str "fill") (.tup (.cons (.int 0) (.nil)))) (.cons (.dsp (.int 0) (.int 1)) (.cons (.str "a\n") (.cons (.tup (.cons (.tup (.cons (.str "next") (.cons (.str "fill") (.nil)))) (.nil))) (.nil))))))))) (.nil))))) (.nil)))
def f25 : FnI := ⟨"_law_odd", 1, 2, [2], b25⟩
def n26 : List Str := ["_law_bag_here", "_law_thing", "_law_deep", "_law_items", "_law_near", "_law_menu", "_law_way", "_law_at", "_law_some_here", "_law_key", "_law_value"]
def b26 : Sm := .seq (.ite (.or (.cmp .eq (.slot 2) (.int 0)) (.cmp .eq (.call 9 (.cons (.lend 0) (.cons (.int 9) (.nil)))) (.int 0))) (.seq (.ret (.call 25 (.cons (.lend 0) (.nil)))) (.nil)) (.nil)) (.seq (.ite (.call 13 (.cons (.slot 1) (.nil))) (.seq (.ret (.call 10 (.cons (.lend 0) (.cons (.lst 0 (.cons (.bin .add (.slot 1) (.int 1)) (.cons (.bin .sub (.slot 1) (.int 1)) (.cons (.int 0) (.cons (.neg (.slot 1)) (.cons (.cmp .eq (.slot 1) (.int 1)) (.cons (.none) (.cons (.bin .mul (.int 2) (.slot 1)) (.cons (.fn .str (.cons (.slot 1) (.nil))) (.nil)))))))))) (.nil))))) (.nil)) (.nil)) (.seq (.ite (.and (.isT [.dict] (.slot 1)) (.cmp .ne (.slot 1) (.dnil))) (.seq (.dead) (.seq (.unp (.tup (.cons (.nm 9) (.cons (.nm 10) (.nil)))) (.idx (.slot 3) (.int 0))) (.seq (.asg 4 (.bin .add (.slc (.slot 3) (.cons (.int 1) .nil) (.nil)) (.lst 0 (.cons (.tup (.cons (.slot 9) (.cons (.call 26 (.cons (.lend 0) (.cons (.slot 10) (.cons (.bin .sub (.slot 2) (.int 1)) (.nil))))) (.nil)))) (.nil))))) (.seq (.frz 4) (.seq (.asg 5 (.lst 0 (.cons (.slc (.slot 3) (.cons (.int 1) .nil) (.nil)) (.cons (.slot 4) (.cons (.slot 4) (.nil)))))) (.seq (.frz 5) (.seq (.dead) (.nil)))))))) (.nil)) (.seq (.ite (.or (.not (.isT [.tuple] (.slot 1))) (.cmp .eq (.slot 1) (.tup (.nil)))) (.seq (.ret (.call 10 (.cons (.lend 0) (.cons (.lst 0 (.cons (.call 25 (.cons (.lend 0) (.nil))) (.cons (.ite (.isT [.str] (.slot 1)) (.bin .mul (.slot 1) (.int 2)) (.call 25 (.cons (.lend 0) (.nil)))) (.nil)))) (.nil))))) (.nil)) (.nil)) (.seq (.par [6, 7] (.cons (.call 9 (.cons (.lend 0) (.cons (.int 9) (.nil)))) (.cons (.call 9 (.cons (.lend 0) (.cons (.fn .len (.cons (.slot 1) (.nil))) (.nil)))) (.nil)))) (.seq (.frz 6) (.seq (.frz 7) (.seq (.ite (.cmp .eq (.slot 6) (.int 0)) (.seq (.asg 8 (.lst 0 (.cons (.fn .list (.cons (.slot 1) (.nil))) (.cons (.rev (.slot 1)) (.cons (.bin .add (.slc (.slot 1) (.nil) (.cons (.slot 7) .nil)) (.slc (.slot 1) (.cons (.bin .add (.slot 7) (.int 1)) .nil) (.nil))) (.cons (.bin .add (.slc (.slot 1) (.nil) (.cons (.bin .add (.slot 7) (.int 1)) .nil)) (.slc (.slot 1) (.cons (.slot 7) .nil) (.nil))) (.nil))))))) (.seq (.frz 8) (.seq (.ret (.call 10 (.cons (.lend 0) (.cons (.bin .add (.slot 8) (.lst 0 (.cons (.bin .add (.slot 1) (.tup (.cons (.none) (.nil)))) (.nil)))) (.nil))))) (.nil)))) (.nil)) (.seq (.ret (.bin .add (.bin .add (.slc (.slot 1) (.nil) (.cons (.slot 7) .nil)) (.tup (.cons (.call 26 (.cons (.lend 0) (.cons (.idx (.slot 1) (.slot 7)) (.cons (.bin .sub (.slot 2) (.int 1)) (.nil))))) (.nil)))) (.slc (.slot 1) (.cons (.bin .add (.slot 7) (.int 1)) .nil) (.nil)))) (.nil)))))))))
def f26 : FnI := ⟨"_law_bent", 3, 11, [2, 0, 0], b26⟩
def n27 : List Str := ["_law_bag_here", "_law_machines", "_law_way"]
def b27 : Sm := .seq (.asg 1 (.call 10 (.cons (.lend 0) (.cons (.lst 0 (.cons (.int 2) (.cons (.int 1) (.cons (.int 3) (.cons (.int 0) (.cons (.int 2) (.nil))))))) (.nil))))) (.seq (.frz 1) (.seq (.asg 2 (.call 9 (.cons (.lend 0) (.cons (.int 6) (.nil))))) (.seq (.frz 2) (.seq (.ite (.cmp .eq (.slot 2) (.int 0)) (.seq (.ret (.call 19 (.cons (.lend 0) (.cons (.slot 1) (.cons (.int 3) (.nil)))))) (.nil)) (.nil)) (.seq (.ite (.cmp .eq (.slot 2) (.int 1)) (.seq (.ret (.call 21 (.cons (.lend 0) (.cons (.slot 1) (.cons (.int 3) (.nil)))))) (.nil)) (.nil)) (.seq (.ite (.cmp .eq (.slot 2) (.int 2)) (.seq (.ret (.call 22 (.cons (.lend 0) (.cons (.slot 1) (.cons (.int 3) (.nil)))))) (.nil)) (.nil)) (.seq (.ret (.call 20 (.cons (.lend 0) (.cons (.slot 1) (.cons (.int 3) (.nil)))))) (.nil))))))))
def f27 : FnI := ⟨"_law_any_hall", 1, 3, [2], b27⟩
def n28 : List Str := ["_law_hall_here", "_law_thing", "_law_row", "_law_name", "_law_time", "_law_purses_here", "_law_held", "_law_size", "_law_back"]
def b28 : Sm := .seq (.ite (.or (.not (.isT [.tuple] (.slot 1))) (.or (.cmp .ne (.fn .len (.cons (.slot 1) (.nil))) (.int 2)) (.or (.not (.isT [.str] (.idx (.slot 1) (.int 0)))) (.cmp .notin (.idx (.slot 1) (.int 0)) (.call 14 (.cons (.slot 0) (.nil))))))) (.seq (.ret (.bool false)) (.nil)) (.nil)) (.seq (.ite (.or (.not (.isT [.tuple] (.idx (.slot 1) (.int 1)))) (.cmp .ne (.fn .len (.cons (.idx (.slot 1) (.int 1)) (.nil))) (.fn .len (.cons (.idx (.slot 0) (.int 0)) (.nil))))) (.seq (.ret (.bool false)) (.nil)) (.nil)) (.seq (.for_ (.tup (.cons (.tup (.cons (.nm 3) (.cons (.nm 4) (.cons (.nm 5) (.nil))))) (.cons (.nm 2) (.nil)))) (.zp (.idx (.slot 0) (.int 0)) (.idx (.slot 1) (.int 1))) (.seq (.ite (.or (.not (.isT [.tuple] (.slot 2))) (.cmp .ne (.fn .len (.cons (.slot 2) (.nil))) (.fn .len (.cons (.slot 5) (.nil))))) (.seq (.ret (.bool false)) (.nil)) (.nil)) (.seq (.ite (.cmp .ne (.lc 0 (.int 1) (.tup (.cons (.tup (.cons (.nm 7) (.cons (.nm 8) (.nil)))) (.cons (.nm 6) (.nil)))) (.zp (.slot 5) (.slot 2)) (.cons (.or (.not (.call 13 (.cons (.slot 6) (.nil)))) (.not (.chain .le .le (.int 0) (.slot 6) (.slot 7)))) (.nil)) [6, 7, 8]) (.lst 0 (.nil))) (.seq (.ret (.bool false)) (.nil)) (.nil)) (.nil)))) (.seq (.ret (.bool true)) (.nil))))
def f28 : FnI := ⟨"_law_is_state", 2, 9, [0, 0], b28⟩
def n29 : List Str := ["_law_bag_here", "_law_hall_here", "_law_rows", "_law_name", "_law_time", "_law_purses_here", "_law_size", "_law_back"]
def b29 : Sm := .seq (.asg 2 (.lst 0 (.nil))) (.seq (.for_ (.tup (.cons (.nm 3) (.cons (.nm 4) (.cons (.nm 5) (.nil))))) (.itv (.idx (.slot 1) (.int 0))) (.seq (.append 2 (.fn .tuple (.cons (.lc 0 (.call 10 (.cons (.lend 0) (.cons (.lst 0 (.cons (.slot 6) (.cons (.int 0) (.cons (.call 9 (.cons (.lend 0) (.cons (.bin .add (.slot 6) (.int 1)) (.nil)))) (.nil))))) (.nil)))) (.tup (.cons (.nm 6) (.cons (.nm 7) (.nil)))) (.itv (.slot 5)) (.nil) [6, 7]) (.nil)))) (.nil))) (.seq (.ret (.tup (.cons (.call 10 (.cons (.lend 0) (.cons (.call 14 (.cons (.slot 1) (.nil))) (.nil)))) (.cons (.fnS .tuple 2) (.nil))))) (.nil)))
def f29 : FnI := ⟨"_law_drawn_state", 2, 8, [2, 0], b29⟩
def nL : List Str := ["_law_script", "_law_bag_here", "_law_turn", "_law_hall_here", "_law_name", "_law_again", "_law_state", "_law_thing", "_law_said", "_law_arc", "_law_end", "_law_growth"]
def bL : Sm := .seq (.for_ (.nm 2) (.rng (.int 4)) (.seq (.asg 3 (.call 27 (.cons (.lend 1) (.nil)))) (.seq (.frz 3) (.seq (.for_ (.nm 4) (.itv (.call 14 (.cons (.slot 3) (.nil)))) (.seq (.ite (.not (.call 12 (.cons (.call 7 (.cons (.slot 3) (.cons (.slot 4) (.nil)))) (.cons (.tup (.cons (.slot 4) (.cons (.call 23 (.cons (.slot 3) (.nil))) (.nil)))) (.nil))))) (.seq (.ret (.bool false)) (.nil)) (.nil)) (.nil))) (.seq (.for_ (.nm 5) (.rng (.int 6)) (.seq (.asg 6 (.call 29 (.cons (.lend 1) (.cons (.slot 3) (.nil))))) (.seq (.frz 6) (.seq (.asg 7 (.ite (.cmp .lt (.slot 5) (.int 3)) (.slot 6) (.call 26 (.cons (.lend 1) (.cons (.slot 6) (.cons (.int 4) (.nil))))))) (.seq (.frz 7) (.seq (.asg 8 (.fn .repr (.cons (.lst 0 (.cons (.slot 3) (.cons (.slot 7) (.nil)))) (.nil)))) (.seq (.frz 8) (.seq (.ite (.or (.not (.call 12 (.cons (.call 6 (.cons (.slot 3) (.cons (.slot 7) (.nil)))) (.cons (.call 28 (.cons (.slot 3) (.cons (.slot 7) (.nil)))) (.nil))))) (.cmp .ne (.fn .repr (.cons (.lst 0 (.cons (.slot 3) (.cons (.slot 7) (.nil)))) (.nil))) (.slot 8))) (.seq (.ret (.bool false)) (.nil)) (.nil)) (.seq (.for_ (.tup (.cons (.nm 9) (.cons (.nm 10) (.cons (.nm 11) (.nil))))) (.itv (.call 15 (.cons (.slot 3) (.cons (.idx (.slot 6) (.int 0)) (.nil))))) (.seq (.ite (.not (.call 12 (.cons (.call 8 (.cons (.slot 3) (.cons (.slot 6) (.cons (.slot 9) (.nil))))) (.cons (.call 24 (.cons (.slot 3) (.cons (.slot 6) (.cons (.slot 9) (.nil))))) (.nil))))) (.seq (.ret (.bool false)) (.nil)) (.nil)) (.nil))) (.nil)))))))))) (.nil)))))) (.seq (.ret (.bool true)) (.nil))
def T : Tab := ⟨[], [f0, f1, f2, f3, f4, f5, f6, f7, f8, f9, f10, f11, f12, f13, f14, f15, f16, f17, f18, f19, f20, f21, f22, f23, f24, f25, f26, f27, f28, f29]⟩
def Y : Tx := ⟨T, [], ["abs", "all", "bool", "dict", "enumerate", "int", "isinstance", "len", "list", "max", "min", "range", "repr", "sorted", "str", "sum", "tuple", "zip"]⟩
theorem c0 : trSs Y n0 ⟨defScope (top 1), none⟩ b0 (defBody (top 1)) = true := by decide +kernel
theorem c1 : trSs Y n1 ⟨defScope (top 3), none⟩ b1 (defBody (top 3)) = true := by decide +kernel
theorem c2 : trSs Y n2 ⟨defScope (top 4), none⟩ b2 (defBody (top 4)) = true := by decide +kernel
theorem c3 : trSs Y n3 ⟨defScope (top 5), none⟩ b3 (defBody (top 5)) = true := by decide +kernel
theorem c4 : trSs Y n4 ⟨defScope (top 7), none⟩ b4 (defBody (top 7)) = true := by decide +kernel
theorem c5 : trSs Y n5 ⟨defScope (top 9), none⟩ b5 (defBody (top 9)) = true := by decide +kernel
theorem c6 : trSs Y n6 ⟨defScope (top 10), none⟩ b6 (defBody (top 10)) = true := by decide +kernel
theorem c7 : trSs Y n7 ⟨defScope (top 11), none⟩ b7 (defBody (top 11)) = true := by decide +kernel
theorem c8 : trSs Y n8 ⟨defScope (top 12), none⟩ b8 (defBody (top 12)) = true := by decide +kernel
theorem c9 : trSs Y n9 ⟨defScope (top 15), none⟩ b9 (defBody (top 15)) = true := by decide +kernel
theorem c10 : trSs Y n10 ⟨defScope (top 16), none⟩ b10 (defBody (top 16)) = true := by decide +kernel
theorem c11 : trSs Y n11 ⟨defScope (top 17), none⟩ b11 (defBody (top 17)) = true := by decide +kernel
theorem c12 : trSs Y n12 ⟨defScope (top 18), none⟩ b12 (defBody (top 18)) = true := by decide +kernel
theorem c13 : trSs Y n13 ⟨defScope (top 19), none⟩ b13 (defBody (top 19)) = true := by decide +kernel
theorem c14 : trSs Y n14 ⟨defScope (top 20), none⟩ b14 (defBody (top 20)) = true := by decide +kernel
theorem c15 : trSs Y n15 ⟨defScope (top 21), none⟩ b15 (defBody (top 21)) = true := by decide +kernel
theorem c16 : trSs Y n16 ⟨defScope (top 22), none⟩ b16 (defBody (top 22)) = true := by decide +kernel
theorem c17 : trSs Y n17 ⟨defScope (top 23), none⟩ b17 (defBody (top 23)) = true := by decide +kernel
theorem c18 : trSs Y n18 ⟨defScope (top 24), none⟩ b18 (defBody (top 24)) = true := by decide +kernel
theorem c19 : trSs Y n19 ⟨defScope (top 25), none⟩ b19 (defBody (top 25)) = true := by decide +kernel
theorem c20 : trSs Y n20 ⟨defScope (top 26), none⟩ b20 (defBody (top 26)) = true := by decide +kernel
theorem c21 : trSs Y n21 ⟨defScope (top 27), none⟩ b21 (defBody (top 27)) = true := by decide +kernel
theorem c22 : trSs Y n22 ⟨defScope (top 28), none⟩ b22 (defBody (top 28)) = true := by decide +kernel
theorem c23 : trSs Y n23 ⟨defScope (top 29), none⟩ b23 (defBody (top 29)) = true := by decide +kernel
theorem c24 : trSs Y n24 ⟨defScope (top 30), none⟩ b24 (defBody (top 30)) = true := by decide +kernel
theorem c25 : trSs Y n25 ⟨defScope (top 31), none⟩ b25 (defBody (top 31)) = true := by decide +kernel
theorem c26 : trSs Y n26 ⟨defScope (top 32), none⟩ b26 (defBody (top 32)) = true := by decide +kernel
theorem c27 : trSs Y n27 ⟨defScope (top 33), none⟩ b27 (defBody (top 33)) = true := by decide +kernel
theorem c28 : trSs Y n28 ⟨defScope (top 34), none⟩ b28 (defBody (top 34)) = true := by decide +kernel
theorem c29 : trSs Y n29 ⟨defScope (top 35), none⟩ b29 (defBody (top 35)) = true := by decide +kernel
theorem cB : isBag ["_law_script", "_law_cell"] ⟨defScope (top 14), none⟩ (defBody (top 14)) = true := by decide +kernel
theorem cH : isHead nL ⟨defScope (top 36), none⟩ ((defBody (top 36)).headD (.Pass ⟨0, 0, 0, 0⟩)) = true := by decide +kernel
theorem cL : trSs Y nL ⟨defScope (top 36), none⟩ bL (defBody (top 36)).tail = true := by decide +kernel
end K19
end
section
set_option Elab.async false
set_option linter.all false
set_option maxRecDepth 100000
set_option maxHeartbeats 800000
/-! K19z: the law answers True. -/
namespace K19
open PL PySem PySem.Spec L2
theorem tk : T.fns[9]? = some takeI := rfl
theorem sm : T.fns[10]? = some (someI 9) := rfl
theorem mx : T.fns[11]? = some (mixedI 9) := rfl
theorem al : T.fns[12]? = some alikeI := rfl
theorem hii : T.fns[13]? = some ii_I := rfl
theorem hna : T.fns[14]? = some na_I := rfl
theorem har : T.fns[15]? = some ar_I := rfl
theorem hlv : T.fns[16]? = some (lv_I 14 15) := rfl
theorem hpu : T.fns[17]? = some (pu_I 10 9) := rfl
theorem hfi : T.fns[18]? = some (fi_I 10 9) := rfl
theorem hwe : T.fns[19]? = some (we_I 11 10 9 17 18) := rfl
theorem hha : T.fns[20]? = some (ha_I 19 16) := rfl
theorem hli : T.fns[21]? = some (li_I 11 9 17) := rfl
theorem htr : T.fns[22]? = some (tr_I 11 9 17 10) := rfl
theorem hfu : T.fns[23]? = some fu_I := rfl
theorem hbe : T.fns[24]? = some (be_I 15) := rfl
theorem hod : T.fns[25]? = some (od_I 10) := rfl
theorem hbn : T.fns[26]? = some (bn_I 9 25 13 10 26) := rfl
theorem hah : T.fns[27]? = some (ah_I 10 9 19 21 22 20) := rfl
theorem hist : T.fns[28]? = some (ist_I 14 13) := rfl
theorem hdst : T.fns[29]? = some (dst_I 10 9 14) := rfl
theorem pna : T.fns[0]? = some pna_I := rfl
theorem pen : T.fns[1]? = some pen_I := rfl
theorem pgr : T.fns[2]? = some pgr_I := rfl
theorem pdo : T.fns[3]? = some pdo_I := rfl
theorem pii : T.fns[4]? = some pii_I := rfl
theorem psr : T.fns[5]? = some (psr_I 4) := rfl
theorem pss : T.fns[6]? = some (pss_I 0 5) := rfl
theorem pfu : T.fns[7]? = some pfu_I := rfl
theorem pbe : T.fns[8]? = some (pbe_I 2 3 1) := rfl
abbrev G : PL.Ctx := ctx T 41 noX
abbrev lE (bag : PyData) (s2 s3 s4 s5 s6 s7 s8 s9 s10 s11 : Option PL.Slot) : PL.Env := [none, some ⟨bag, 2, false, false⟩, s2, s3, s4, s5, s6, s7, s8, s9, s10, s11]
def F4 : Sm := (.for_ (.nm 4) (.itv (.call 14 (.cons (.slot 3) (.nil)))) (.seq (.ite (.not (.call 12 (.cons (.call 7 (.cons (.slot 3) (.cons (.slot 4) (.nil)))) (.cons (.tup (.cons (.slot 4) (.cons (.call 23 (.cons (.slot 3) (.nil))) (.nil)))) (.nil))))) (.seq (.ret (.bool false)) (.nil)) (.nil)) (.nil)))
def I8 : Sm := (.ite (.or (.not (.call 12 (.cons (.call 6 (.cons (.slot 3) (.cons (.slot 7) (.nil)))) (.cons (.call 28 (.cons (.slot 3) (.cons (.slot 7) (.nil)))) (.nil))))) (.cmp .ne (.fn .repr (.cons (.lst 0 (.cons (.slot 3) (.cons (.slot 7) (.nil)))) (.nil))) (.slot 8))) (.seq (.ret (.bool false)) (.nil)) (.nil))
def F9 : Sm := (.for_ (.tup (.cons (.nm 9) (.cons (.nm 10) (.cons (.nm 11) (.nil))))) (.itv (.call 15 (.cons (.slot 3) (.cons (.idx (.slot 6) (.int 0)) (.nil))))) (.seq (.ite (.not (.call 12 (.cons (.call 8 (.cons (.slot 3) (.cons (.slot 6) (.cons (.slot 9) (.nil))))) (.cons (.call 24 (.cons (.slot 3) (.cons (.slot 6) (.cons (.slot 9) (.nil))))) (.nil))))) (.seq (.ret (.bool false)) (.nil)) (.nil)) (.nil)))
def A7 : Sm := (.asg 7 (.ite (.cmp .lt (.slot 5) (.int 3)) (.slot 6) (.call 26 (.cons (.lend 1) (.cons (.slot 6) (.cons (.int 4) (.nil)))))))
def B5 : Sm := (.seq (.asg 6 (.call 29 (.cons (.lend 1) (.cons (.slot 3) (.nil))))) (.seq (.frz 6) (.seq A7 (.seq (.frz 7) (.seq (.asg 8 (.fn .repr (.cons (.lst 0 (.cons (.slot 3) (.cons (.slot 7) (.nil)))) (.nil)))) (.seq (.frz 8) (.seq I8 (.seq F9 (.nil)))))))))
theorem bL_eq : bL = .seq (.for_ (.nm 2) (.rng (.int 4)) (.seq (.asg 3 (.call 27 (.cons (.lend 1) (.nil)))) (.seq (.frz 3) (.seq F4 (.seq (.for_ (.nm 5) (.rng (.int 6)) B5) .nil))))) (.seq (.ret (.bool true)) .nil) := rfl
section
variable {B : Nat} {bag : PyData} {R : Sm} {D : KS} {h : Hall} {n : Str} {rows : List (List Int)} {d : PyData} {s2 s3 s4 s5 s6 s7 s8 s9 s10 s11 : Option PL.Slot}
theorem pv_repr {a : PL.E} {ρ : PL.Env} {m : Nat} (ha : Pn G a ρ d m) (hs : d.showable = true ∧ d.shown.length ≤ sizeLine ∧ d.depth ≤ dLow) : Pv G (.fn .repr (.cons a .nil)) ρ (.str d.shown) := pv_fn1 ha fun kd q => ⟨hs, q⟩
theorem full_judged (M : Made 3 h) (f4 : Fr1 s4) (q : ∀ s4, Fr1 s4 → wpS G R (lE bag s2 (sl (hD h)) s4 s5 s6 s7 s8 s9 s10 s11) D) : wpS G (.seq F4 R) (lE bag s2 (sl (hD h)) s4 s5 s6 s7 s8 s9 s10 s11) D := by
  unfold F4
  have N := M.num
  refine w_seq (w_forL (n := 1) (items := (h.ms.map Mc.nm).map .str) (pn_call1 (k := 41) (pv_slot (x := hD h) rfl) (by rw [sig_of hna]; rfl) fun Q q => names_law (k := 40) hna N.few q) (.inl rfl) (fun i ρ => ∃ s4, ρ = lE bag s2 (sl (hD h)) s4 s5 s6 s7 s8 s9 s10 s11 ∧ Fr1 s4) ⟨s4, rfl, f4⟩ ?_ ?_)
  · rintro i x ρ K hx ⟨s4, rfl, f4⟩ fin
    rw [List.getElem?_map] at hx
    obtain ⟨m, hm, rfl⟩ := Option.map_eq_some_iff.mp hx
    have hm := List.mem_of_getElem? hm
    obtain ⟨mm, hmm, rfl⟩ := List.mem_map.mp hm
    refine ⟨fr1_free f4 rfl, ?_⟩
    show wpS G _ (lE bag s2 (sl (hD h)) (sl (.str mm.nm)) s5 s6 s7 s8 s9 s10 s11) _
    have p1 : Pv G (.call 7 (.cons (.slot 3) (.cons (.slot 4) (.nil)))) (lE bag s2 (sl (hD h)) (sl (.str mm.nm)) s5 s6 s7 s8 s9 s10 s11) (stD mm.nm (fullR h)) := pv_call2 (k := 41) (pv_slot (x := hD h) rfl) (pv_slot (x := .str mm.nm) rfl) (by rw [sig_of pfu]; rfl) fun Q q => full_prog (k := 40) pfu N q
    have p2 : Pv G (.tup (.cons (.slot 4) (.cons (.call 23 (.cons (.slot 3) (.nil))) (.nil)))) (lE bag s2 (sl (hD h)) (sl (.str mm.nm)) s5 s6 s7 s8 s9 s10 s11) (stD mm.nm (fullR h)) :=
      pv_tupP (pvl_cons (pv_slot rfl) (pvl_cons (pv_call1 (k := 41) (pv_slot (x := hD h) rfl) (by rw [sig_of hfu]; rfl) fun Q q => full_law (k := 40) hfu N q) pvl_nil)) (show 2 ≤ sizeLine by decide)
    have p3 := pv_not (pv_alike (k := 40) al p1.pn p2.pn ((full_sh M (by decide) (M.nm mm hmm)).shows (by decide) (by decide)))
    refine w_seq (w_ite (t := !true) p3 (fun z => by cases z) (fun _ => w_nil (G := G) (w_nil (G := G) ?_)))
    exact fin _ ⟨sl (.str mm.nm), rfl, .inr ⟨_, rfl⟩⟩
  · rintro ρ ⟨s4, rfl, f4⟩
    exact q s4 f4
theorem behind_judged (M : Made 3 h) (d : Drawn h rows) (hn : n ∈ h.ms.map Mc.nm) (f9 : Fr1 s9) (f10 : Fr1 s10) (f11 : Fr1 s11) (q : ∀ s9 s10 s11, Fr1 s9 → Fr1 s10 → Fr1 s11 → wpS G R (lE bag s2 (sl (hD h)) s4 s5 (sl (stD n rows)) s7 s8 s9 s10 s11) D) : wpS G (.seq F9 R) (lE bag s2 (sl (hD h)) s4 s5 (sl (stD n rows)) s7 s8 s9 s10 s11) D := by
  unfold F9
  have N := M.num
  have nn : n ∈ NM := by
    obtain ⟨m, hm, rfl⟩ := List.mem_map.mp hn
    exact M.nm m hm
  refine w_seq (w_forL (n := 1) (items := (arcs h n).map rowD) (pn_call2 (k := 41) (pv_slot (x := hD h) rfl) (pv_idxT (pv_slot (x := stD n rows) rfl) pv_int at0) (by rw [sig_of har]; rfl) fun Q q => arcs_law (k := 40) har N.few q) (.inl rfl) (fun i ρ => ∃ s9 s10 s11, ρ = lE bag s2 (sl (hD h)) s4 s5 (sl (stD n rows)) s7 s8 s9 s10 s11 ∧ Fr1 s9 ∧ Fr1 s10 ∧ Fr1 s11) ⟨s9, s10, s11, rfl, f9, f10, f11⟩ ?_ ?_)
  · rintro i x ρ K hx ⟨s9, s10, s11, rfl, f9, f10, f11⟩ fin
    rw [List.getElem?_map] at hx
    obtain ⟨r, hr, rfl⟩ := Option.map_eq_some_iff.mp hx
    have hr := List.mem_of_getElem? hr
    obtain ⟨ok, _, _⟩ := arcs_row hr
    have g := growth_le M ok
    refine ⟨fr1_free (i := 9) f9 rfl, fr1_free (i := 10) f10 rfl, fr1_free (i := 11) f11 rfl, ?_⟩
    show wpS G _ (lE bag s2 (sl (hD h)) s4 s5 (sl (stD n rows)) s7 s8 (sl (aD r.1)) (sl (.str r.2.1)) (sl (.int r.2.2))) _
    have p1 : Pv G (.call 8 (.cons (.slot 3) (.cons (.slot 6) (.cons (.slot 9) (.nil))))) (lE bag s2 (sl (hD h)) s4 s5 (sl (stD n rows)) s7 s8 (sl (aD r.1)) (sl (.str r.2.1)) (sl (.int r.2.2))) (bhD h n rows r.1) :=
      pv_call3 (k := 41) (pv_slot (x := hD h) rfl).pn (pv_slot (x := stD n rows) rfl).pn (pv_slot (x := aD r.1) rfl).pn (by rw [sig_of pbe]; rfl) fun Q q => behind_prog (k := 39) pbe pgr pdo pen N d.rows ok (by omega) q
    have p2 : Pv G (.call 24 (.cons (.slot 3) (.cons (.slot 6) (.cons (.slot 9) (.nil))))) (lE bag s2 (sl (hD h)) s4 s5 (sl (stD n rows)) s7 s8 (sl (aD r.1)) (sl (.str r.2.1)) (sl (.int r.2.2))) (bhD h n rows r.1) :=
      pv_call3 (k := 41) (pv_slot (x := hD h) rfl).pn (pv_slot (x := stD n rows) rfl).pn (pv_slot (x := aD r.1) rfl).pn (by rw [sig_of hbe]; rfl) fun Q q => behind_law (k := 39) hbe har N d.rows ⟨r, hr, rfl⟩ (by omega) q
    have p3 := pv_not (pv_alike (k := 40) al p1.pn p2.pn ((bhD_sh M (by decide) d nn hr).shows (by decide) (by decide)))
    refine w_seq (w_ite (t := !true) p3 (fun z => by cases z) (fun _ => w_nil (G := G) (w_nil (G := G) ?_)))
    exact fin _ ⟨sl (aD r.1), sl (.str r.2.1), sl (.int r.2.2), rfl, .inr ⟨_, rfl⟩, .inr ⟨_, rfl⟩, .inr ⟨_, rfl⟩⟩
  · rintro ρ ⟨s9, s10, s11, rfl, f9, f10, f11⟩
    exact q s9 s10 s11 f9 f10 f11
theorem state_judged (M : Made 3 h) (sh : d.showable = true) (lv : Sd 10 40000 d) (q : wpS G R (lE bag s2 (sl (hD h)) s4 s5 s6 (sl d) (sl (.str (PyData.list [hD h, d]).shown)) s9 s10 s11) D) : wpS G (.seq I8 R) (lE bag s2 (sl (hD h)) s4 s5 s6 (sl d) (sl (.str (PyData.list [hD h, d]).shown)) s9 s10 s11) D := by
  unfold I8
  have N := M.num
  have rp := sd_repr (sd_list (sd_cons ((hall_sh M (by decide)).sd.mono (show 5 ≤ 10 by decide) (Nat.le_refl _)) (sd_cons lv (sd_nil (w := 0))))) (by decide) (by decide)
  have p1 : Pv G (.call 6 (.cons (.slot 3) (.cons (.slot 7) (.nil)))) (lE bag s2 (sl (hD h)) s4 s5 s6 (sl d) (sl (.str (PyData.list [hD h, d]).shown)) s9 s10 s11) (.bool (stOk h d)) := pv_call2 (k := 41) (pv_slot (x := hD h) rfl) (pv_slot (x := d) rfl) (by rw [sig_of pss]; rfl) fun Q q => state_prog (k := 38) pss pna psr pii N q
  have p2 : Pv G (.call 28 (.cons (.slot 3) (.cons (.slot 7) (.nil)))) (lE bag s2 (sl (hD h)) s4 s5 s6 (sl d) (sl (.str (PyData.list [hD h, d]).shown)) s9 s10 s11) (.bool (stOk h d)) := pv_call2 (k := 41) (pv_slot (x := hD h) rfl) (pv_slot (x := d) rfl) (by rw [sig_of hist]; rfl) fun Q q => state_law (k := 39) hist hna hii N q
  have p3 := pv_not (pv_alike (k := 40) al p1.pn p2.pn ((sh_bool (k := 0) (w := 0)).shows (by decide) (by decide)))
  have p4 : Pv G (.fn .repr (.cons (.lst 0 (.cons (.slot 3) (.cons (.slot 7) (.nil)))) (.nil))) (lE bag s2 (sl (hD h)) s4 s5 s6 (sl d) (sl (.str (PyData.list [hD h, d]).shown)) s9 s10 s11) (.str (PyData.list [hD h, d]).shown) := pv_repr (pn_lstP (pvl_cons (pv_slot rfl) (pvl_cons (pv_slot rfl) pvl_nil)) (show 2 ≤ sizeLine by decide)) rp
  have p5 := pv_neS p4 (pv_slot (i := 8) rfl)
  rw [decide_eq_true rfl] at p5
  exact w_seq (w_ite (t := !true || !true) (pv_or p3 fun _ => p5) (fun z => by cases z) (fun _ => w_nil (G := G) q))
/-- one turn of the states -/
theorem turn5 {i : Nat} {K : PL.Env → Prop} (M : Made 3 h) (ne : h.ms ≠ []) (hD' : D.nx = K) (hb : Bag B bag) (hB : B + 5000 < 2 ^ 200) (f6 : Fr1 s6) (f7 : Fr1 s7) (f8 : Fr1 s8) (f9 : Fr1 s9) (f10 : Fr1 s10) (f11 : Fr1 s11)
    (q : ∀ bag' s6 s7 s8 s9 s10 s11, Fr1 s6 → Fr1 s7 → Fr1 s8 → Fr1 s9 → Fr1 s10 → Fr1 s11 → Bag (B + 200) bag' → K (lE bag' s2 (sl (hD h)) s4 (sl (.int i)) s6 s7 s8 s9 s10 s11)) : wpS G B5 (lE bag s2 (sl (hD h)) s4 (sl (.int i)) s6 s7 s8 s9 s10 s11) D := by
  unfold B5
  have N := M.num
  have few := M.few
  refine w_seq (w_asgE (w_lend1 (k := 41) (by rw [sig_of hdst]; rfl) rfl (pv_slot (x := hD h) rfl).pn fun Q2 hQ => state_drawn (k := 38) hdst hna tk sm M (by decide) ne hb (by omega) fun n rows bag1 hn dr hb1 => hQ _ _ _ ⟨fr1_free f6 rfl, ?_⟩))
  have nn : n ∈ NM := by
    obtain ⟨m, hm, rfl⟩ := List.mem_map.mp hn
    exact M.nm m hm
  have stsh : Sh 3 1532 (stD n rows) := st_sh nn (by rw [dr.len]; exact few) fun r hr => ⟨(dr.row r hr).1, fun v hv => by have := (dr.row r hr).2 v hv; omega⟩
  refine w_seq (w_frz (G := G) rfl rfl ?_)
  show wpS G _ (lE bag1 s2 (sl (hD h)) s4 (sl (.int i)) (sl (stD n rows)) s7 s8 s9 s10 s11) _
  have rest : ∀ (d : PyData) (bag2 : PyData), Sd 10 40000 d → Bag (B + 150) bag2 → ∀ m, wpS G (.seq (.frz 7) (.seq (.asg 8 (.fn .repr (.cons (.lst 0 (.cons (.slot 3) (.cons (.slot 7) (.nil)))) (.nil)))) (.seq (.frz 8) (.seq I8 (.seq F9 (.nil)))))) (lE bag2 s2 (sl (hD h)) s4 (sl (.int i)) (sl (stD n rows)) (val d m) s8 s9 s10 s11) D := fun d bag2 lv hb2 m => by
    refine w_seq (w_frz (G := G) (n := m) (d := d) rfl rfl ?_)
    show wpS G _ (lE bag2 s2 (sl (hD h)) s4 (sl (.int i)) (sl (stD n rows)) (sl d) s8 s9 s10 s11) _
    have rp := sd_repr (sd_list (sd_cons ((hall_sh M (by decide)).sd.mono (show 5 ≤ 10 by decide) (Nat.le_refl _)) (sd_cons lv (sd_nil (w := 0))))) (by decide) (by decide)
    refine w_seq (w_asg (pv_repr (pn_lstP (pvl_cons (pv_slot (x := hD h) rfl) (pvl_cons (pv_slot (x := d) rfl) pvl_nil)) (show 2 ≤ sizeLine by decide)) rp).pn ⟨fr1_free f8 rfl, ?_⟩)
    refine w_seq (w_frz (G := G) rfl rfl ?_)
    show wpS G _ (lE bag2 s2 (sl (hD h)) s4 (sl (.int i)) (sl (stD n rows)) (sl d) (sl (.str (PyData.list [hD h, d]).shown)) s9 s10 s11) _
    refine state_judged M lv.show_ lv ?_
    refine behind_judged M dr hn f9 f10 f11 fun s9 s10 s11 f9 f10 f11 => ?_
    refine w_nil (G := G) ?_
    rw [hD']
    exact q bag2 (sl (stD n rows)) (sl d) (sl (.str (PyData.list [hD h, d]).shown)) s9 s10 s11 (.inr ⟨_, rfl⟩) (.inr ⟨_, rfl⟩) (.inr ⟨_, rfl⟩) f9 f10 f11 (hb2.mono (by omega))
  unfold A7
  refine w_seq (w_asgE (w_iteE2 (w_cmpE (pv_slot (x := .int i) rfl _ (pv_int _ ?_)))))
  show (match PyData.bool (decide ((i : Int) < 3)) with | .bool true => _ | .bool false => _ | _ => False)
  cases decide ((i : Int) < 3) with
  | true =>
    refine pv_slot (x := stD n rows) rfl _ ⟨fr1_free f7 rfl, ?_⟩
    exact rest (stD n rows) bag1 (stsh.sd.mono (by decide) (by decide)) (hb1.mono (by omega)) 0
  | false =>
    refine w_lend2 (k := 41) (n2 := 0) (x := stD n rows) (y := .int (4 : Int)) (by rw [sig_of hbn]; rfl) rfl (pv_slot rfl).pn pv_int.pn fun Q2 hQ => ?_
    refine bent_ok (w := 1532) hbn hod hii tk sm 4 33 3 (B + 100) bag1 (stD n rows) Q2 hb1 (by omega) (drawn_tn dr nn few) stsh.sd fun d bag2 sd hb2 => hQ _ _ _ ⟨fr1_free f7 rfl, ?_⟩
    exact rest d bag2 (sd.mono (by decide) (by decide)) (hb2.mono (by omega)) 0
end
theorem made_ne {h : Hall} (M : Made 3 h) : h.ms ≠ [] := fun e => by
  obtain ⟨vs, es, _, h0, _, _, _, p, _⟩ := M.grown
  rw [e] at p
  have := p.length_eq
  have l := (List.getElem?_eq_some_iff.mp h0).1
  simp at this
  rw [this] at l
  simp at l
theorem law_true (ns : List Int) (h : ns.length ≤ 63) : wpS (ctx T 41 noX) bL (lawEnv nL.length ns) lawEnds := by
  rw [bL_eq]
  have b0 : Bag 0 (bagD ns) := by
    refine ⟨0, 1234567891, 0, (ns.take 63).map fun i => if i < 0 then -i else i, ?_, by decide, by decide, by decide, by decide, by decide, ?_, ?_⟩
    · unfold bagD bagCells
      rw [List.map_map]; rfl
    · rw [List.length_map, List.length_take]; omega
    · intro c hc
      obtain ⟨i, _, rfl⟩ := List.mem_map.mp hc
      show 0 ≤ if i < 0 then -i else i
      split <;> omega
  show wpS (ctx T 41 noX) _ (lE (bagD ns) none none none none none none none none none none) _
  refine w_seq (w_forR (pv_int _ ⟨⟨by decide, by decide⟩, ?_⟩))
  refine fold_rng (D := { lawEnds with nx := fun ρ1 => wpS (ctx T 41 noX) (.seq (.ret (.bool true)) .nil) ρ1 lawEnds }) (fun i ρ => ∃ bag s2 s3 s4 s5 s6 s7 s8 s9 s10 s11, ρ = lE bag s2 s3 s4 s5 s6 s7 s8 s9 s10 s11 ∧ (Fr1 s2 ∧ Fr1 s3 ∧ Fr1 s4 ∧ Fr1 s5 ∧ Fr1 s6 ∧ Fr1 s7 ∧ Fr1 s8 ∧ Fr1 s9 ∧ Fr1 s10 ∧ Fr1 s11) ∧ Bag (10000 * i) bag) ⟨bagD ns, _, _, _, _, _, _, _, _, _, _, rfl, ⟨.inl rfl, .inl rfl, .inl rfl, .inl rfl, .inl rfl, .inl rfl, .inl rfl, .inl rfl, .inl rfl, .inl rfl⟩, b0⟩ ?_ ?_
  · rintro i x ρ K hi rfl ⟨bag, s2, s3, s4, s5, s6, s7, s8, s9, s10, s11, rfl, ⟨f2, f3, f4, f5, f6, f7, f8, f9, f10, f11⟩, hb⟩ fin
    refine ⟨fr1_free f2 rfl, ?_⟩
    show wpS (ctx T 41 noX) _ (lE bag (sl (.int i)) s3 s4 s5 s6 s7 s8 s9 s10 s11) _
    refine w_seq (w_asgE (w_lend0 (k := 41) rfl rfl fun Q2 hQ => any_hall (k := 35) hah hha hlv hna har hwe hli htr tk sm mx hfi hpu hb (by omega) fun h bag1 M hb1 => hQ _ _ _ ⟨fr1_free f3 rfl, ?_⟩))
    refine w_seq (w_frz (G := G) rfl rfl ?_)
    show wpS (ctx T 41 noX) _ (lE bag1 (sl (.int i)) (sl (hD h)) s4 s5 s6 s7 s8 s9 s10 s11) _
    refine full_judged M f4 fun s4 f4 => ?_
    refine w_seq (w_forR (pv_int _ ⟨⟨by decide, by decide⟩, ?_⟩))
    refine fold_rng (D := { nx := fun ρ1 => K ρ1, rt := lawEnds.rt, bk := fun _ => True, ct := fun _ => True }) (fun j ρ => ∃ bag s5 s6 s7 s8 s9 s10 s11, ρ = lE bag (sl (.int i)) (sl (hD h)) s4 s5 s6 s7 s8 s9 s10 s11 ∧ (Fr1 s5 ∧ Fr1 s6 ∧ Fr1 s7 ∧ Fr1 s8 ∧ Fr1 s9 ∧ Fr1 s10 ∧ Fr1 s11) ∧ Bag (10000 * i + 300 + 200 * j) bag) ⟨bag1, _, _, _, _, _, _, _, rfl, ⟨f5, f6, f7, f8, f9, f10, f11⟩, hb1⟩ ?_ ?_
    · rintro j x ρ K2 hj rfl ⟨bag, s5, s6, s7, s8, s9, s10, s11, rfl, ⟨f5, f6, f7, f8, f9, f10, f11⟩, hb⟩ fin2
      refine ⟨fr1_free f5 rfl, ?_⟩
      show wpS (ctx T 41 noX) B5 (lE bag (sl (.int i)) (sl (hD h)) s4 (sl (.int j)) s6 s7 s8 s9 s10 s11) _
      refine turn5 (K := K2) M (made_ne M) rfl hb (by omega) f6 f7 f8 f9 f10 f11 fun bag' s6 s7 s8 s9 s10 s11 f6 f7 f8 f9 f10 f11 hb' => ?_
      exact fin2 _ ⟨bag', sl (.int j), s6, s7, s8, s9, s10, s11, rfl, ⟨.inr ⟨_, rfl⟩, f6, f7, f8, f9, f10, f11⟩, hb'.mono (by omega)⟩
    · rintro ρ ⟨bag, s5, s6, s7, s8, s9, s10, s11, rfl, ⟨f5, f6, f7, f8, f9, f10, f11⟩, hb⟩
      refine (show K _ from fin _ ⟨bag, sl (.int i), sl (hD h), s4, s5, s6, s7, s8, s9, s10, s11, rfl, ⟨.inr ⟨_, rfl⟩, .inr ⟨_, rfl⟩, f4, f5, f6, f7, f8, f9, f10, f11⟩, hb.mono (by omega)⟩)
  · rintro ρ ⟨bag, s2, s3, s4, s5, s6, s7, s8, s9, s10, s11, rfl, _, hb⟩
    exact w_seq (w_retE (pv_bool _ rfl))
end K19
end
section
set_option Elab.async false
set_option linter.all false
set_option maxRecDepth 100000
set_option maxHeartbeats 0
namespace K19
open PL PySem PySem.Spec PyProof.Rows L2
def d0 : He.DefD := ⟨("names_of", none), "names_of", "names_of", defArgs (top 1), defBody (top 1), defScope (top 1), [], []⟩
def d1 : He.DefD := ⟨("end_of", none), "end_of", "end_of", defArgs (top 3), defBody (top 3), defScope (top 3), [], []⟩
def d2 : He.DefD := ⟨("growth_of", none), "growth_of", "growth_of", defArgs (top 4), defBody (top 4), defScope (top 4), [], []⟩
def d3 : He.DefD := ⟨("does_end", none), "does_end", "does_end", defArgs (top 5), defBody (top 5), defScope (top 5), [], []⟩
def d4 : He.DefD := ⟨("is_integer", none), "is_integer", "is_integer", defArgs (top 7), defBody (top 7), defScope (top 7), [], []⟩
def d5 : He.DefD := ⟨("is_row", none), "is_row", "is_row", defArgs (top 9), defBody (top 9), defScope (top 9), [], []⟩
def d6 : He.DefD := ⟨("is_state", none), "is_state", "is_state", defArgs (top 10), defBody (top 10), defScope (top 10), [], []⟩
def d7 : He.DefD := ⟨("full_state", none), "full_state", "full_state", defArgs (top 11), defBody (top 11), defScope (top 11), [], []⟩
def d8 : He.DefD := ⟨("behind", none), "behind", "behind", defArgs (top 12), defBody (top 12), defScope (top 12), [], []⟩
def d9 : He.DefD := ⟨("_law_take", none), "_law_take", "_law_take", defArgs (top 15), defBody (top 15), defScope (top 15), [], []⟩
def d10 : He.DefD := ⟨("_law_some", none), "_law_some", "_law_some", defArgs (top 16), defBody (top 16), defScope (top 16), [], []⟩
def d11 : He.DefD := ⟨("_law_mixed", none), "_law_mixed", "_law_mixed", defArgs (top 17), defBody (top 17), defScope (top 17), [], []⟩
def d12 : He.DefD := ⟨("_law_alike", none), "_law_alike", "_law_alike", defArgs (top 18), defBody (top 18), defScope (top 18), [], []⟩
def d13 : He.DefD := ⟨("_law_is_int", none), "_law_is_int", "_law_is_int", defArgs (top 19), defBody (top 19), defScope (top 19), [], []⟩
def d14 : He.DefD := ⟨("_law_names", none), "_law_names", "_law_names", defArgs (top 20), defBody (top 20), defScope (top 20), [], []⟩
def d15 : He.DefD := ⟨("_law_arcs", none), "_law_arcs", "_law_arcs", defArgs (top 21), defBody (top 21), defScope (top 21), [], []⟩
def d16 : He.DefD := ⟨("_law_is_live", none), "_law_is_live", "_law_is_live", defArgs (top 22), defBody (top 22), defScope (top 22), [], []⟩
def d17 : He.DefD := ⟨("_law_purses", none), "_law_purses", "_law_purses", defArgs (top 23), defBody (top 23), defScope (top 23), [], []⟩
def d18 : He.DefD := ⟨("_law_first", none), "_law_first", "_law_first", defArgs (top 24), defBody (top 24), defScope (top 24), [], []⟩
def d19 : He.DefD := ⟨("_law_web", none), "_law_web", "_law_web", defArgs (top 25), defBody (top 25), defScope (top 25), [], []⟩
def d20 : He.DefD := ⟨("_law_hall", none), "_law_hall", "_law_hall", defArgs (top 26), defBody (top 26), defScope (top 26), [], []⟩
def d21 : He.DefD := ⟨("_law_line", none), "_law_line", "_law_line", defArgs (top 27), defBody (top 27), defScope (top 27), [], []⟩
def d22 : He.DefD := ⟨("_law_tree", none), "_law_tree", "_law_tree", defArgs (top 28), defBody (top 28), defScope (top 28), [], []⟩
def d23 : He.DefD := ⟨("_law_full", none), "_law_full", "_law_full", defArgs (top 29), defBody (top 29), defScope (top 29), [], []⟩
def d24 : He.DefD := ⟨("_law_behind", none), "_law_behind", "_law_behind", defArgs (top 30), defBody (top 30), defScope (top 30), [], []⟩
def d25 : He.DefD := ⟨("_law_odd", none), "_law_odd", "_law_odd", defArgs (top 31), defBody (top 31), defScope (top 31), [], []⟩
def d26 : He.DefD := ⟨("_law_bent", none), "_law_bent", "_law_bent", defArgs (top 32), defBody (top 32), defScope (top 32), [], []⟩
def d27 : He.DefD := ⟨("_law_any_hall", none), "_law_any_hall", "_law_any_hall", defArgs (top 33), defBody (top 33), defScope (top 33), [], []⟩
def d28 : He.DefD := ⟨("_law_is_state", none), "_law_is_state", "_law_is_state", defArgs (top 34), defBody (top 34), defScope (top 34), [], []⟩
def d29 : He.DefD := ⟨("_law_drawn_state", none), "_law_drawn_state", "_law_drawn_state", defArgs (top 35), defBody (top 35), defScope (top 35), [], []⟩
def dB : He.DefD := ⟨("_law_bag", none), "_law_bag", "_law_bag", defArgs (top 14), defBody (top 14), defScope (top 14), [], []⟩
def dL : He.DefD := ⟨("law", none), "law", "law", defArgs (top 36), defBody (top 36), defScope (top 36), [], []⟩
def fn : List He.DefD := [d0, d1, d2, d3, d4, d5, d6, d7, d8, d9, d10, d11, d12, d13, d14, d15, d16, d17, d18, d19, d20, d21, d22, d23, d24, d25, d26, d27, d28, d29, dB, dL]
def fa : List He.Fa := [.glo "names_of", .glo "end_of", .glo "growth_of", .glo "does_end", .glo "is_integer", .glo "is_row", .glo "is_state", .glo "full_state", .glo "behind", .glo "_law_take", .glo "_law_some", .glo "_law_mixed", .glo "_law_alike", .glo "_law_is_int", .glo "_law_names", .glo "_law_arcs", .glo "_law_is_live", .glo "_law_purses", .glo "_law_first", .glo "_law_web", .glo "_law_hall", .glo "_law_line", .glo "_law_tree", .glo "_law_full", .glo "_law_behind", .glo "_law_odd", .glo "_law_bent", .glo "_law_any_hall", .glo "_law_is_state", .glo "_law_drawn_state", .glo "_law_bag", .glo "law", .free "abs", .free "all", .free "bool", .free "dict", .free "enumerate", .free "int", .free "isinstance", .free "len", .free "list", .free "max", .free "min", .free "range", .free "repr", .free "sorted", .free "str", .free "sum", .free "tuple", .free "zip"]
abbrev hk : PySem.W.Hook := He.hookD 4 fa fn
def ob (s : PySem.W.SharedT) : He.AlD := He.obsDG 4 fa fn (HandSHeadRun.getT s)
theorem ob_eq (s : PySem.W.SharedT) : ob s = hk.obs s.abs := He.obsDG_eq (HandSHeadRun.getT_eq s)
section
variable {P : Program} {w : World} {K : Fg} {h : Heap} {mg : Str → Option Value}
theorem sc0 : FnScope n0 ["hall"] (defScope (top 1)) := ⟨rfl, rfl, rfl, by decide +kernel, rfl, by decide +kernel, by decide +kernel⟩
theorem e0 (X : K.In h) (G : h.Ns mainGlobals mg) (c : He.SaysD fa fn K) : FnDef Y K mg 0 f0 := by
  obtain ⟨fd, F⟩ := c.def_ 0 (d := d0) rfl
  have b := FunD.bindsA (ps := ["hall"]) F fun _ _ _ _ _ _ us hl => match us, hl with | [_], _ => rfl
  exact ⟨_, _, _, _, _, _, fd, n0, ["hall"], He.glo_ok X G (c.fact 0 (f := .glo "names_of") rfl), F.kp, F, sc0, b, rfl, rfl, rfl, by decide +kernel, c0⟩
theorem sc1 : FnScope n1 ["hall", "arc"] (defScope (top 3)) := ⟨rfl, rfl, rfl, by decide +kernel, rfl, by decide +kernel, by decide +kernel⟩
theorem e1 (X : K.In h) (G : h.Ns mainGlobals mg) (c : He.SaysD fa fn K) : FnDef Y K mg 1 f1 := by
  obtain ⟨fd, F⟩ := c.def_ 1 (d := d1) rfl
  have b := FunD.bindsA (ps := ["hall", "arc"]) F fun _ _ _ _ _ _ us hl => match us, hl with | [_, _], _ => rfl
  exact ⟨_, _, _, _, _, _, fd, n1, ["hall", "arc"], He.glo_ok X G (c.fact 1 (f := .glo "end_of") rfl), F.kp, F, sc1, b, rfl, rfl, rfl, by decide +kernel, c1⟩
theorem sc2 : FnScope n2 ["hall", "arc"] (defScope (top 4)) := ⟨rfl, rfl, rfl, by decide +kernel, rfl, by decide +kernel, by decide +kernel⟩
theorem e2 (X : K.In h) (G : h.Ns mainGlobals mg) (c : He.SaysD fa fn K) : FnDef Y K mg 2 f2 := by
  obtain ⟨fd, F⟩ := c.def_ 2 (d := d2) rfl
  have b := FunD.bindsA (ps := ["hall", "arc"]) F fun _ _ _ _ _ _ us hl => match us, hl with | [_, _], _ => rfl
  exact ⟨_, _, _, _, _, _, fd, n2, ["hall", "arc"], He.glo_ok X G (c.fact 2 (f := .glo "growth_of") rfl), F.kp, F, sc2, b, rfl, rfl, rfl, by decide +kernel, c2⟩
theorem sc3 : FnScope n3 ["arc"] (defScope (top 5)) := ⟨rfl, rfl, rfl, by decide +kernel, rfl, by decide +kernel, by decide +kernel⟩
theorem e3 (X : K.In h) (G : h.Ns mainGlobals mg) (c : He.SaysD fa fn K) : FnDef Y K mg 3 f3 := by
  obtain ⟨fd, F⟩ := c.def_ 3 (d := d3) rfl
  have b := FunD.bindsA (ps := ["arc"]) F fun _ _ _ _ _ _ us hl => match us, hl with | [_], _ => rfl
  exact ⟨_, _, _, _, _, _, fd, n3, ["arc"], He.glo_ok X G (c.fact 3 (f := .glo "does_end") rfl), F.kp, F, sc3, b, rfl, rfl, rfl, by decide +kernel, c3⟩
theorem sc4 : FnScope n4 ["thing"] (defScope (top 7)) := ⟨rfl, rfl, rfl, by decide +kernel, rfl, by decide +kernel, by decide +kernel⟩
theorem e4 (X : K.In h) (G : h.Ns mainGlobals mg) (c : He.SaysD fa fn K) : FnDef Y K mg 4 f4 := by
  obtain ⟨fd, F⟩ := c.def_ 4 (d := d4) rfl
  have b := FunD.bindsA (ps := ["thing"]) F fun _ _ _ _ _ _ us hl => match us, hl with | [_], _ => rfl
  exact ⟨_, _, _, _, _, _, fd, n4, ["thing"], He.glo_ok X G (c.fact 4 (f := .glo "is_integer") rfl), F.kp, F, sc4, b, rfl, rfl, rfl, by decide +kernel, c4⟩
theorem sc5 : FnScope n5 ["purses", "thing"] (defScope (top 9)) := ⟨rfl, rfl, rfl, by decide +kernel, rfl, by decide +kernel, by decide +kernel⟩
theorem e5 (X : K.In h) (G : h.Ns mainGlobals mg) (c : He.SaysD fa fn K) : FnDef Y K mg 5 f5 := by
  obtain ⟨fd, F⟩ := c.def_ 5 (d := d5) rfl
  have b := FunD.bindsA (ps := ["purses", "thing"]) F fun _ _ _ _ _ _ us hl => match us, hl with | [_, _], _ => rfl
  exact ⟨_, _, _, _, _, _, fd, n5, ["purses", "thing"], He.glo_ok X G (c.fact 5 (f := .glo "is_row") rfl), F.kp, F, sc5, b, rfl, rfl, rfl, by decide +kernel, c5⟩
theorem sc6 : FnScope n6 ["hall", "thing"] (defScope (top 10)) := ⟨rfl, rfl, rfl, by decide +kernel, rfl, by decide +kernel, by decide +kernel⟩
theorem e6 (X : K.In h) (G : h.Ns mainGlobals mg) (c : He.SaysD fa fn K) : FnDef Y K mg 6 f6 := by
  obtain ⟨fd, F⟩ := c.def_ 6 (d := d6) rfl
  have b := FunD.bindsA (ps := ["hall", "thing"]) F fun _ _ _ _ _ _ us hl => match us, hl with | [_, _], _ => rfl
  exact ⟨_, _, _, _, _, _, fd, n6, ["hall", "thing"], He.glo_ok X G (c.fact 6 (f := .glo "is_state") rfl), F.kp, F, sc6, b, rfl, rfl, rfl, by decide +kernel, c6⟩
theorem sc7 : FnScope n7 ["hall", "name"] (defScope (top 11)) := ⟨rfl, rfl, rfl, by decide +kernel, rfl, by decide +kernel, by decide +kernel⟩
theorem e7 (X : K.In h) (G : h.Ns mainGlobals mg) (c : He.SaysD fa fn K) : FnDef Y K mg 7 f7 := by
  obtain ⟨fd, F⟩ := c.def_ 7 (d := d7) rfl
  have b := FunD.bindsA (ps := ["hall", "name"]) F fun _ _ _ _ _ _ us hl => match us, hl with | [_, _], _ => rfl
  exact ⟨_, _, _, _, _, _, fd, n7, ["hall", "name"], He.glo_ok X G (c.fact 7 (f := .glo "full_state") rfl), F.kp, F, sc7, b, rfl, rfl, rfl, by decide +kernel, c7⟩
theorem sc8 : FnScope n8 ["hall", "state", "arc"] (defScope (top 12)) := ⟨rfl, rfl, rfl, by decide +kernel, rfl, by decide +kernel, by decide +kernel⟩
theorem e8 (X : K.In h) (G : h.Ns mainGlobals mg) (c : He.SaysD fa fn K) : FnDef Y K mg 8 f8 := by
  obtain ⟨fd, F⟩ := c.def_ 8 (d := d8) rfl
  have b := FunD.bindsA (ps := ["hall", "state", "arc"]) F fun _ _ _ _ _ _ us hl => match us, hl with | [_, _, _], _ => rfl
  exact ⟨_, _, _, _, _, _, fd, n8, ["hall", "state", "arc"], He.glo_ok X G (c.fact 8 (f := .glo "behind") rfl), F.kp, F, sc8, b, rfl, rfl, rfl, by decide +kernel, c8⟩
theorem sc9 : FnScope n9 ["_law_bag_here", "_law_many"] (defScope (top 15)) := ⟨rfl, rfl, rfl, by decide +kernel, rfl, by decide +kernel, by decide +kernel⟩
theorem e9 (X : K.In h) (G : h.Ns mainGlobals mg) (c : He.SaysD fa fn K) : FnDef Y K mg 9 f9 := by
  obtain ⟨fd, F⟩ := c.def_ 9 (d := d9) rfl
  have b := FunD.bindsA (ps := ["_law_bag_here", "_law_many"]) F fun _ _ _ _ _ _ us hl => match us, hl with | [_, _], _ => rfl
  exact ⟨_, _, _, _, _, _, fd, n9, ["_law_bag_here", "_law_many"], He.glo_ok X G (c.fact 9 (f := .glo "_law_take") rfl), F.kp, F, sc9, b, rfl, rfl, rfl, by decide +kernel, c9⟩
theorem sc10 : FnScope n10 ["_law_bag_here", "_law_things"] (defScope (top 16)) := ⟨rfl, rfl, rfl, by decide +kernel, rfl, by decide +kernel, by decide +kernel⟩
theorem e10 (X : K.In h) (G : h.Ns mainGlobals mg) (c : He.SaysD fa fn K) : FnDef Y K mg 10 f10 := by
  obtain ⟨fd, F⟩ := c.def_ 10 (d := d10) rfl
  have b := FunD.bindsA (ps := ["_law_bag_here", "_law_things"]) F fun _ _ _ _ _ _ us hl => match us, hl with | [_, _], _ => rfl
  exact ⟨_, _, _, _, _, _, fd, n10, ["_law_bag_here", "_law_things"], He.glo_ok X G (c.fact 10 (f := .glo "_law_some") rfl), F.kp, F, sc10, b, rfl, rfl, rfl, by decide +kernel, c10⟩
theorem sc11 : FnScope n11 ["_law_bag_here", "_law_things"] (defScope (top 17)) := ⟨rfl, rfl, rfl, by decide +kernel, rfl, by decide +kernel, by decide +kernel⟩
theorem e11 (X : K.In h) (G : h.Ns mainGlobals mg) (c : He.SaysD fa fn K) : FnDef Y K mg 11 f11 := by
  obtain ⟨fd, F⟩ := c.def_ 11 (d := d11) rfl
  have b := FunD.bindsA (ps := ["_law_bag_here", "_law_things"]) F fun _ _ _ _ _ _ us hl => match us, hl with | [_, _], _ => rfl
  exact ⟨_, _, _, _, _, _, fd, n11, ["_law_bag_here", "_law_things"], He.glo_ok X G (c.fact 11 (f := .glo "_law_mixed") rfl), F.kp, F, sc11, b, rfl, rfl, rfl, by decide +kernel, c11⟩
theorem sc12 : FnScope n12 ["_law_found", "_law_due"] (defScope (top 18)) := ⟨rfl, rfl, rfl, by decide +kernel, rfl, by decide +kernel, by decide +kernel⟩
theorem e12 (X : K.In h) (G : h.Ns mainGlobals mg) (c : He.SaysD fa fn K) : FnDef Y K mg 12 f12 := by
  obtain ⟨fd, F⟩ := c.def_ 12 (d := d12) rfl
  have b := FunD.bindsA (ps := ["_law_found", "_law_due"]) F fun _ _ _ _ _ _ us hl => match us, hl with | [_, _], _ => rfl
  exact ⟨_, _, _, _, _, _, fd, n12, ["_law_found", "_law_due"], He.glo_ok X G (c.fact 12 (f := .glo "_law_alike") rfl), F.kp, F, sc12, b, rfl, rfl, rfl, by decide +kernel, c12⟩
theorem sc13 : FnScope n13 ["_law_thing"] (defScope (top 19)) := ⟨rfl, rfl, rfl, by decide +kernel, rfl, by decide +kernel, by decide +kernel⟩
theorem e13 (X : K.In h) (G : h.Ns mainGlobals mg) (c : He.SaysD fa fn K) : FnDef Y K mg 13 f13 := by
  obtain ⟨fd, F⟩ := c.def_ 13 (d := d13) rfl
  have b := FunD.bindsA (ps := ["_law_thing"]) F fun _ _ _ _ _ _ us hl => match us, hl with | [_], _ => rfl
  exact ⟨_, _, _, _, _, _, fd, n13, ["_law_thing"], He.glo_ok X G (c.fact 13 (f := .glo "_law_is_int") rfl), F.kp, F, sc13, b, rfl, rfl, rfl, by decide +kernel, c13⟩
theorem sc14 : FnScope n14 ["_law_hall_here"] (defScope (top 20)) := ⟨rfl, rfl, rfl, by decide +kernel, rfl, by decide +kernel, by decide +kernel⟩
theorem e14 (X : K.In h) (G : h.Ns mainGlobals mg) (c : He.SaysD fa fn K) : FnDef Y K mg 14 f14 := by
  obtain ⟨fd, F⟩ := c.def_ 14 (d := d14) rfl
  have b := FunD.bindsA (ps := ["_law_hall_here"]) F fun _ _ _ _ _ _ us hl => match us, hl with | [_], _ => rfl
  exact ⟨_, _, _, _, _, _, fd, n14, ["_law_hall_here"], He.glo_ok X G (c.fact 14 (f := .glo "_law_names") rfl), F.kp, F, sc14, b, rfl, rfl, rfl, by decide +kernel, c14⟩
theorem sc15 : FnScope n15 ["_law_hall_here", "_law_name"] (defScope (top 21)) := ⟨rfl, rfl, rfl, by decide +kernel, rfl, by decide +kernel, by decide +kernel⟩
theorem e15 (X : K.In h) (G : h.Ns mainGlobals mg) (c : He.SaysD fa fn K) : FnDef Y K mg 15 f15 := by
  obtain ⟨fd, F⟩ := c.def_ 15 (d := d15) rfl
  have b := FunD.bindsA (ps := ["_law_hall_here", "_law_name"]) F fun _ _ _ _ _ _ us hl => match us, hl with | [_, _], _ => rfl
  exact ⟨_, _, _, _, _, _, fd, n15, ["_law_hall_here", "_law_name"], He.glo_ok X G (c.fact 15 (f := .glo "_law_arcs") rfl), F.kp, F, sc15, b, rfl, rfl, rfl, by decide +kernel, c15⟩
theorem sc16 : FnScope n16 ["_law_hall_here"] (defScope (top 22)) := ⟨rfl, rfl, rfl, by decide +kernel, rfl, by decide +kernel, by decide +kernel⟩
theorem e16 (X : K.In h) (G : h.Ns mainGlobals mg) (c : He.SaysD fa fn K) : FnDef Y K mg 16 f16 := by
  obtain ⟨fd, F⟩ := c.def_ 16 (d := d16) rfl
  have b := FunD.bindsA (ps := ["_law_hall_here"]) F fun _ _ _ _ _ _ us hl => match us, hl with | [_], _ => rfl
  exact ⟨_, _, _, _, _, _, fd, n16, ["_law_hall_here"], He.glo_ok X G (c.fact 16 (f := .glo "_law_is_live") rfl), F.kp, F, sc16, b, rfl, rfl, rfl, by decide +kernel, c16⟩
theorem sc17 : FnScope n17 ["_law_bag_here", "_law_most"] (defScope (top 23)) := ⟨rfl, rfl, rfl, by decide +kernel, rfl, by decide +kernel, by decide +kernel⟩
theorem e17 (X : K.In h) (G : h.Ns mainGlobals mg) (c : He.SaysD fa fn K) : FnDef Y K mg 17 f17 := by
  obtain ⟨fd, F⟩ := c.def_ 17 (d := d17) rfl
  have b := FunD.bindsA (ps := ["_law_bag_here", "_law_most"]) F fun _ _ _ _ _ _ us hl => match us, hl with | [_, _], _ => rfl
  exact ⟨_, _, _, _, _, _, fd, n17, ["_law_bag_here", "_law_most"], He.glo_ok X G (c.fact 17 (f := .glo "_law_purses") rfl), F.kp, F, sc17, b, rfl, rfl, rfl, by decide +kernel, c17⟩
theorem sc18 : FnScope n18 ["_law_bag_here", "_law_room"] (defScope (top 24)) := ⟨rfl, rfl, rfl, by decide +kernel, rfl, by decide +kernel, by decide +kernel⟩
theorem e18 (X : K.In h) (G : h.Ns mainGlobals mg) (c : He.SaysD fa fn K) : FnDef Y K mg 18 f18 := by
  obtain ⟨fd, F⟩ := c.def_ 18 (d := d18) rfl
  have b := FunD.bindsA (ps := ["_law_bag_here", "_law_room"]) F fun _ _ _ _ _ _ us hl => match us, hl with | [_, _], _ => rfl
  exact ⟨_, _, _, _, _, _, fd, n18, ["_law_bag_here", "_law_room"], He.glo_ok X G (c.fact 18 (f := .glo "_law_first") rfl), F.kp, F, sc18, b, rfl, rfl, rfl, by decide +kernel, c18⟩
theorem sc19 : FnScope n19 ["_law_bag_here", "_law_machines", "_law_most"] (defScope (top 25)) := ⟨rfl, rfl, rfl, by decide +kernel, rfl, by decide +kernel, by decide +kernel⟩
theorem e19 (X : K.In h) (G : h.Ns mainGlobals mg) (c : He.SaysD fa fn K) : FnDef Y K mg 19 f19 := by
  obtain ⟨fd, F⟩ := c.def_ 19 (d := d19) rfl
  have b := FunD.bindsA (ps := ["_law_bag_here", "_law_machines", "_law_most"]) F fun _ _ _ _ _ _ us hl => match us, hl with | [_, _, _], _ => rfl
  exact ⟨_, _, _, _, _, _, fd, n19, ["_law_bag_here", "_law_machines", "_law_most"], He.glo_ok X G (c.fact 19 (f := .glo "_law_web") rfl), F.kp, F, sc19, b, rfl, rfl, rfl, by decide +kernel, c19⟩
theorem sc20 : FnScope n20 ["_law_bag_here", "_law_machines", "_law_most"] (defScope (top 26)) := ⟨rfl, rfl, rfl, by decide +kernel, rfl, by decide +kernel, by decide +kernel⟩
theorem e20 (X : K.In h) (G : h.Ns mainGlobals mg) (c : He.SaysD fa fn K) : FnDef Y K mg 20 f20 := by
  obtain ⟨fd, F⟩ := c.def_ 20 (d := d20) rfl
  have b := FunD.bindsA (ps := ["_law_bag_here", "_law_machines", "_law_most"]) F fun _ _ _ _ _ _ us hl => match us, hl with | [_, _, _], _ => rfl
  exact ⟨_, _, _, _, _, _, fd, n20, ["_law_bag_here", "_law_machines", "_law_most"], He.glo_ok X G (c.fact 20 (f := .glo "_law_hall") rfl), F.kp, F, sc20, b, rfl, rfl, rfl, by decide +kernel, c20⟩
theorem sc21 : FnScope n21 ["_law_bag_here", "_law_machines", "_law_most"] (defScope (top 27)) := ⟨rfl, rfl, rfl, by decide +kernel, rfl, by decide +kernel, by decide +kernel⟩
theorem e21 (X : K.In h) (G : h.Ns mainGlobals mg) (c : He.SaysD fa fn K) : FnDef Y K mg 21 f21 := by
  obtain ⟨fd, F⟩ := c.def_ 21 (d := d21) rfl
  have b := FunD.bindsA (ps := ["_law_bag_here", "_law_machines", "_law_most"]) F fun _ _ _ _ _ _ us hl => match us, hl with | [_, _, _], _ => rfl
  exact ⟨_, _, _, _, _, _, fd, n21, ["_law_bag_here", "_law_machines", "_law_most"], He.glo_ok X G (c.fact 21 (f := .glo "_law_line") rfl), F.kp, F, sc21, b, rfl, rfl, rfl, by decide +kernel, c21⟩
theorem sc22 : FnScope n22 ["_law_bag_here", "_law_machines", "_law_most"] (defScope (top 28)) := ⟨rfl, rfl, rfl, by decide +kernel, rfl, by decide +kernel, by decide +kernel⟩
theorem e22 (X : K.In h) (G : h.Ns mainGlobals mg) (c : He.SaysD fa fn K) : FnDef Y K mg 22 f22 := by
  obtain ⟨fd, F⟩ := c.def_ 22 (d := d22) rfl
  have b := FunD.bindsA (ps := ["_law_bag_here", "_law_machines", "_law_most"]) F fun _ _ _ _ _ _ us hl => match us, hl with | [_, _, _], _ => rfl
  exact ⟨_, _, _, _, _, _, fd, n22, ["_law_bag_here", "_law_machines", "_law_most"], He.glo_ok X G (c.fact 22 (f := .glo "_law_tree") rfl), F.kp, F, sc22, b, rfl, rfl, rfl, by decide +kernel, c22⟩
theorem sc23 : FnScope n23 ["_law_hall_here"] (defScope (top 29)) := ⟨rfl, rfl, rfl, by decide +kernel, rfl, by decide +kernel, by decide +kernel⟩
theorem e23 (X : K.In h) (G : h.Ns mainGlobals mg) (c : He.SaysD fa fn K) : FnDef Y K mg 23 f23 := by
  obtain ⟨fd, F⟩ := c.def_ 23 (d := d23) rfl
  have b := FunD.bindsA (ps := ["_law_hall_here"]) F fun _ _ _ _ _ _ us hl => match us, hl with | [_], _ => rfl
  exact ⟨_, _, _, _, _, _, fd, n23, ["_law_hall_here"], He.glo_ok X G (c.fact 23 (f := .glo "_law_full") rfl), F.kp, F, sc23, b, rfl, rfl, rfl, by decide +kernel, c23⟩
theorem sc24 : FnScope n24 ["_law_hall_here", "_law_state", "_law_arc"] (defScope (top 30)) := ⟨rfl, rfl, rfl, by decide +kernel, rfl, by decide +kernel, by decide +kernel⟩
theorem e24 (X : K.In h) (G : h.Ns mainGlobals mg) (c : He.SaysD fa fn K) : FnDef Y K mg 24 f24 := by
  obtain ⟨fd, F⟩ := c.def_ 24 (d := d24) rfl
  have b := FunD.bindsA (ps := ["_law_hall_here", "_law_state", "_law_arc"]) F fun _ _ _ _ _ _ us hl => match us, hl with | [_, _, _], _ => rfl
  exact ⟨_, _, _, _, _, _, fd, n24, ["_law_hall_here", "_law_state", "_law_arc"], He.glo_ok X G (c.fact 24 (f := .glo "_law_behind") rfl), F.kp, F, sc24, b, rfl, rfl, rfl, by decide +kernel, c24⟩
theorem sc25 : FnScope n25 ["_law_bag_here"] (defScope (top 31)) := ⟨rfl, rfl, rfl, by decide +kernel, rfl, by decide +kernel, by decide +kernel⟩
theorem e25 (X : K.In h) (G : h.Ns mainGlobals mg) (c : He.SaysD fa fn K) : FnDef Y K mg 25 f25 := by
  obtain ⟨fd, F⟩ := c.def_ 25 (d := d25) rfl
  have b := FunD.bindsA (ps := ["_law_bag_here"]) F fun _ _ _ _ _ _ us hl => match us, hl with | [_], _ => rfl
  exact ⟨_, _, _, _, _, _, fd, n25, ["_law_bag_here"], He.glo_ok X G (c.fact 25 (f := .glo "_law_odd") rfl), F.kp, F, sc25, b, rfl, rfl, rfl, by decide +kernel, c25⟩
theorem sc26 : FnScope n26 ["_law_bag_here", "_law_thing", "_law_deep"] (defScope (top 32)) := ⟨rfl, rfl, rfl, by decide +kernel, rfl, by decide +kernel, by decide +kernel⟩
theorem e26 (X : K.In h) (G : h.Ns mainGlobals mg) (c : He.SaysD fa fn K) : FnDef Y K mg 26 f26 := by
  obtain ⟨fd, F⟩ := c.def_ 26 (d := d26) rfl
  have b := FunD.bindsA (ps := ["_law_bag_here", "_law_thing", "_law_deep"]) F fun _ _ _ _ _ _ us hl => match us, hl with | [_, _, _], _ => rfl
  exact ⟨_, _, _, _, _, _, fd, n26, ["_law_bag_here", "_law_thing", "_law_deep"], He.glo_ok X G (c.fact 26 (f := .glo "_law_bent") rfl), F.kp, F, sc26, b, rfl, rfl, rfl, by decide +kernel, c26⟩
theorem sc27 : FnScope n27 ["_law_bag_here"] (defScope (top 33)) := ⟨rfl, rfl, rfl, by decide +kernel, rfl, by decide +kernel, by decide +kernel⟩
theorem e27 (X : K.In h) (G : h.Ns mainGlobals mg) (c : He.SaysD fa fn K) : FnDef Y K mg 27 f27 := by
  obtain ⟨fd, F⟩ := c.def_ 27 (d := d27) rfl
  have b := FunD.bindsA (ps := ["_law_bag_here"]) F fun _ _ _ _ _ _ us hl => match us, hl with | [_], _ => rfl
  exact ⟨_, _, _, _, _, _, fd, n27, ["_law_bag_here"], He.glo_ok X G (c.fact 27 (f := .glo "_law_any_hall") rfl), F.kp, F, sc27, b, rfl, rfl, rfl, by decide +kernel, c27⟩
theorem sc28 : FnScope n28 ["_law_hall_here", "_law_thing"] (defScope (top 34)) := ⟨rfl, rfl, rfl, by decide +kernel, rfl, by decide +kernel, by decide +kernel⟩
theorem e28 (X : K.In h) (G : h.Ns mainGlobals mg) (c : He.SaysD fa fn K) : FnDef Y K mg 28 f28 := by
  obtain ⟨fd, F⟩ := c.def_ 28 (d := d28) rfl
  have b := FunD.bindsA (ps := ["_law_hall_here", "_law_thing"]) F fun _ _ _ _ _ _ us hl => match us, hl with | [_, _], _ => rfl
  exact ⟨_, _, _, _, _, _, fd, n28, ["_law_hall_here", "_law_thing"], He.glo_ok X G (c.fact 28 (f := .glo "_law_is_state") rfl), F.kp, F, sc28, b, rfl, rfl, rfl, by decide +kernel, c28⟩
theorem sc29 : FnScope n29 ["_law_bag_here", "_law_hall_here"] (defScope (top 35)) := ⟨rfl, rfl, rfl, by decide +kernel, rfl, by decide +kernel, by decide +kernel⟩
theorem e29 (X : K.In h) (G : h.Ns mainGlobals mg) (c : He.SaysD fa fn K) : FnDef Y K mg 29 f29 := by
  obtain ⟨fd, F⟩ := c.def_ 29 (d := d29) rfl
  have b := FunD.bindsA (ps := ["_law_bag_here", "_law_hall_here"]) F fun _ _ _ _ _ _ us hl => match us, hl with | [_, _], _ => rfl
  exact ⟨_, _, _, _, _, _, fd, n29, ["_law_bag_here", "_law_hall_here"], He.glo_ok X G (c.fact 29 (f := .glo "_law_drawn_state") rfl), F.kp, F, sc29, b, rfl, rfl, rfl, by decide +kernel, c29⟩
theorem eAll (X : K.In h) (G : h.Ns mainGlobals mg) (c : He.SaysD fa fn K) : ∀ f d, Y.T.fns[f]? = some d → FnDef Y K mg f d := fun f d e => by
  match f, e with
  | 0, e => cases e; exact e0 X G c
  | 1, e => cases e; exact e1 X G c
  | 2, e => cases e; exact e2 X G c
  | 3, e => cases e; exact e3 X G c
  | 4, e => cases e; exact e4 X G c
  | 5, e => cases e; exact e5 X G c
  | 6, e => cases e; exact e6 X G c
  | 7, e => cases e; exact e7 X G c
  | 8, e => cases e; exact e8 X G c
  | 9, e => cases e; exact e9 X G c
  | 10, e => cases e; exact e10 X G c
  | 11, e => cases e; exact e11 X G c
  | 12, e => cases e; exact e12 X G c
  | 13, e => cases e; exact e13 X G c
  | 14, e => cases e; exact e14 X G c
  | 15, e => cases e; exact e15 X G c
  | 16, e => cases e; exact e16 X G c
  | 17, e => cases e; exact e17 X G c
  | 18, e => cases e; exact e18 X G c
  | 19, e => cases e; exact e19 X G c
  | 20, e => cases e; exact e20 X G c
  | 21, e => cases e; exact e21 X G c
  | 22, e => cases e; exact e22 X G c
  | 23, e => cases e; exact e23 X G c
  | 24, e => cases e; exact e24 X G c
  | 25, e => cases e; exact e25 X G c
  | 26, e => cases e; exact e26 X G c
  | 27, e => cases e; exact e27 X G c
  | 28, e => cases e; exact e28 X G c
  | 29, e => cases e; exact e29 X G c
  | n + 30, e => simp [Y, T] at e
theorem eFree (X : K.In h) (G : h.Ns mainGlobals mg) (c : He.SaysD fa fn K) : ∀ n ∈ Y.free, mg (n : Str) = none := fun n hn => by
  simp only [Y, List.mem_cons, List.not_mem_nil, or_false] at hn
  rcases hn with rfl | rfl | rfl | rfl | rfl | rfl | rfl | rfl | rfl | rfl | rfl | rfl | rfl | rfl | rfl | rfl | rfl | rfl
  · exact He.free_ok X G (c.fact 32 (f := .free "abs") rfl)
  · exact He.free_ok X G (c.fact 33 (f := .free "all") rfl)
  · exact He.free_ok X G (c.fact 34 (f := .free "bool") rfl)
  · exact He.free_ok X G (c.fact 35 (f := .free "dict") rfl)
  · exact He.free_ok X G (c.fact 36 (f := .free "enumerate") rfl)
  · exact He.free_ok X G (c.fact 37 (f := .free "int") rfl)
  · exact He.free_ok X G (c.fact 38 (f := .free "isinstance") rfl)
  · exact He.free_ok X G (c.fact 39 (f := .free "len") rfl)
  · exact He.free_ok X G (c.fact 40 (f := .free "list") rfl)
  · exact He.free_ok X G (c.fact 41 (f := .free "max") rfl)
  · exact He.free_ok X G (c.fact 42 (f := .free "min") rfl)
  · exact He.free_ok X G (c.fact 43 (f := .free "range") rfl)
  · exact He.free_ok X G (c.fact 44 (f := .free "repr") rfl)
  · exact He.free_ok X G (c.fact 45 (f := .free "sorted") rfl)
  · exact He.free_ok X G (c.fact 46 (f := .free "str") rfl)
  · exact He.free_ok X G (c.fact 47 (f := .free "sum") rfl)
  · exact He.free_ok X G (c.fact 48 (f := .free "tuple") rfl)
  · exact He.free_ok X G (c.fact 49 (f := .free "zip") rfl)
theorem eCons (X : K.In h) (G : h.Ns mainGlobals mg) (c : He.SaysD fa fn K) : ∀ (j : Nat) (n : String) (i : Int), Y.cons[j]? = some n → Y.T.cons[j]? = some i → ∃ t, mg (n : Str) = some (.int i t) := fun j n i e1 e2 => by
  match j, e1, e2 with
  | n + 0, e1, e2 => simp [Y] at e1
theorem scB : FnScope ["_law_script", "_law_cell"] ["_law_script"] (defScope (top 14)) := ⟨rfl, rfl, rfl, by decide +kernel, rfl, by decide +kernel, by decide +kernel⟩
theorem scL : FnScope nL ["_law_script"] (defScope (top 36)) := ⟨rfl, rfl, rfl, by decide +kernel, rfl, by decide +kernel, by decide +kernel⟩
theorem lawG {fl : Addr} {j : Nat} (X : K.In h) (G : h.Ns mainGlobals mg) (c : He.SaysD fa fn K) (hl : mg ("law" : Str) = some (.ref fl)) (plain : ∀ ns : List Int, ns.length ≤ 63 → wpS (ctx Y.T (j + 1) noX) bL (lawEnv nL.length ns) lawEnds) : ∀ b0 : Heap, FnG P w K mg b0 (j + 2) fl (spLaw K) := fun b0 => by
  obtain ⟨fdB, FB⟩ := c.def_ 30 (d := dB) rfl
  obtain ⟨fdL, FL⟩ := c.def_ 31 (d := dL) rfl
  have gB := He.glo_ok X G (c.fact 30 (f := .glo "_law_bag") rfl)
  have gL := He.glo_ok X G (c.fact 31 (f := .glo "law") rfl)
  rw [hl] at gL
  cases gL
  have all := fns_all (P := P) (w := w) (base := b0) (eAll X G c) (eCons X G c) (eFree X G c)
  have bB := FunD.bindsA (ps := ["_law_script"]) FB fun _ _ _ _ _ _ us hl => match us, hl with | [_], _ => rfl
  have bL := FunD.bindsA (ps := ["_law_script"]) FL fun _ _ _ _ _ _ us hl => match us, hl with | [_], _ => rfl
  have B := bag_ok (Y := Y) (k := j) (base := b0) FB scB bB (eFree X G c "abs" (by decide)) (by decide +kernel) cB (all j) (eCons X G c) (eFree X G c)
  exact law_ok (st := (defBody (top 36)).headD (.Pass ⟨0, 0, 0, 0⟩)) (rest := (defBody (top 36)).tail) FL scL bL (by decide +kernel) gB FB.kp B cH cL (all (j + 1)) (eCons X G c) (eFree X G c) plain
end
end K19
end
section
set_option Elab.async false
set_option linter.all false
set_option maxRecDepth 100000
set_option maxHeartbeats 0
namespace K19
open PL PySem PySem.Spec PyProof.Rows L2
abbrev R : PySem.W.OpenRow := PySem.W.OpenLaw.row PySem.Challenge.rw_fillerfed_k19_states_and_what_is_behind
def loose : List PySem.Str := ["names_of", "end_of", "growth_of", "does_end", "is_integer", "is_row", "is_state", "full_state", "behind", "_law_bag", "_law_take", "_law_some", "_law_mixed", "_law_alike", "_law_is_int", "_law_names", "_law_arcs", "_law_is_live", "_law_purses", "_law_first", "_law_web", "_law_hall", "_law_line", "_law_tree", "_law_full", "_law_behind", "_law_odd", "_law_bent", "_law_any_hall", "_law_is_state", "_law_drawn_state"]
theorem run (w : World) : HandSHeadRun.RunEq R (PySem.W.view R.prog [36]) hk ob 4000 loose w := by
  intro os
  kernel_rfl
end K19
end
section
set_option Elab.async false
set_option linter.all false
set_option maxRecDepth 100000
set_option maxHeartbeats 0
open PySem PySem.W PySem.Calls PyProof.Rows
theorem PySem.Challenge.cw_fillerfed_k19_states_and_what_is_behind_holds : PySem.Challenge.rw_fillerfed_k19_states_and_what_is_behind.Holds := by
  w_on; o_law
  refine HandSHeadRun.head_any (r := OpenLaw.row PySem.Challenge.rw_fillerfed_k19_states_and_what_is_behind) (q := view (OpenLaw.row PySem.Challenge.rw_fillerfed_k19_states_and_what_is_behind).prog [36]) (H := K19.hk) (ob := K19.ob) (M := 4000) (loose := K19.loose) (d := HandSHeadRun.topDef (OpenLaw.row PySem.Challenge.rw_fillerfed_k19_states_and_what_is_behind).prog 36) (kwd := []) K19.ob_eq
    (by kernel_rfl) (fun s => by kernel_rfl) K19.run (by kernel_rfl) (by kernel_rfl) (by kernel_rfl) (by rfl) (by first | assumption | decide +kernel) (by decide +kernel) ⟨rfl, rfl, rfl, rfl, rfl, by decide +kernel⟩ ?hw ?hc
  case hw => w_witness2
  case hc =>
    refine PL.walk_ofG (l := PySem.Challenge.rw_fillerfed_k19_states_and_what_is_behind) (n := 63) (k := 42) rfl (by decide) (by kernel_rfl) ⟨rfl, by decide, by decide⟩ ?F
    intro w mg fl h Y G bound
    obtain ⟨K, inn, says⟩ := Y
    have named : mg ("law" : PySem.Str) = some (.ref fl) := by
      have e : (HandSHeadRun.topDef (OpenLaw.row PySem.Challenge.rw_fillerfed_k19_states_and_what_is_behind).prog 36).name = ("law" : PySem.Str) := by kernel_rfl
      rw [← e]
      exact bound
    exact ⟨K, PL.spLaw K, inn, fun H a ns hl _ hS => ⟨a, ns, rfl, hl, hS, fun _ => rfl⟩, fun b0 _ _ => K19.lawG (j := 40) inn G says named K19.law_true b0⟩
end
