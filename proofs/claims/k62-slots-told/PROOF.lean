import PyProof.Rows.All
import Wide.All
import OpenK.AllK
import Wide.FinOn
import HandS.ForMost
import HandS.ForExc
import HandS.Flow
import HandS.Style
import HandS.Wide
import HandS.IsInst
import HandS.Small
import HandS.TupAny
import HandS.DictComp
import HandS.Zip
import HandS.Conv
import HandS.NoneIn
import HandS.Codes
import HandS.Deep
import HandS.DeepEq
import HandS.ListItems
import HandS.TupLe
import HandS.ExcSuper
import HandS.TryMany
import KE.GoesMore
import KE.GoesEnum
import HandS.Defaults
import PyProof.FactsAll.object_2
import HandS.Head0
import HandS.Head1
import HandS.Head2
import HandS.HeadEnd
import HandS.HeadHook1
import HandS.HeadHook2
import PySem.Challenge.RW_gameworths_k62_slots_told
set_option Elab.async false
set_option linter.all false
set_option maxRecDepth 100000
set_option maxHeartbeats 4000000
namespace G
open PySem L2

abbrev Frag := PySem.W.Frag

/-! ### data -/
inductive D where
  | non | bl (b : Bool) | int (i : Int) | str (x : Str) | cst (v : V)
  | tup (xs : List D)
  | lst (o : Bool) (xs : List D)
  | dct (o : Bool) (kvs : List (Key × D))
  | ins (o : Bool) (C : Addr) (fs : List (Str × D))
instance : Inhabited D := ⟨.non⟩
mutual
/-- frozen: nothing in it is owned any more -/
def D.frz : D → D
  | .non => .non
  | .bl b => .bl b
  | .int i => .int i
  | .str x => .str x
  | .cst v => .cst v
  | .tup xs => .tup (frzs xs)
  | .lst _ xs => .lst false (frzs xs)
  | .dct _ kvs => .dct false (frzk kvs)
  | .ins _ C fs => .ins false C (frzf fs)
def frzs : List D → List D
  | [] => []
  | x :: xs => x.frz :: frzs xs
def frzk : List (Key × D) → List (Key × D)
  | [] => []
  | (k, x) :: xs => (k, x.frz) :: frzk xs
def frzf : List (Str × D) → List (Str × D)
  | [] => []
  | (k, x) :: xs => (k, x.frz) :: frzf xs
end
mutual
/-- nothing in it is owned -/
def D.cold : D → Bool
  | .non => true
  | .bl _ => true
  | .int _ => true
  | .str _ => true
  | .cst _ => true
  | .tup xs => colds xs
  | .lst o xs => !o && colds xs
  | .dct o kvs => !o && coldk kvs
  | .ins o _ fs => !o && coldf fs
def colds : List D → Bool
  | [] => true
  | x :: xs => x.cold && colds xs
def coldk : List (Key × D) → Bool
  | [] => true
  | (_, x) :: xs => x.cold && coldk xs
def coldf : List (Str × D) → Bool
  | [] => true
  | (_, x) :: xs => x.cold && coldf xs
end
mutual
/-- it names no frozen object that could be changed by its owner: new things, plain values and tuples of these -/
def D.free : D → Bool
  | .non => true
  | .bl _ => true
  | .int _ => true
  | .str _ => true
  | .cst _ => true
  | .tup xs => frees xs
  | .lst o xs => o && frees xs
  | .dct o kvs => o && freek kvs
  | .ins o _ fs => o && freef fs
def frees : List D → Bool
  | [] => true
  | x :: xs => x.free && frees xs
def freek : List (Key × D) → Bool
  | [] => true
  | (_, x) :: xs => x.free && freek xs
def freef : List (Str × D) → Bool
  | [] => true
  | (_, x) :: xs => x.free && freef xs
end
theorem frzs_eq : ∀ xs, frzs xs = xs.map D.frz
  | [] => by simp [frzs]
  | x :: xs => by simp [frzs, frzs_eq xs]
theorem frzk_eq : ∀ xs, frzk xs = xs.map fun p => (p.1, p.2.frz)
  | [] => by simp [frzk]
  | (k, x) :: xs => by simp [frzk, frzk_eq xs]
theorem frzf_eq : ∀ xs, frzf xs = xs.map fun p => (p.1, p.2.frz)
  | [] => by simp [frzf]
  | (k, x) :: xs => by simp [frzf, frzf_eq xs]
theorem colds_eq : ∀ xs, colds xs = xs.all D.cold
  | [] => by simp [colds]
  | x :: xs => by simp [colds, colds_eq xs]
theorem coldk_eq : ∀ xs, coldk xs = xs.all fun p => p.2.cold
  | [] => by simp [coldk]
  | (k, x) :: xs => by simp [coldk, coldk_eq xs]
theorem coldf_eq : ∀ xs, coldf xs = xs.all fun p => p.2.cold
  | [] => by simp [coldf]
  | (k, x) :: xs => by simp [coldf, coldf_eq xs]
theorem frees_eq : ∀ xs, frees xs = xs.all D.free
  | [] => by simp [frees]
  | x :: xs => by simp [frees, frees_eq xs]
theorem freek_eq : ∀ xs, freek xs = xs.all fun p => p.2.free
  | [] => by simp [freek]
  | (k, x) :: xs => by simp [freek, freek_eq xs]
theorem freef_eq : ∀ xs, freef xs = xs.all fun p => p.2.free
  | [] => by simp [freef]
  | (k, x) :: xs => by simp [freef, freef_eq xs]

/-! ### how a value stands for data: F the frozen objects, A the owned ones, in order -/
def KL (K : Frag) (a : Addr) (xs : List V) : Prop := ∃ (o : Obj) (its : Array Value) (n : Nat), K.lookup a = some o ∧ o.cls = .type "list" ∧ o.dict = none ∧ o.data = .seq its n ∧ its.size ≤ sizeLine ∧ Vals xs its.toList

mutual
inductive Rp (K : Frag) (F : Addr → Prop) (H : Hp) : V → D → List Addr → Prop
  | non : Rp K F H .non .non []
  | bl (b : Bool) : Rp K F H (.bl b) (.bl b) []
  | int (i : Int) : Rp K F H (.int i) (.int i) []
  | str (x : Str) : Rp K F H (.str x) (.str x) []
  | cst (v : V) : Rp K F H v (.cst v) []
  | tup {a : Addr} {vs : List V} {ds : List D} : SqT K H a vs → Rps K F H vs ds [] → Rp K F H (.ref a) (.tup ds) []
  | lstF {a : Addr} {vs : List V} {ds : List D} : F a → Rd H a (.lst vs) → Rps K F H vs ds [] → Rp K F H (.ref a) (.lst false ds) []
  | lstK {a : Addr} {vs : List V} {ds : List D} : KL K a vs → Rps K F H vs ds [] → Rp K F H (.ref a) (.lst false ds) []
  | lstO {a : Addr} {vs : List V} {ds : List D} {A : List Addr} : H a = some (.lst vs) → Rps K F H vs ds A → Rp K F H (.ref a) (.lst true ds) (a :: A)
  | dctF {a : Addr} {vs : List (Key × V)} {ds : List (Key × D)} : F a → Rd H a (.dK vs) → vs.map (·.1) = ds.map (·.1) → Rps K F H (vs.map (·.2)) (ds.map (·.2)) [] → Rp K F H (.ref a) (.dct false ds) []
  | dctO {a : Addr} {vs : List (Key × V)} {ds : List (Key × D)} {A : List Addr} : H a = some (.dK vs) → vs.map (·.1) = ds.map (·.1) → Rps K F H (vs.map (·.2)) (ds.map (·.2)) A → Rp K F H (.ref a) (.dct true ds) (a :: A)
  | insF {a C dx : Addr} {vs : List (Str × V)} {ds : List (Str × D)} : F a → H a = some (.ins C dx vs) → vs.map (·.1) = ds.map (·.1) → Rps K F H (vs.map (·.2)) (ds.map (·.2)) [] → Rp K F H (.ref a) (.ins false C ds) []
  | insO {a C dx : Addr} {vs : List (Str × V)} {ds : List (Str × D)} {A : List Addr} : H a = some (.ins C dx vs) → vs.map (·.1) = ds.map (·.1) → Rps K F H (vs.map (·.2)) (ds.map (·.2)) A → Rp K F H (.ref a) (.ins true C ds) (a :: A)
inductive Rps (K : Frag) (F : Addr → Prop) (H : Hp) : List V → List D → List Addr → Prop
  | nil : Rps K F H [] [] []
  | cons {v : V} {d : D} {vs : List V} {ds : List D} {A B C : List Addr} : Rp K F H v d A → Rps K F H vs ds B → C = A ++ B → Rps K F H (v :: vs) (d :: ds) C
end

/-- what of H that data needs is as it was in H' -/
def Pres (F : Addr → Prop) (B : List Addr) (H H' : Hp) : Prop := ∀ a o, H a = some o → (F a ∨ a ∈ B ∨ ¬ Mut (some o)) → H' a = some o
theorem Pres.sub {F : Addr → Prop} {B C : List Addr} {H H' : Hp} (p : Pres F B H H') (h : ∀ a ∈ C, a ∈ B) : Pres F C H H' := fun a o e z => p a o e (by
  rcases z with z | z | z
  · exact .inl z
  · exact .inr (.inl (h a z))
  · exact .inr (.inr z))
theorem Pres.rdF {F : Addr → Prop} {B : List Addr} {H H' : Hp} (p : Pres F B H H') {a : Addr} {u : HO} (f : F a) (h : Rd H a u) : Rd H' a u := by
  rcases h with h | ⟨o, h⟩
  · exact .inl (p a _ h (.inl f))
  · exact .inr ⟨o, p a _ h (.inl f)⟩
theorem Pres.sqT {K : Frag} {F : Addr → Prop} {B : List Addr} {H H' : Hp} (p : Pres F B H H') {a : Addr} {vs : List V} (h : SqT K H a vs) : SqT K H' a vs := by
  rcases h with (h | ⟨o, h⟩) | h
  · exact .inl (.inl (p a _ h (.inr (.inr fun z => z))))
  · exact .inl (.inr ⟨o, p a _ h (.inr (.inr fun z => z))⟩)
  · exact .inr h
mutual
theorem Rp.to {K : Frag} {F F' : Addr → Prop} {H H' : Hp} (hF : ∀ a, F a → F' a) : ∀ {v : V} {d : D} {B : List Addr}, Rp K F H v d B → Pres F B H H' → Rp K F' H' v d B
  | _, _, _, .non, _ => .non
  | _, _, _, .bl b, _ => .bl b
  | _, _, _, .int b, _ => .int b
  | _, _, _, .str b, _ => .str b
  | _, _, _, .cst b, _ => .cst b
  | _, _, _, .tup h r, p => .tup (p.sqT h) (Rps.to hF r p)
  | _, _, _, .lstF f h r, p => .lstF (hF _ f) (p.rdF f h) (Rps.to hF r p)
  | _, _, _, .lstK h r, p => .lstK h (Rps.to hF r p)
  | _, _, _, .lstO h r, p => .lstO (p _ _ h (.inr (.inl List.mem_cons_self))) (Rps.to hF r (p.sub fun _ z => List.mem_cons_of_mem _ z))
  | _, _, _, .dctF f h e r, p => .dctF (hF _ f) (p.rdF f h) e (Rps.to hF r p)
  | _, _, _, .dctO h e r, p => .dctO (p _ _ h (.inr (.inl List.mem_cons_self))) e (Rps.to hF r (p.sub fun _ z => List.mem_cons_of_mem _ z))
  | _, _, _, .insF f h e r, p => .insF (hF _ f) (p _ _ h (.inl f)) e (Rps.to hF r p)
  | _, _, _, .insO h e r, p => .insO (p _ _ h (.inr (.inl List.mem_cons_self))) e (Rps.to hF r (p.sub fun _ z => List.mem_cons_of_mem _ z))
theorem Rps.to {K : Frag} {F F' : Addr → Prop} {H H' : Hp} (hF : ∀ a, F a → F' a) : ∀ {vs : List V} {ds : List D} {B : List Addr}, Rps K F H vs ds B → Pres F B H H' → Rps K F' H' vs ds B
  | _, _, _, .nil, _ => .nil
  | _, _, _, .cons a b e, p => .cons (Rp.to hF a (p.sub fun _ z => by rw [e]; exact List.mem_append_left _ z)) (Rps.to hF b (p.sub fun _ z => by rw [e]; exact List.mem_append_right _ z)) e
end
theorem app_nil {α : Type} {A B : List α} (h : [] = A ++ B) : A = [] ∧ B = [] := by
  cases A with
  | nil => exact ⟨rfl, h.symm⟩
  | cons a r => cases h
mutual
/-- freezing -/
theorem Rp.frz {K : Frag} {F F' : Addr → Prop} {H : Hp} (hF : ∀ a, F a → F' a) : ∀ {v : V} {d : D} {B : List Addr}, Rp K F H v d B → (∀ a ∈ B, F' a) → Rp K F' H v d.frz []
  | _, _, _, .non, _ => .non
  | _, _, _, .bl b, _ => .bl b
  | _, _, _, .int b, _ => .int b
  | _, _, _, .str b, _ => .str b
  | _, _, _, .cst b, _ => .cst b
  | _, _, _, .tup h r, p => .tup h (Rps.frz hF r p)
  | _, _, _, .lstF f h r, p => .lstF (hF _ f) h (Rps.frz hF r p)
  | _, _, _, .lstK h r, p => .lstK h (Rps.frz hF r p)
  | _, _, _, .lstO h r, p => .lstF (p _ List.mem_cons_self) (.inl h) (Rps.frz hF r fun _ z => p _ (List.mem_cons_of_mem _ z))
  | _, _, _, .dctF f h e r, p => by
    refine .dctF (hF _ f) h ?_ ?_
    · rw [frzk_eq, List.map_map]; exact e
    · have q := Rps.frz hF r p
      rw [frzs_eq, List.map_map] at q
      rw [frzk_eq, List.map_map]; exact q
  | _, _, _, .dctO h e r, p => by
    refine .dctF (p _ List.mem_cons_self) (.inl h) ?_ ?_
    · rw [frzk_eq, List.map_map]; exact e
    · have q := Rps.frz hF r fun _ z => p _ (List.mem_cons_of_mem _ z)
      rw [frzs_eq, List.map_map] at q
      rw [frzk_eq, List.map_map]; exact q
  | _, _, _, .insF f h e r, p => by
    refine .insF (hF _ f) h ?_ ?_
    · rw [frzf_eq, List.map_map]; exact e
    · have q := Rps.frz hF r p
      rw [frzs_eq, List.map_map] at q
      rw [frzf_eq, List.map_map]; exact q
  | _, _, _, .insO h e r, p => by
    refine .insF (p _ List.mem_cons_self) h ?_ ?_
    · rw [frzf_eq, List.map_map]; exact e
    · have q := Rps.frz hF r fun _ z => p _ (List.mem_cons_of_mem _ z)
      rw [frzs_eq, List.map_map] at q
      rw [frzf_eq, List.map_map]; exact q
theorem Rps.frz {K : Frag} {F F' : Addr → Prop} {H : Hp} (hF : ∀ a, F a → F' a) : ∀ {vs : List V} {ds : List D} {B : List Addr}, Rps K F H vs ds B → (∀ a ∈ B, F' a) → Rps K F' H vs (frzs ds) []
  | _, _, _, .nil, _ => .nil
  | _, _, _, .cons a b e, p => .cons (Rp.frz hF a fun _ z => p _ (by rw [e]; exact List.mem_append_left _ z)) (Rps.frz hF b fun _ z => p _ (by rw [e]; exact List.mem_append_right _ z)) rfl
end
mutual
theorem Rp.cold {K : Frag} {F : Addr → Prop} {H : Hp} : ∀ {v : V} {d : D} {B : List Addr}, Rp K F H v d B → d.cold = true → B = []
  | _, _, _, .non, _ => rfl
  | _, _, _, .bl b, _ => rfl
  | _, _, _, .int b, _ => rfl
  | _, _, _, .str b, _ => rfl
  | _, _, _, .cst b, _ => rfl
  | _, _, _, .tup h r, _ => rfl
  | _, _, _, .lstF f h r, _ => rfl
  | _, _, _, .lstK h r, _ => rfl
  | _, _, _, .lstO h r, p => by simp [D.cold] at p
  | _, _, _, .dctF f h e r, _ => rfl
  | _, _, _, .dctO h e r, p => by simp [D.cold] at p
  | _, _, _, .insF f h e r, _ => rfl
  | _, _, _, .insO h e r, p => by simp [D.cold] at p
end
theorem Rps.cold {K : Frag} {F : Addr → Prop} {H : Hp} : ∀ {vs : List V} {ds : List D} {B : List Addr}, Rps K F H vs ds B → colds ds = true → B = []
  | _, _, _, .nil, _ => rfl
  | _, _, _, .cons a b e, p => by
    simp only [colds, Bool.and_eq_true] at p
    rw [e, a.cold p.1, Rps.cold b p.2]; rfl
mutual
/-- nothing owned: cold -/
theorem Rp.toCold {K : Frag} {F : Addr → Prop} {H : Hp} : ∀ {v : V} {d : D} {B : List Addr}, Rp K F H v d B → B = [] → d.cold = true
  | _, _, _, .non, _ => rfl
  | _, _, _, .bl b, _ => rfl
  | _, _, _, .int b, _ => rfl
  | _, _, _, .str b, _ => rfl
  | _, _, _, .cst b, _ => rfl
  | _, _, _, .tup h r, _ => by unfold D.cold; exact Rps.toCold r rfl
  | _, _, _, .lstF f h r, _ => by simp only [D.cold, Bool.not_false, Bool.true_and]; exact Rps.toCold r rfl
  | _, _, _, .lstK h r, _ => by simp only [D.cold, Bool.not_false, Bool.true_and]; exact Rps.toCold r rfl
  | _, _, _, .lstO h r, p => by cases p
  | _, _, _, .dctF f h e r, _ => by
    have q := Rps.toCold r rfl
    simp only [D.cold, Bool.not_false, Bool.true_and]
    rw [coldk_eq]; rw [colds_eq, List.all_map] at q; exact q
  | _, _, _, .dctO h e r, p => by cases p
  | _, _, _, .insF f h e r, _ => by
    have q := Rps.toCold r rfl
    simp only [D.cold, Bool.not_false, Bool.true_and]
    rw [coldf_eq]; rw [colds_eq, List.all_map] at q; exact q
  | _, _, _, .insO h e r, p => by cases p
theorem Rps.toCold {K : Frag} {F : Addr → Prop} {H : Hp} : ∀ {vs : List V} {ds : List D} {B : List Addr}, Rps K F H vs ds B → B = [] → colds ds = true
  | _, _, _, .nil, _ => rfl
  | _, _, _, .cons a b e, p => by
    obtain ⟨e1, e2⟩ := app_nil (p.symm.trans e)
    simp only [colds, Bool.and_eq_true]
    exact ⟨Rp.toCold a e1, Rps.toCold b e2⟩
end
mutual
/-- what names no frozen object of another's asks nothing of F -/
theorem Rp.free {K : Frag} {F F' : Addr → Prop} {H : Hp} : ∀ {v : V} {d : D} {B : List Addr}, Rp K F H v d B → d.free = true → Rp K F' H v d B
  | _, _, _, .non, _ => .non
  | _, _, _, .bl b, _ => .bl b
  | _, _, _, .int b, _ => .int b
  | _, _, _, .str b, _ => .str b
  | _, _, _, .cst b, _ => .cst b
  | _, _, _, .tup h r, p => .tup h (Rps.free r (by simpa [D.free] using p))
  | _, _, _, .lstF f h r, p => by simp [D.free] at p
  | _, _, _, .lstK h r, p => by simp [D.free] at p
  | _, _, _, .lstO h r, p => .lstO h (Rps.free r (by simpa [D.free] using p))
  | _, _, _, .dctF f h e r, p => by simp [D.free] at p
  | _, _, _, .dctO h e r, p => .dctO h e (Rps.free r (by
      simp only [D.free, Bool.true_and] at p
      rw [freek_eq] at p; rw [frees_eq, List.all_map]; exact p))
  | _, _, _, .insF f h e r, p => by simp [D.free] at p
  | _, _, _, .insO h e r, p => .insO h e (Rps.free r (by
      simp only [D.free, Bool.true_and] at p
      rw [freef_eq] at p; rw [frees_eq, List.all_map]; exact p))
theorem Rps.free {K : Frag} {F F' : Addr → Prop} {H : Hp} : ∀ {vs : List V} {ds : List D} {B : List Addr}, Rps K F H vs ds B → frees ds = true → Rps K F' H vs ds B
  | _, _, _, .nil, _ => .nil
  | _, _, _, .cons a b e, p => by
    simp only [frees, Bool.and_eq_true] at p
    exact .cons (Rp.free a p.1) (Rps.free b p.2) e
end
mutual
/-- the owned objects can be changed -/
theorem Rp.mut {K : Frag} {F : Addr → Prop} {H : Hp} : ∀ {v : V} {d : D} {B : List Addr}, Rp K F H v d B → ∀ a ∈ B, Mut (H a)
  | _, _, _, .non, _, h => nomatch h
  | _, _, _, .bl b, _, h => nomatch h
  | _, _, _, .int b, _, h => nomatch h
  | _, _, _, .str b, _, h => nomatch h
  | _, _, _, .cst b, _, h => nomatch h
  | _, _, _, .tup h r, _, z => nomatch z
  | _, _, _, .lstF f h r, _, z => nomatch z
  | _, _, _, .lstK h r, _, z => nomatch z
  | _, _, _, .lstO h r, b, z => (List.mem_cons.mp z).elim (fun e => by rw [e, h]; trivial) (Rps.mut r b)
  | _, _, _, .dctF f h e r, _, z => nomatch z
  | _, _, _, .dctO h e r, b, z => (List.mem_cons.mp z).elim (fun e => by rw [e, h]; trivial) (Rps.mut r b)
  | _, _, _, .insF f h e r, _, z => nomatch z
  | _, _, _, .insO h e r, b, z => (List.mem_cons.mp z).elim (fun e => by rw [e, h]; trivial) (Rps.mut r b)
theorem Rps.mut {K : Frag} {F : Addr → Prop} {H : Hp} : ∀ {vs : List V} {ds : List D} {B : List Addr}, Rps K F H vs ds B → ∀ a ∈ B, Mut (H a)
  | _, _, _, .nil, _, h => nomatch h
  | _, _, _, .cons a b e, c, z => (List.mem_append.mp (e ▸ z)).elim (Rp.mut a c) (Rps.mut b c)
end
theorem Rps.length {K : Frag} {F : Addr → Prop} {H : Hp} : ∀ {vs : List V} {ds : List D} {B : List Addr}, Rps K F H vs ds B → vs.length = ds.length
  | _, _, _, .nil => rfl
  | _, _, _, .cons _ b _ => by simp [Rps.length b]
theorem Rps.append {K : Frag} {F : Addr → Prop} {H : Hp} : ∀ {vs ws : List V} {ds es : List D} {A B : List Addr}, Rps K F H vs ds A → Rps K F H ws es B → Rps K F H (vs ++ ws) (ds ++ es) (A ++ B)
  | _, _, _, _, _, _, .nil, s => s
  | _, _, _, _, _, _, .cons a b e, s => .cons a (Rps.append b s) (by rw [e, List.append_assoc])
theorem Rps.get {K : Frag} {F : Addr → Prop} {H : Hp} : ∀ {vs : List V} {ds : List D} {B : List Addr} {i : Nat} {d : D}, Rps K F H vs ds B → ds[i]? = some d → ∃ v C, vs[i]? = some v ∧ Rp K F H v d C ∧ ∀ a ∈ C, a ∈ B
  | _, _, _, i, d, .nil, e => by simp at e
  | _, _, _, 0, d, .cons a b c, e => by
    simp at e; subst e
    exact ⟨_, _, rfl, a, fun x z => by rw [c]; exact List.mem_append_left _ z⟩
  | _, _, _, i + 1, d, .cons a b c, e => by
    obtain ⟨v, C, h1, h2, h3⟩ := Rps.get (i := i) (d := d) b (by simpa using e)
    exact ⟨v, C, by simpa using h1, h2, fun x z => by rw [c]; exact List.mem_append_right _ (h3 x z)⟩
/-- cold lists, item by item -/
theorem Rps.nil_get {K : Frag} {F : Addr → Prop} {H : Hp} {vs : List V} {ds : List D} {i : Nat} {d : D} (r : Rps K F H vs ds []) (e : ds[i]? = some d) : ∃ v, vs[i]? = some v ∧ Rp K F H v d [] := by
  obtain ⟨v, C, h1, h2, h3⟩ := r.get e
  have : C = [] := List.eq_nil_iff_forall_not_mem.mpr fun a z => nomatch h3 a z
  subst this
  exact ⟨v, h1, h2⟩
end G
set_option Elab.async false
set_option linter.all false
set_option maxRecDepth 100000
set_option maxHeartbeats 4000000
namespace G
open PySem L2

/-! ### states -/
abbrev Env := List (Option D)
structure Wf (F : Addr → Prop) (H : Hp) (A : List Addr) : Prop where
  nd : A.Nodup
  off : ∀ a ∈ A, ¬ F a
  mu : ∀ a ∈ A, Mut (H a)
  dom : ∀ a, F a → ∃ o, H a = some o
structure Step (F : Addr → Prop) (H : Hp) (A : List Addr) (F' : Addr → Prop) (H' : Hp) (A' : List Addr) : Prop where
  mono : ∀ a, F a → F' a
  frame : ∀ b o, H b = some o → b ∉ A → H' b = some o
  own : ∀ b ∈ A', b ∈ A ∨ H b = none
  frz : ∀ b, F' b → F b ∨ b ∈ A ∨ H b = none
theorem Wf.some {F : Addr → Prop} {H : Hp} {A : List Addr} (w : Wf F H A) {a : Addr} (h : a ∈ A) : ∃ o, H a = some o := by
  have m := w.mu a h
  cases e : H a with
  | none => rw [e] at m; exact m.elim
  | some o => exact ⟨o, rfl⟩
theorem Wf.perm {F : Addr → Prop} {H : Hp} {A A' : List Addr} (w : Wf F H A) (p : A.Perm A') : Wf F H A' :=
  ⟨p.nodup_iff.mp w.nd, fun a h => w.off a (p.mem_iff.mpr h), fun a h => w.mu a (p.mem_iff.mpr h), w.dom⟩
theorem Wf.left {F : Addr → Prop} {H : Hp} {A B : List Addr} (w : Wf F H (A ++ B)) : Wf F H A :=
  ⟨(List.nodup_append.mp w.nd).1, fun a h => w.off a (List.mem_append_left _ h), fun a h => w.mu a (List.mem_append_left _ h), w.dom⟩
theorem Wf.right {F : Addr → Prop} {H : Hp} {A B : List Addr} (w : Wf F H (A ++ B)) : Wf F H B :=
  ⟨(List.nodup_append.mp w.nd).2.1, fun a h => w.off a (List.mem_append_right _ h), fun a h => w.mu a (List.mem_append_right _ h), w.dom⟩
theorem Wf.apart {F : Addr → Prop} {H : Hp} {A B : List Addr} (w : Wf F H (A ++ B)) : ∀ a ∈ A, a ∉ B := fun a h z => (List.nodup_append.mp w.nd).2.2 a h a z rfl
theorem Wf.app {F : Addr → Prop} {H : Hp} {A B : List Addr} (a : Wf F H A) (b : Wf F H B) (d : ∀ x ∈ A, x ∉ B) : Wf F H (A ++ B) :=
  ⟨List.nodup_append.mpr ⟨a.nd, b.nd, fun x hx y hy e => d x hx (e ▸ hy)⟩, fun x h => (List.mem_append.mp h).elim (a.off x) (b.off x), fun x h => (List.mem_append.mp h).elim (a.mu x) (b.mu x), a.dom⟩
theorem Step.refl {F : Addr → Prop} {H : Hp} {A : List Addr} : Step F H A F H A := ⟨fun _ h => h, fun _ _ h _ => h, fun _ h => .inl h, fun _ h => .inl h⟩
theorem Step.trans {F F1 F2 : Addr → Prop} {H H1 H2 : Hp} {A A1 A2 : List Addr} (s : Step F H A F1 H1 A1) (t : Step F1 H1 A1 F2 H2 A2) : Step F H A F2 H2 A2 where
  mono := fun a h => t.mono a (s.mono a h)
  frame := fun b o h n => t.frame b o (s.frame b o h n) fun z => by
    rcases s.own b z with z | z
    · exact n z
    · rw [h] at z; cases z
  own := fun b h => by
    rcases t.own b h with z | z
    · exact s.own b z
    · cases e : H b with
      | none => exact .inr rfl
      | some o =>
        by_cases q : b ∈ A
        · exact .inl q
        · rw [s.frame b o e q] at z; cases z
  frz := fun b h => by
    rcases t.frz b h with z | z | z
    · exact s.frz b z
    · exact .inr (s.own b z)
    · cases e : H b with
      | none => exact .inr (.inr rfl)
      | some o =>
        by_cases q : b ∈ A
        · exact .inr (.inl q)
        · rw [s.frame b o e q] at z; cases z
theorem Step.mem {F F' : Addr → Prop} {H H' : Hp} {A A' B B' : List Addr} (s : Step F H A F' H' A') (h : ∀ a, a ∈ A ↔ a ∈ B) (h' : ∀ a, a ∈ A' ↔ a ∈ B') : Step F H B F' H' B' :=
  ⟨s.mono, fun b o e n => s.frame b o e fun z => n ((h b).mp z), fun b z => (s.own b ((h' b).mpr z)).imp (h b).mp id, fun b z => (s.frz b z).imp id (Or.imp (h b).mp id)⟩
/-- some that were owned are let go -/
theorem Step.less {F F' : Addr → Prop} {H H' : Hp} {A A' B : List Addr} (s : Step F H A F' H' A') (h : ∀ a ∈ B, a ∈ A') : Step F H A F' H' B := ⟨s.mono, s.frame, fun b z => s.own b (h b z), s.frz⟩
/-- more could have been changed -/
theorem Step.more {F F' : Addr → Prop} {H H' : Hp} {A A' B : List Addr} (s : Step F H A F' H' A') (h : ∀ a ∈ A, a ∈ B) : Step F H B F' H' A' :=
  ⟨s.mono, fun b o e n => s.frame b o e fun z => n (h b z), fun b z => (s.own b z).imp (h b) id, fun b z => (s.frz b z).imp id (Or.imp (h b) id)⟩
theorem Step.pres {F F' : Addr → Prop} {H H' : Hp} {A A' B : List Addr} (s : Step F H A F' H' A') (w : Wf F H A) (d : ∀ a ∈ B, a ∉ A) : Pres F B H H' := fun a o e z => s.frame a o e fun q => by
  rcases z with z | z | z
  · exact w.off a q z
  · exact d a z q
  · have m := w.mu a q
    rw [e] at m
    exact z m
/-- what is beside the slots stays -/
theorem Step.beside {F F' : Addr → Prop} {H H' : Hp} {A A' B : List Addr} (s : Step F H A F' H' A') (w : Wf F H (A ++ B)) (w' : Wf F' H' A') : Wf F' H' (A' ++ B) ∧ Step F H (A ++ B) F' H' (A' ++ B) := by
  have d : ∀ a ∈ B, a ∉ A := fun a h z => w.apart a z h
  have st : ∀ a ∈ B, H' a = H a := fun a h => by
    obtain ⟨o, e⟩ := w.right.some h
    rw [e]; exact s.frame a o e (d a h)
  have d' : ∀ a ∈ A', a ∉ B := fun a h z => by
    rcases s.own a h with q | q
    · exact d a z q
    · obtain ⟨o, e⟩ := w.right.some z
      rw [e] at q; cases q
  refine ⟨w'.app ⟨w.right.nd, fun a h z => ?_, fun a h => by rw [st a h]; exact w.right.mu a h, w'.dom⟩ d', s.mono, fun b o e n => s.frame b o e fun z => n (List.mem_append_left _ z), fun b z => ?_, fun b z => (s.frz b z).imp id (Or.imp (List.mem_append_left _) id)⟩
  · rcases s.frz a z with q | q | q
    · exact w.right.off a h q
    · exact d a h q
    · obtain ⟨o, e⟩ := w.right.some h
      rw [e] at q; cases q
  · rcases List.mem_append.mp z with z | z
    · exact (s.own b z).imp (List.mem_append_left _) id
    · exact .inl (List.mem_append_right _ z)

/-! ### slots -/
inductive Sls (K : Frag) (F : Addr → Prop) (H : Hp) : St → Env → List Addr → Prop
  | nil : Sls K F H [] [] []
  | no {o : Option V} {σ : St} {e : Env} {A : List Addr} : Sls K F H σ e A → Sls K F H (o :: σ) (none :: e) A
  | so {v : V} {d : D} {σ : St} {e : Env} {A B C : List Addr} : Rp K F H v d A → Sls K F H σ e B → C = A ++ B → Sls K F H (some v :: σ) (some d :: e) C
section
variable {K : Frag} {F F' : Addr → Prop} {H H' : Hp}
theorem Sls.to (hF : ∀ a, F a → F' a) : ∀ {σ : St} {e : Env} {A : List Addr}, Sls K F H σ e A → Pres F A H H' → Sls K F' H' σ e A
  | _, _, _, .nil, _ => .nil
  | _, _, _, .no s, p => .no (Sls.to hF s p)
  | _, _, _, .so a b c, p => .so (a.to hF (p.sub fun _ z => by rw [c]; exact List.mem_append_left _ z)) (Sls.to hF b (p.sub fun _ z => by rw [c]; exact List.mem_append_right _ z)) c
theorem Sls.length : ∀ {σ : St} {e : Env} {A : List Addr}, Sls K F H σ e A → σ.length = e.length
  | _, _, _, .nil => rfl
  | _, _, _, .no s => by simp [Sls.length s]
  | _, _, _, .so _ b _ => by simp [Sls.length b]
/-- a slot is looked at -/
theorem Sls.at {σ : St} {e : Env} {A : List Addr} {i : Nat} {d : D} (s : Sls K F H σ e A) (h : e[i]? = some (some d)) : ∃ v B, σ[i]? = some (some v) ∧ Rp K F H v d B ∧ ∀ a ∈ B, a ∈ A := by
  induction s generalizing i with
  | nil => simp at h
  | no s ih =>
    cases i with
    | zero => simp at h
    | succ i =>
      obtain ⟨v, B, h1, h2, h3⟩ := ih (i := i) (by simpa using h)
      exact ⟨v, B, by simpa using h1, h2, h3⟩
  | so a b c ih =>
    cases i with
    | zero =>
      simp at h; subst h
      exact ⟨_, _, rfl, a, fun x z => by rw [c]; exact List.mem_append_left _ z⟩
    | succ i =>
      obtain ⟨v, B, h1, h2, h3⟩ := ih (i := i) (by simpa using h)
      exact ⟨v, B, by simpa using h1, h2, fun x z => by rw [c]; exact List.mem_append_right _ (h3 x z)⟩
/-- a slot is stored: what it owned is let go -/
theorem Sls.put {σ : St} {e : Env} {A : List Addr} (s : Sls K F H σ e A) (i : Nat) (hi : i < e.length) : ∃ L B R, A = L ++ B ++ R ∧
    (∀ (F' : Addr → Prop) (H' : Hp) (v : V) (d : D) (B' : List Addr), (∀ a, F a → F' a) → Pres F (L ++ R) H H' → Rp K F' H' v d B' → Sls K F' H' (σ.set i (some v)) (e.set i (some d)) (L ++ B' ++ R)) ∧
    (∀ (F' : Addr → Prop) (H' : Hp) (o : Option V), (∀ a, F a → F' a) → Pres F (L ++ R) H H' → Sls K F' H' (σ.set i o) (e.set i none) (L ++ R)) := by
  induction s generalizing i with
  | nil => simp at hi
  | @no o σ e A s ih =>
    cases i with
    | zero =>
      refine ⟨[], [], A, rfl, fun F' H' v d B' hF p r => ?_, fun F' H' o hF p => ?_⟩
      · exact .so r (s.to hF (p.sub fun _ z => by simpa using z)) rfl
      · exact .no (s.to hF (p.sub fun _ z => by simpa using z))
    | succ i =>
      obtain ⟨L, B, R, h1, h2, h3⟩ := ih i (by simpa using hi)
      exact ⟨L, B, R, h1, fun F' H' v d B' hF p r => .no (h2 F' H' v d B' hF p r), fun F' H' o hF p => .no (h3 F' H' o hF p)⟩
  | @so v d σ e A1 A2 C a b c ih =>
    cases i with
    | zero =>
      refine ⟨[], A1, A2, by rw [c]; rfl, fun F' H' v d B' hF p r => ?_, fun F' H' o hF p => ?_⟩
      · exact .so r (b.to hF (p.sub fun _ z => by simpa using z)) rfl
      · exact .no (b.to hF (p.sub fun _ z => by simpa using z))
    | succ i =>
      obtain ⟨L, B, R, h1, h2, h3⟩ := ih i (by simpa using hi)
      refine ⟨A1 ++ L, B, R, by rw [c, h1]; simp, fun F' H' v d B' hF p r => ?_, fun F' H' o hF p => ?_⟩
      · exact .so (a.to hF (p.sub fun _ z => by simp [z])) (h2 F' H' v d B' hF (p.sub fun x z => by
          rcases List.mem_append.mp z with z | z <;> simp [z]) r) (by simp)
      · exact .so (a.to hF (p.sub fun _ z => by simp [z])) (h3 F' H' o hF (p.sub fun x z => by
          rcases List.mem_append.mp z with z | z <;> simp [z])) (by simp)
/-- the slot i in place: what it stands for may be put anew at the same value -/
theorem Sls.lens {σ : St} {e : Env} {A : List Addr} {i : Nat} {d : D} (s : Sls K F H σ e A) (h : e[i]? = some (some d)) : ∃ v L B R, σ[i]? = some (some v) ∧ Rp K F H v d B ∧ A = L ++ B ++ R ∧
    (∀ (F' : Addr → Prop) (H' : Hp) (d' : D) (B' : List Addr), (∀ a, F a → F' a) → Pres F (L ++ R) H H' → Rp K F' H' v d' B' → Sls K F' H' σ (e.set i (some d')) (L ++ B' ++ R)) ∧
    (∀ (F' : Addr → Prop) (H' : Hp), (∀ a, F a → F' a) → Pres F (L ++ R) H H' → Sls K F' H' σ (e.set i none) (L ++ R)) := by
  induction s generalizing i with
  | nil => simp at h
  | @no o σ e A s ih =>
    cases i with
    | zero => simp at h
    | succ i =>
      obtain ⟨v, L, B, R, h0, hr, h1, h2, h3⟩ := ih (i := i) (by simpa using h)
      exact ⟨v, L, B, R, by simpa using h0, hr, h1, fun F' H' d B' hF p r => .no (h2 F' H' d B' hF p r), fun F' H' hF p => .no (h3 F' H' hF p)⟩
  | @so v d0 σ e A1 A2 C a b c ih =>
    cases i with
    | zero =>
      simp at h; subst h
      refine ⟨v, [], A1, A2, rfl, a, by rw [c]; rfl, fun F' H' d B' hF p r => ?_, fun F' H' hF p => ?_⟩
      · exact .so r (b.to hF (p.sub fun _ z => by simpa using z)) rfl
      · exact .no (b.to hF (p.sub fun _ z => by simpa using z))
    | succ i =>
      obtain ⟨w, L, B, R, h0, hr, h1, h2, h3⟩ := ih (i := i) (by simpa using h)
      refine ⟨w, A1 ++ L, B, R, by simpa using h0, hr, by rw [c, h1]; simp, fun F' H' d B' hF p r => ?_, fun F' H' hF p => ?_⟩
      · exact .so (a.to hF (p.sub fun _ z => by simp [z])) (h2 F' H' d B' hF (p.sub fun x z => by
          rcases List.mem_append.mp z with z | z <;> simp [z]) r) (by simp)
      · exact .so (a.to hF (p.sub fun _ z => by simp [z])) (h3 F' H' hF (p.sub fun x z => by
          rcases List.mem_append.mp z with z | z <;> simp [z])) (by simp)
end

/-! ### what comes of a piece of code -/
/-- an exception of the program's own: its class, its attributes -/
structure XD where
  C : Addr
  fs : List (Str × D)
def Xr (K : Frag) (F : Addr → Prop) (H : Hp) (x : XD) (cls : Value) (dx : Option Addr) : Prop := cls = .ref x.C ∧ ((x.fs = [] ∧ dx = none) ∨
  ∃ d vs, dx = some d ∧ H d = some (.xd vs) ∧ vs.map (·.1) = x.fs.map (·.1) ∧ Rps K F H (vs.map (·.2)) (x.fs.map (·.2)) [])
/-- of an expression that changes nothing -/
inductive Rb where
  | ok (d : D) | er (x : XD) | bad
/-- of an expression -/
inductive Re where
  | ok (d : D) (e : Env) | er (x : XD) (e : Env) | bad
/-- of several expressions -/
inductive Ra where
  | ok (ds : List D) (e : Env) | er (x : XD) (e : Env) | bad
/-- of a statement -/
inductive Rs where
  | nx (e : Env) | rt (d : D) (e : Env) | bk (e : Env) | ct (e : Env) | er (x : XD) (e : Env) | bad
abbrev MB := Env → Rb
abbrev ME := Env → Re
abbrev MA := Env → Ra
abbrev MS := Env → Rs

/-- nothing that was there is changed; new objects may be frozen at once -/
structure Ext (F : Addr → Prop) (H : Hp) (F' : Addr → Prop) (H' : Hp) : Prop where
  same : ∀ b o, H b = some o → H' b = some o
  mono : ∀ a, F a → F' a
  new : ∀ a, F' a → F a ∨ H a = none
  dom : ∀ a, F' a → ∃ o, H' a = some o
section
variable {K : Frag} {F F' F1 F2 : Addr → Prop} {H H' H1 H2 : Hp} {A B : List Addr}
theorem Ext.refl (d : ∀ a, F a → ∃ o, H a = some o) : Ext F H F H := ⟨fun _ _ h => h, fun _ h => h, fun _ h => .inl h, d⟩
theorem Ext.trans (a : Ext F H F1 H1) (b : Ext F1 H1 F2 H2) : Ext F H F2 H2 where
  same := fun x o h => b.same x o (a.same x o h)
  mono := fun x h => b.mono x (a.mono x h)
  new := fun x h => by
    rcases b.new x h with z | z
    · exact a.new x z
    · refine .inr ?_
      cases e : H x with
      | none => rfl
      | some o => rw [a.same x o e] at z; cases z
  dom := b.dom
theorem Ext.pres (a : Ext F H F' H') : Pres F B H H' := fun x o h _ => a.same x o h
theorem Ext.rp (a : Ext F H F' H') {v : V} {d : D} (r : Rp K F H v d B) : Rp K F' H' v d B := r.to a.mono a.pres
theorem Ext.rps (a : Ext F H F' H') {v : List V} {d : List D} (r : Rps K F H v d B) : Rps K F' H' v d B := r.to a.mono a.pres
theorem Ext.sls (a : Ext F H F' H') {σ : St} {e : Env} (r : Sls K F H σ e B) : Sls K F' H' σ e B := r.to a.mono a.pres
theorem Ext.wf (a : Ext F H F' H') (w : Wf F H A) : Wf F' H' A where
  nd := w.nd
  off := fun x h z => by
    rcases a.new x z with q | q
    · exact w.off x h q
    · obtain ⟨o, e⟩ := w.some h
      rw [e] at q; cases q
  mu := fun x h => by
    obtain ⟨o, e⟩ := w.some h
    have m := w.mu x h
    rw [a.same x o e, ← e]; exact m
  dom := a.dom
theorem Ext.step (a : Ext F H F' H') : Step F H A F' H' A := ⟨a.mono, fun b o h _ => a.same b o h, fun _ h => .inl h, fun b h => (a.new b h).imp id .inr⟩
/-- a new object -/
theorem Ext.laid {p : Addr} {o : HO} (hp : H p = none) (d : ∀ a, F a → ∃ o, H a = some o) : Ext F H F (upd H p o) := ⟨fun b u h => by rw [upd_ne (ne_of_none h hp)]; exact h, fun _ h => h, fun _ h => .inl h, fun a h => by
  obtain ⟨u, e⟩ := d a h
  exact ⟨u, by rw [upd_ne (ne_of_none e hp)]; exact e⟩⟩
theorem Xr.to {x : XD} {cls : Value} {dx : Option Addr} (r : Xr K F H x cls dx) (hF : ∀ a, F a → F' a) (p : Pres F [] H H') : Xr K F' H' x cls dx := by
  obtain ⟨h1, h2⟩ := r
  refine ⟨h1, h2.imp id ?_⟩
  rintro ⟨d, vs, e1, e2, e3, e4⟩
  exact ⟨d, vs, e1, p d _ e2 (.inr (.inr fun z => z)), e3, e4.to hF p⟩
end

def OutB (K : Frag) (W : WX) (σ : St) (F : Addr → Prop) (H : Hp) (r : Rb) (t : VK → Prop) : Prop := match r with
  | .ok d => ∀ Q : VK, (∀ v H' F' B, Ext F H F' H' → Rp K F' H' v d B → Q v H') → t Q
  | .er x => (∀ cls dx H' F', Ext F H F' H' → Xr K F' H' x cls dx → W cls dx σ H') → ∀ Q, t Q
  | .bad => True
def OutE (K : Frag) (W : WX) (σ : St) (F : Addr → Prop) (H : Hp) (A : List Addr) (r : Re) (t : VK → Prop) : Prop := match r with
  | .ok d e => ∀ Q : VK, (∀ v H' F' A' B, Sls K F' H' σ e A' → Rp K F' H' v d B → Wf F' H' (A' ++ B) → Step F H A F' H' (A' ++ B) → Q v H') → t Q
  | .er x e => (∀ cls dx H' F' A', Sls K F' H' σ e A' → Wf F' H' A' → Step F H A F' H' A' → Xr K F' H' x cls dx → W cls dx σ H') → ∀ Q, t Q
  | .bad => True
def OutA (K : Frag) (W : WX) (σ : St) (F : Addr → Prop) (H : Hp) (A : List Addr) (r : Ra) (t : (List V → Hp → Prop) → Prop) : Prop := match r with
  | .ok ds e => ∀ Q : List V → Hp → Prop, (∀ vs H' F' A' B, Sls K F' H' σ e A' → Rps K F' H' vs ds B → Wf F' H' (A' ++ B) → Step F H A F' H' (A' ++ B) → Q vs H') → t Q
  | .er x e => (∀ cls dx H' F' A', Sls K F' H' σ e A' → Wf F' H' A' → Step F H A F' H' A' → Xr K F' H' x cls dx → W cls dx σ H') → ∀ Q, t Q
  | .bad => True
def OutT (K : Frag) (W : WX) (σ : St) (F : Addr → Prop) (H : Hp) (A : List Addr) (r : Re) (t : (Bool → Hp → Prop) → Prop) : Prop := match r with
  | .ok (.bl b) e => ∀ Q : Bool → Hp → Prop, (∀ H' F' A', Sls K F' H' σ e A' → Wf F' H' A' → Step F H A F' H' A' → Q b H') → t Q
  | .ok _ _ => True
  | .er x e => (∀ cls dx H' F' A', Sls K F' H' σ e A' → Wf F' H' A' → Step F H A F' H' A' → Xr K F' H' x cls dx → W cls dx σ H') → ∀ Q, t Q
  | .bad => True
def SimB (K : Frag) (W : WX) (t : TE) (m : MB) : Prop := ∀ σ H F A e, Sls K F H σ e A → Wf F H A → OutB K W σ F H (m e) (t σ H)
def SimE (K : Frag) (W : WX) (t : TE) (m : ME) : Prop := ∀ σ H F A e, Sls K F H σ e A → Wf F H A → OutE K W σ F H A (m e) (t σ H)
def SimA (K : Frag) (W : WX) (t : TA) (m : MA) : Prop := ∀ σ H F A e, Sls K F H σ e A → Wf F H A → OutA K W σ F H A (m e) (t σ H)
def SimT (K : Frag) (W : WX) (t : TT) (m : ME) : Prop := ∀ σ H F A e, Sls K F H σ e A → Wf F H A → OutT K W σ F H A (m e) (t σ H)
/-- an expression that changes nothing (its value may be another's) | any expression (its value is its own, or frozen) | arguments | a test -/
def SB (X : Cx) (W : WX) (e : Expr) (m : MB) : Prop := ∃ t, PE X e t ∧ SimB X.K W t m
def SE (X : Cx) (W : WX) (e : Expr) (m : ME) : Prop := ∃ t, PE X e t ∧ SimE X.K W t m
def SA (X : Cx) (W : WX) (es : List Expr) (m : MA) : Prop := ∃ t, PA X es t ∧ SimA X.K W t m
def ST (X : Cx) (W : WX) (e : Expr) (m : ME) : Prop := ∃ t, PT X e t ∧ SimT X.K W t m
def SW (X : Cx) (W : WX) (e : Expr) (m : ME) : Prop := ∃ t, PW X e t ∧ SimT X.K W t m

/-! ### statements: ps the slots that are never stored -/
structure Ok (K : Frag) (ps : List Nat) (F : Addr → Prop) (H : Hp) (A : List Addr) (σ : St) (e' : Env) (F' : Addr → Prop) (H' : Hp) (A' : List Addr) (σ' : St) : Prop where
  sl : Sls K F' H' σ' e' A'
  wf : Wf F' H' A'
  st : Step F H A F' H' A'
  kp : ∀ i ∈ ps, σ'[i]? = σ[i]?
theorem Ok.trans {K : Frag} {ps : List Nat} {F F1 F2 : Addr → Prop} {H H1 H2 : Hp} {A A1 A2 : List Addr} {σ σ1 σ2 : St} {e1 e2 : Env} (a : Ok K ps F H A σ e1 F1 H1 A1 σ1) (b : Ok K ps F1 H1 A1 σ1 e2 F2 H2 A2 σ2) : Ok K ps F H A σ e2 F2 H2 A2 σ2 :=
  ⟨b.sl, b.wf, a.st.trans b.st, fun i h => (b.kp i h).trans (a.kp i h)⟩
/-- what is wanted behind a statement, by what comes of it -/
def Dok (K : Frag) (W : WX) (ps : List Nat) (σ : St) (F : Addr → Prop) (H : Hp) (A : List Addr) (r : Rs) (D : Ends) : Prop := match r with
  | .nx e => ∀ F' H' A' σ', Ok K ps F H A σ e F' H' A' σ' → D.nx σ' H'
  | .bk e => ∀ F' H' A' σ', Ok K ps F H A σ e F' H' A' σ' → D.bk σ' H'
  | .ct e => ∀ F' H' A' σ', Ok K ps F H A σ e F' H' A' σ' → D.ct σ' H'
  | .rt d e => ∀ F' H' A' σ' v B, Ok K ps F H A σ e F' H' A' σ' → Rp K F' H' v d B → Wf F' H' (A' ++ B) → Step F H A F' H' (A' ++ B) → D.rt v H'
  | .er x e => ∀ F' H' A' σ' cls dx, Ok K ps F H A σ e F' H' A' σ' → Xr K F' H' x cls dx → W cls dx σ' H'
  | .bad => False
theorem Dok.mono {K : Frag} {W : WX} {ps : List Nat} {F F1 : Addr → Prop} {H H1 : Hp} {A A1 : List Addr} {σ σ1 : St} {e1 : Env} {r : Rs} {D : Ends} (o : Ok K ps F H A σ e1 F1 H1 A1 σ1) (h : Dok K W ps σ F H A r D) : Dok K W ps σ1 F1 H1 A1 r D := by
  cases r with
  | nx e => exact fun F' H' A' σ' z => h F' H' A' σ' (o.trans z)
  | bk e => exact fun F' H' A' σ' z => h F' H' A' σ' (o.trans z)
  | ct e => exact fun F' H' A' σ' z => h F' H' A' σ' (o.trans z)
  | rt d e => exact fun F' H' A' σ' v B z r w s => h F' H' A' σ' v B (o.trans z) r w (o.st.trans s)
  | er x e => exact fun F' H' A' σ' cls dx z r => h F' H' A' σ' cls dx (o.trans z) r
  | bad => exact h
def SimS (K : Frag) (W : WX) (ps : List Nat) (t : TS) (m : MS) : Prop := ∀ σ H F A e, Sls K F H σ e A → Wf F H A → ∀ D, Dok K W ps σ F H A (m e) D → t D σ H
def SS (X : Cx) (W : WX) (ps : List Nat) (st : Stmt) (m : MS) : Prop := ∃ t, PS X st t ∧ SimS X.K W ps t m
def SSs (X : Cx) (W : WX) (ps : List Nat) (st : List Stmt) (m : MS) : Prop := ∃ t, PSs X st t ∧ SimS X.K W ps t m
end G
set_option Elab.async false
set_option linter.all false
set_option maxRecDepth 100000
set_option maxHeartbeats 4000000
namespace G
open PySem L2

/-! ### plain helpers -/
def ofO : Option D → Rb
  | some d => .ok d
  | none => .bad
def Rb.bind : Rb → (D → Rb) → Rb
  | .ok d, f => f d
  | .er x, _ => .er x
  | .bad, _ => .bad
def Re.bind : Re → (D → Env → Re) → Re
  | .ok d e, f => f d e
  | .er x e, _ => .er x e
  | .bad, _ => .bad
inductive Rl where
  | ok (ds : List D) | er (x : XD) | bad
abbrev ML := Env → Rl
def OutL (K : Frag) (W : WX) (σ : St) (F : Addr → Prop) (H : Hp) (r : Rl) (t : (List V → Hp → Prop) → Prop) : Prop := match r with
  | .ok ds => ∀ Q : List V → Hp → Prop, (∀ vs H' F' B, Ext F H F' H' → Rps K F' H' vs ds B → Q vs H') → t Q
  | .er x => (∀ cls dx H' F', Ext F H F' H' → Xr K F' H' x cls dx → W cls dx σ H') → ∀ Q, t Q
  | .bad => True
def SimL (K : Frag) (W : WX) (t : TA) (m : ML) : Prop := ∀ σ H F A e, Sls K F H σ e A → Wf F H A → OutL K W σ F H (m e) (t σ H)
/-- arguments that change nothing -/
def SL (X : Cx) (W : WX) (es : List Expr) (m : ML) : Prop := ∃ t, PA X es t ∧ SimL X.K W t m

/-- new and owned -/
def Own (H : Hp) (F' : Addr → Prop) (C : List Addr) : Prop := C.Nodup ∧ ∀ c ∈ C, H c = none ∧ ¬ F' c
theorem Own.nil {H : Hp} {F' : Addr → Prop} : Own H F' [] := ⟨List.nodup_nil, fun _ h => nomatch h⟩
theorem Own.one {H : Hp} {F' : Addr → Prop} {p : Addr} (h : H p = none) (f : ¬ F' p) : Own H F' [p] := ⟨by simp, fun c z => by
  simp at z; subst z; exact ⟨h, f⟩⟩
def OpV2 (K : Frag) (r : R2) (g : D → D → Option D) : Prop := ∀ (F : Addr → Prop) (H : Hp) (v w : V) (d e z : D) (A B : List Addr), (∀ a, F a → ∃ o, H a = some o) → Rp K F H v d A → Rp K F H w e B → g d e = some z →
  ∀ Q : VK, (∀ u H' F' C, Ext F H F' H' → Rp K F' H' u z C → Own H F' C → Q u H') → r v w H Q
def OpV1 (K : Frag) (r : V → Hp → VK → Prop) (g : D → Option D) : Prop := ∀ (F : Addr → Prop) (H : Hp) (v : V) (d z : D) (A : List Addr), (∀ a, F a → ∃ o, H a = some o) → Rp K F H v d A → g d = some z →
  ∀ Q : VK, (∀ u H' F' C, Ext F H F' H' → Rp K F' H' u z C → Own H F' C → Q u H') → r v H Q
def OpVN (K : Frag) (r : List V → Hp → VK → Prop) (g : List D → Option D) : Prop := ∀ (F : Addr → Prop) (H : Hp) (vs : List V) (ds : List D) (z : D) (A : List Addr), (∀ a, F a → ∃ o, H a = some o) → Rps K F H vs ds A → g ds = some z →
  ∀ Q : VK, (∀ u H' F' C, Ext F H F' H' → Rp K F' H' u z C → Own H F' C → Q u H') → r vs H Q

section
variable {K : Frag} {F F' F1 F2 : Addr → Prop} {H H' H1 H2 : Hp} {A A1 B C : List Addr} {v : V} {d : D} {σ : St} {e : Env}
theorem Own.wf (o : Own H F' C) (x : Ext F H F' H') (w : Wf F H A) (r : Rp K F' H' v d C) : Wf F' H' (A ++ C) := by
  refine (x.wf w).app ⟨o.1, fun a h => (o.2 a h).2, r.mut, x.dom⟩ fun a h z => ?_
  obtain ⟨u, q⟩ := w.some h
  rw [(o.2 a z).1] at q; cases q
theorem Own.step (o : Own H F' C) (x : Ext F H F' H') : Step F H A F' H' (A ++ C) :=
  ⟨x.mono, fun b u h _ => x.same b u h, fun b h => (List.mem_append.mp h).imp id fun z => (o.2 b z).1, fun b h => (x.new b h).imp id .inr⟩

/-! ### from one that changes nothing to any -/
def mCold (m : MB) : ME := fun e => match m e with
  | .ok d => if d.cold = true then .ok d e else .bad
  | .er x => .er x e
  | .bad => .bad
theorem SimB.cold {W : WX} {t : TE} {m : MB} (h : SimB K W t m) : SimE K W t (mCold m) := fun σ H F A e s w => by
  have q := h σ H F A e s w
  unfold mCold
  cases hm : m e with
  | bad => trivial
  | er x =>
    rw [hm] at q
    intro k Q
    exact q (fun cls dx H' F' x' r => k cls dx H' F' A (x'.sls s) (x'.wf w) x'.step r) Q
  | ok d =>
    rw [hm] at q
    by_cases hc : d.cold = true
    · show OutE K W σ F H A (if d.cold = true then .ok d e else .bad) (t σ H)
      rw [if_pos hc]
      intro Q k
      refine q Q fun v H' F' B x r => ?_
      have eB := r.cold hc
      subst eB
      exact k v H' F' A [] (x.sls s) r (by simpa using x.wf w) (by simpa using x.step)
    · show OutE K W σ F H A (if d.cold = true then .ok d e else .bad) (t σ H)
      rw [if_neg hc]; trivial
end
section
variable {X : Cx} {W : WX} {a b c o : Expr} {ma mb mc : MB} {na nb nc : ME} {pos : Pos} {K : Frag}
theorem SB.cold (h : SB X W a ma) : SE X W a (mCold ma) := let ⟨t, p, s⟩ := h; ⟨t, p, s.cold⟩

/-! ### names and constants -/
def mVar (i : Nat) : MB := fun e => match e[i]? with
  | some (some d) => .ok d
  | _ => .bad
theorem sim_var {i : Nat} : SimB K W (tVar i) (mVar i) := fun σ H F A e s w => by
  unfold mVar
  split
  · rename_i d h
    intro Q k
    obtain ⟨v, B, h1, h2, _⟩ := s.at h
    exact ⟨v, h1, k v H F B (.refl w.dom) h2⟩
  · trivial
theorem sb_var (i : Nat) {x : Str} {pos : Pos} (hN : X.N[i]? = some x := by rfl) (hv : Vis X.env.scope x := by first | exact Or.inl rfl | exact Or.inr (Or.inl rfl) | exact Or.inr (Or.inr rfl)) (hd : (x == ("__debug__" : Str)) = false := by decide)
    (hcd : (x == ("__classdict__" : Str)) = false := by decide) : SB X W (.Name x pos) (mVar i) := ⟨_, pe_var hN hv hd hcd, sim_var⟩
def mC (d : D) : MB := fun _ => .ok d
theorem sim_c {v : V} {d : D} (h : ∀ F H, Rp K F H v d []) : SimB K W (tC v) (mC d) := fun σ H F A e s w Q k => k v H F [] (.refl w.dom) (h F H)
theorem sb_int {i : Int} {j} : SB X W (.Constant (.int i) j pos) (mC (.int i)) := ⟨_, pe_int, sim_c fun _ _ => .int i⟩
theorem sb_bl {i : Bool} {j} : SB X W (.Constant (.bool i) j pos) (mC (.bl i)) := ⟨_, pe_bl, sim_c fun _ _ => .bl i⟩
theorem sb_non {j} : SB X W (.Constant .none j pos) (mC .non) := ⟨_, pe_non, sim_c fun _ _ => .non⟩
theorem sb_str {x : Str} {j} : SB X W (.Constant (.str x) j pos) (mC (.str x)) := ⟨_, pe_str, sim_c fun _ _ => .str x⟩
theorem sb_glob {x : Str} {u : Value} {v : V} {d : D} (hg : Gl X x) (hm : X.mg x = some u) (r : RelV v u) (h : ∀ F H, Rp X.K F H v d []) (hd : (x == ("__debug__" : Str)) = false := by decide) : SB X W (.Name x pos) (mC d) := ⟨_, pe_glob hg hm r (hd := hd), sim_c h⟩

/-! ### operators -/
def mB1 (g : D → Option D) (ma : MB) : MB := fun e => (ma e).bind fun d => ofO (g d)
def mB2 (g : D → D → Option D) (ma mb : MB) : MB := fun e => (ma e).bind fun d => (mb e).bind fun d' => ofO (g d d')
def mE1 (g : D → Option D) (ma : ME) : ME := fun e => (ma e).bind fun d e1 => match g d with
  | some z => .ok z e1
  | none => .bad
def mE2 (g : D → D → Option D) (ma mb : ME) : ME := fun e => (ma e).bind fun d e1 => (mb e1).bind fun d' e2 => match g d d' with
  | some z => .ok z e2
  | none => .bad
theorem sim_op2 {r : R2} {g : D → D → Option D} {ta tb : TE} (hg : OpV2 K r g) (ha : SimB K W ta ma) (hb : SimB K W tb mb) : SimB K W (tOp r ta tb) (mB2 g ma mb) := fun σ H F A e s w => by
  have qa := ha σ H F A e s w
  unfold mB2
  cases ea : ma e with
  | bad => trivial
  | er x =>
    rw [ea] at qa
    intro k Q
    exact qa k _
  | ok d =>
    rw [ea] at qa
    show OutB K W σ F H ((mb e).bind fun d' => ofO (g d d')) _
    cases eb : mb e with
    | bad => trivial
    | er x =>
      intro k Q
      refine qa _ fun v H1 F1 B1 x1 r1 => ?_
      have qb := hb σ H1 F1 A e (x1.sls s) (x1.wf w)
      rw [eb] at qb
      exact qb (fun cls dx H' F' x' r => k cls dx H' F' (x1.trans x') r) _
    | ok d2 =>
      show OutB K W σ F H (ofO (g d d2)) _
      cases eg : g d d2 with
      | none => trivial
      | some z =>
        intro Q k
        refine qa _ fun v H1 F1 B1 x1 r1 => ?_
        have qb := hb σ H1 F1 A e (x1.sls s) (x1.wf w)
        rw [eb] at qb
        refine qb _ fun v2 H2 F2 B2 x2 r2 => ?_
        exact hg F2 H2 v v2 d d2 z B1 B2 x2.dom (x2.rp r1) r2 eg Q fun u H3 F3 C x3 r3 o => k u H3 F3 C ((x1.trans x2).trans x3) r3
theorem sim_op1 {r : V → Hp → VK → Prop} {g : D → Option D} {ta : TE} (hg : OpV1 K r g) (ha : SimB K W ta ma) : SimB K W (tUn r ta) (mB1 g ma) := fun σ H F A e s w => by
  have qa := ha σ H F A e s w
  unfold mB1
  cases ea : ma e with
  | bad => trivial
  | er x =>
    rw [ea] at qa
    intro k Q
    exact qa k _
  | ok d =>
    rw [ea] at qa
    show OutB K W σ F H (ofO (g d)) _
    cases eg : g d with
    | none => trivial
    | some z =>
      intro Q k
      refine qa _ fun v H1 F1 B1 x1 r1 => ?_
      exact hg F1 H1 v d z B1 x1.dom r1 eg Q fun u H3 F3 C x3 r3 o => k u H3 F3 C (x1.trans x3) r3
/-- two expressions in a row -/
theorem sim_two {ta tb : TE} {F : Addr → Prop} {H : Hp} {A : List Addr} {e e1 e2 : Env} {d d2 : D} {σ : St} (ha : SimE K W ta na) (hb : SimE K W tb nb) (s : Sls K F H σ e A) (w : Wf F H A) (ea : na e = .ok d e1) (eb : nb e1 = .ok d2 e2)
    {R : V → V → Hp → Prop} (k : ∀ v v2 H2 F2 A2 B1 B2, Sls K F2 H2 σ e2 A2 → Rp K F2 H2 v d B1 → Rp K F2 H2 v2 d2 B2 → Wf F2 H2 (A2 ++ (B1 ++ B2)) → Step F H A F2 H2 (A2 ++ (B1 ++ B2)) → R v v2 H2) :
    ta σ H fun x H1 => tb σ H1 fun y H2 => R x y H2 := by
  have qa := ha σ H F A e s w
  rw [ea] at qa
  refine qa _ fun v H1 F1 A1 B1 s1 r1 w1 t1 => ?_
  have qb := hb σ H1 F1 A1 e1 s1 w1.left
  rw [eb] at qb
  refine qb _ fun v2 H2 F2 A2 B2 s2 r2 w2 t2 => ?_
  obtain ⟨w3, t3⟩ := t2.beside w1 w2
  have p : (A2 ++ B2 ++ B1).Perm (A2 ++ (B1 ++ B2)) := by
    rw [List.append_assoc]; exact List.Perm.append_left _ List.perm_append_comm
  exact k v v2 H2 F2 A2 B1 B2 s2 (r1.to t2.mono (t2.pres w1.left fun a h z => w1.apart a z h)) r2 (w3.perm p) ((t1.trans t3).mem (fun _ => Iff.rfl) fun a => p.mem_iff)
theorem sim_twoX {ta tb : TE} {F : Addr → Prop} {H : Hp} {A : List Addr} {e e1 e2 : Env} {d : D} {x : XD} {σ : St} (ha : SimE K W ta na) (hb : SimE K W tb nb) (s : Sls K F H σ e A) (w : Wf F H A) (ea : na e = .ok d e1) (eb : nb e1 = .er x e2)
    (k : ∀ cls dx H' F' A', Sls K F' H' σ e2 A' → Wf F' H' A' → Step F H A F' H' A' → Xr K F' H' x cls dx → W cls dx σ H') {R : V → V → Hp → Prop} :
    ta σ H fun x H1 => tb σ H1 fun y H2 => R x y H2 := by
  have qa := ha σ H F A e s w
  rw [ea] at qa
  refine qa _ fun v H1 F1 A1 B1 s1 r1 w1 t1 => ?_
  have qb := hb σ H1 F1 A1 e1 s1 w1.left
  rw [eb] at qb
  exact qb (fun cls dx H' F' A' s' w' t' r => k cls dx H' F' A' s' w' ((t1.less fun _ => List.mem_append_left _).trans t') r) _
theorem sim_op2E {r : R2} {g : D → D → Option D} {ta tb : TE} (hg : OpV2 K r g) (ha : SimE K W ta na) (hb : SimE K W tb nb) : SimE K W (tOp r ta tb) (mE2 g na nb) := fun σ H F A e s w => by
  have qa := ha σ H F A e s w
  unfold mE2
  cases ea : na e with
  | bad => trivial
  | er x e1 =>
    rw [ea] at qa
    intro k Q
    exact qa k _
  | ok d e1 =>
    show OutE K W σ F H A ((nb e1).bind fun d' e2 => match g d d' with
      | some z => .ok z e2
      | none => .bad) _
    cases eb : nb e1 with
    | bad => trivial
    | er x e2 =>
      intro k Q
      exact sim_twoX ha hb s w ea eb k
    | ok d2 e2 =>
      show OutE K W σ F H A (match g d d2 with
        | some z => .ok z e2
        | none => .bad) _
      cases eg : g d d2 with
      | none => trivial
      | some z =>
        intro Q k
        refine sim_two ha hb s w ea eb fun v v2 H2 F2 A2 B1 B2 s2 r1 r2 w2 t2 => ?_
        refine hg F2 H2 v v2 d d2 z B1 B2 w2.dom r1 r2 eg Q fun u H3 F3 C x3 r3 o => ?_
        exact k u H3 F3 A2 C (x3.sls s2) r3 (o.wf x3 w2.left r3) ((t2.less fun _ => List.mem_append_left _).trans (o.step x3))
theorem sim_op1E {r : V → Hp → VK → Prop} {g : D → Option D} {ta : TE} (hg : OpV1 K r g) (ha : SimE K W ta na) : SimE K W (tUn r ta) (mE1 g na) := fun σ H F A e s w => by
  have qa := ha σ H F A e s w
  unfold mE1
  cases ea : na e with
  | bad => trivial
  | er x e1 =>
    rw [ea] at qa
    intro k Q
    exact qa k _
  | ok d e1 =>
    rw [ea] at qa
    show OutE K W σ F H A (match g d with
      | some z => .ok z e1
      | none => .bad) _
    cases eg : g d with
    | none => trivial
    | some z =>
      intro Q k
      refine qa _ fun v H1 F1 A1 B1 s1 r1 w1 t1 => ?_
      refine hg F1 H1 v d z B1 w1.dom r1 eg Q fun u H3 F3 C x3 r3 o => ?_
      exact k u H3 F3 A1 C (x3.sls s1) r3 (o.wf x3 w1.left r3) ((t1.less fun _ => List.mem_append_left _).trans (o.step x3))
theorem sb_op {op : Operator} {r : R2} {g : D → D → Option D} (ho : OpR X (binaryOp op) r) (hg : OpV2 X.K r g) (ha : SB X W a ma) (hb : SB X W b mb) : SB X W (.BinOp a op b pos) (mB2 g ma mb) :=
  let ⟨ta, pa, sa⟩ := ha; let ⟨tb, pb, sb⟩ := hb; ⟨_, pe_op ho pa pb, sim_op2 hg sa sb⟩
theorem se_op {op : Operator} {r : R2} {g : D → D → Option D} (ho : OpR X (binaryOp op) r) (hg : OpV2 X.K r g) (ha : SE X W a na) (hb : SE X W b nb) : SE X W (.BinOp a op b pos) (mE2 g na nb) :=
  let ⟨ta, pa, sa⟩ := ha; let ⟨tb, pb, sb⟩ := hb; ⟨_, pe_op ho pa pb, sim_op2E hg sa sb⟩
theorem sb_un {op : UnaryOp} {r : V → Hp → VK → Prop} {g : D → Option D} (ho : UnR X (unaryOp op) r) (hg : OpV1 X.K r g) (ha : SB X W a ma) : SB X W (.UnaryOp op a pos) (mB1 g ma) :=
  let ⟨ta, pa, sa⟩ := ha; ⟨_, pe_un ho pa, sim_op1 hg sa⟩
theorem se_un {op : UnaryOp} {r : V → Hp → VK → Prop} {g : D → Option D} (ho : UnR X (unaryOp op) r) (hg : OpV1 X.K r g) (ha : SE X W a na) : SE X W (.UnaryOp op a pos) (mE1 g na) :=
  let ⟨ta, pa, sa⟩ := ha; ⟨_, pe_un ho pa, sim_op1E hg sa⟩
theorem sb_cmp {op : CmpOp} {r : R2} {g : D → D → Option D} (ho : OpR X (compareOp op) r) (hg : OpV2 X.K r g) (ha : SB X W a ma) (hb : SB X W b mb) (hm : behindInMarks op b = false := by rfl) : SB X W (.Compare a [op] [b] pos) (mB2 g ma mb) :=
  let ⟨ta, pa, sa⟩ := ha; let ⟨tb, pb, sb⟩ := hb; ⟨_, pe_cmpR ho pa pb hm, sim_op2 hg sa sb⟩
theorem se_cmp {op : CmpOp} {r : R2} {g : D → D → Option D} (ho : OpR X (compareOp op) r) (hg : OpV2 X.K r g) (ha : SE X W a na) (hb : SE X W b nb) (hm : behindInMarks op b = false := by rfl) : SE X W (.Compare a [op] [b] pos) (mE2 g na nb) :=
  let ⟨ta, pa, sa⟩ := ha; let ⟨tb, pb, sb⟩ := hb; ⟨_, pe_cmpR ho pa pb hm, sim_op2E hg sa sb⟩

/-! ### tests -/
theorem out_tB {t : TE} {F : Addr → Prop} {H : Hp} {A : List Addr} {σ : St} {r : Re} (q : OutE K W σ F H A r (t σ H)) : OutT K W σ F H A r (tB t σ H) := by
  cases r with
  | bad => trivial
  | er x e => exact fun k Q => q k _
  | ok d e =>
    cases d with
    | bl b =>
      intro Q k
      refine q _ fun v H' F' A' B s r w st => ?_
      cases r with
      | bl => exact ⟨b, rfl, k H' F' A' s w.left (st.less fun _ => List.mem_append_left _)⟩
    | _ => trivial
theorem st_val (h : SE X W a na) (he : ∀ whole, isTrue a X.env whole = (do let v ← whole; standAt a.pos; holding [v] (truthy v)) := by intro _; rfl) : ST X W a na := let ⟨t, p, s⟩ := h; ⟨_, pt_val p he, fun σ H F A e sl w => out_tB (s σ H F A e sl w)⟩
/-- a comparison as a test -/
theorem st_cmp {op : CmpOp} {r : R2} {g : D → D → Option D} (ho : OpR X (compareOp op) r) (hg : OpV2 X.K r g) (ha : SE X W a na) (hb : SE X W b nb) (hm : behindInMarks op b = false := by rfl) : ST X W (.Compare a [op] [b] pos) (mE2 g na nb) :=
  let ⟨ta, pa, sa⟩ := ha; let ⟨tb, pb, sb⟩ := hb; ⟨_, pt_cmpR ho pa pb hm, fun σ H F A e sl w => out_tB (sim_op2E hg sa sb σ H F A e sl w)⟩
theorem st_cmpB {op : CmpOp} {r : R2} {g : D → D → Option D} (ho : OpR X (compareOp op) r) (hg : OpV2 X.K r g) (ha : SB X W a ma) (hb : SB X W b mb) (hm : behindInMarks op b = false := by rfl) : ST X W (.Compare a [op] [b] pos) (mCold (mB2 g ma mb)) :=
  let ⟨ta, pa, sa⟩ := ha; let ⟨tb, pb, sb⟩ := hb; ⟨_, pt_cmpR ho pa pb hm, fun σ H F A e sl w => out_tB ((sim_op2 hg sa sb).cold σ H F A e sl w)⟩
def mNot (m : ME) : ME := fun e => (m e).bind fun d e1 => match d with
  | .bl b => .ok (.bl (!b)) e1
  | _ => .bad
def mAnd (ma mb : ME) : ME := fun e => (ma e).bind fun d e1 => match d with
  | .bl true => mb e1
  | .bl false => .ok (.bl false) e1
  | _ => .bad
def mOr (ma mb : ME) : ME := fun e => (ma e).bind fun d e1 => match d with
  | .bl true => .ok (.bl true) e1
  | .bl false => mb e1
  | _ => .bad
theorem sim_not {tA : TT} (h : SimT K W tA na) : SimT K W (tNot tA) (mNot na) := fun σ H F A e s w => by
  have q := h σ H F A e s w
  unfold mNot
  cases ea : na e with
  | bad => trivial
  | er x e1 => rw [ea] at q; exact fun k Q => q k _
  | ok d e1 =>
    rw [ea] at q
    cases d with
    | bl b => exact fun Q k => q _ k
    | _ => trivial
theorem OutT.mono {F F1 : Addr → Prop} {H H1 : Hp} {A A1 : List Addr} {σ : St} {r : Re} {t : (Bool → Hp → Prop) → Prop} (st : Step F H A F1 H1 A1) (q : OutT K W σ F1 H1 A1 r t) : OutT K W σ F H A r t := by
  cases r with
  | bad => trivial
  | er x e => exact fun k Q => q (fun cls dx H' F' A' s w s2 r => k cls dx H' F' A' s w (st.trans s2) r) Q
  | ok d e =>
    cases d with
    | bl b => exact fun Q k => q Q fun H' F' A' s w s2 => k H' F' A' s w (st.trans s2)
    | _ => trivial
theorem OutE.mono {F F1 : Addr → Prop} {H H1 : Hp} {A A1 : List Addr} {σ : St} {r : Re} {t : VK → Prop} (st : Step F H A F1 H1 A1) (q : OutE K W σ F1 H1 A1 r t) : OutE K W σ F H A r t := by
  cases r with
  | bad => trivial
  | er x e => exact fun k Q => q (fun cls dx H' F' A' s w s2 r => k cls dx H' F' A' s w (st.trans s2) r) Q
  | ok d e => exact fun Q k => q Q fun v H' F' A' B s r w s2 => k v H' F' A' B s r w (st.trans s2)
/-- a test, then one of two -/
theorem sim_ifT {α : Type} {tA : TT} {F : Addr → Prop} {H : Hp} {A : List Addr} {σ : St} {e : Env} (h : SimT K W tA na) (s : Sls K F H σ e A) (w : Wf F H A) {yes no : Hp → Prop}
    (hok : ∀ b e1, na e = .ok (.bl b) e1 → ∀ H' F' A', Sls K F' H' σ e1 A' → Wf F' H' A' → Step F H A F' H' A' → if b = true then yes H' else no H')
    (her : ∀ x e1, na e = .er x e1 → ∀ cls dx H' F' A', Sls K F' H' σ e1 A' → Wf F' H' A' → Step F H A F' H' A' → Xr K F' H' x cls dx → W cls dx σ H')
    (hbad : na e ≠ .bad) (hnb : ∀ d e1, na e = .ok d e1 → ∃ b, d = .bl b) : tA σ H fun c H1 => if c = true then yes H1 else no H1 := by
  have q := h σ H F A e s w
  cases ea : na e with
  | bad => exact absurd ea hbad
  | er x e1 => rw [ea] at q; exact q (her x e1 ea) _
  | ok d e1 =>
    obtain ⟨b, rfl⟩ := hnb d e1 ea
    rw [ea] at q
    exact q _ fun H' F' A' s' w' st => hok b e1 ea H' F' A' s' w' st
theorem sim_andT {tA tB' : TT} (ha : SimT K W tA na) (hb : SimT K W tB' nb) : SimT K W (tAnd tA tB') (mAnd na nb) := fun σ H F A e s w => by
  have q := ha σ H F A e s w
  unfold mAnd
  cases ea : na e with
  | bad => trivial
  | er x e1 => rw [ea] at q; exact fun k Q => q k _
  | ok d e1 =>
    rw [ea] at q
    cases d with
    | bl b =>
      cases b with
      | true =>
        show OutT K W σ F H A (nb e1) _
        have z : ∀ H' F' A', Sls K F' H' σ e1 A' → Wf F' H' A' → Step F H A F' H' A' → OutT K W σ F H A (nb e1) (tB' σ H') := fun H' F' A' s' w' st => (hb σ H' F' A' e1 s' w').mono st
        cases eb : nb e1 with
        | bad => trivial
        | er x e2 =>
          intro k Q
          refine q _ fun H' F' A' s' w' st => ?_
          have z' := z H' F' A' s' w' st
          rw [eb] at z'
          exact iteT (z' k Q)
        | ok d2 e2 =>
          cases d2 with
          | bl b2 =>
            intro Q k
            refine q _ fun H' F' A' s' w' st => ?_
            have z' := z H' F' A' s' w' st
            rw [eb] at z'
            exact iteT (z' Q k)
          | _ => trivial
      | false => exact fun Q k => q _ fun H' F' A' s' w' st => iteF (k H' F' A' s' w' st)
    | _ => trivial
theorem sim_orT {tA tB' : TT} (ha : SimT K W tA na) (hb : SimT K W tB' nb) : SimT K W (tOr tA tB') (mOr na nb) := fun σ H F A e s w => by
  have q := ha σ H F A e s w
  unfold mOr
  cases ea : na e with
  | bad => trivial
  | er x e1 => rw [ea] at q; exact fun k Q => q k _
  | ok d e1 =>
    rw [ea] at q
    cases d with
    | bl b =>
      cases b with
      | false =>
        show OutT K W σ F H A (nb e1) _
        have z : ∀ H' F' A', Sls K F' H' σ e1 A' → Wf F' H' A' → Step F H A F' H' A' → OutT K W σ F H A (nb e1) (tB' σ H') := fun H' F' A' s' w' st => (hb σ H' F' A' e1 s' w').mono st
        cases eb : nb e1 with
        | bad => trivial
        | er x e2 =>
          intro k Q
          refine q _ fun H' F' A' s' w' st => ?_
          have z' := z H' F' A' s' w' st
          rw [eb] at z'
          exact iteF (z' k Q)
        | ok d2 e2 =>
          cases d2 with
          | bl b2 =>
            intro Q k
            refine q _ fun H' F' A' s' w' st => ?_
            have z' := z H' F' A' s' w' st
            rw [eb] at z'
            exact iteF (z' Q k)
          | _ => trivial
      | true => exact fun Q k => q _ fun H' F' A' s' w' st => iteT (k H' F' A' s' w' st)
    | _ => trivial
theorem st_not (h : ST X W a na) : ST X W (.UnaryOp .Not a pos) (mNot na) := let ⟨t, p, s⟩ := h; ⟨_, pt_not p, sim_not s⟩
theorem sw_and1 (h : ST X W a na) : SW X W (.BoolOp .And [a] pos) na := let ⟨t, p, s⟩ := h; ⟨_, pw_and1 p, s⟩
theorem sw_or1 (h : ST X W a na) : SW X W (.BoolOp .Or [a] pos) na := let ⟨t, p, s⟩ := h; ⟨_, pw_or1 p, s⟩
theorem sw_and {rest : List Expr} (ha : ST X W a na) (hb : SW X W (.BoolOp .And (b :: rest) pos) nb) : SW X W (.BoolOp .And (a :: b :: rest) pos) (mAnd na nb) :=
  let ⟨ta, pa, sa⟩ := ha; let ⟨tb, pb, sb⟩ := hb; ⟨_, pw_and pa pb, sim_andT sa sb⟩
theorem sw_or {rest : List Expr} (ha : ST X W a na) (hb : SW X W (.BoolOp .Or (b :: rest) pos) nb) : SW X W (.BoolOp .Or (a :: b :: rest) pos) (mOr na nb) :=
  let ⟨ta, pa, sa⟩ := ha; let ⟨tb, pb, sb⟩ := hb; ⟨_, pw_or pa pb, sim_orT sa sb⟩
theorem SW.st (h : SW X W a na) : ST X W a na := let ⟨t, p, s⟩ := h; ⟨t, p.pt, s⟩

/-! ### and, or, not as values -/
theorem out_bl {F : Addr → Prop} {H : Hp} {A : List Addr} {σ : St} {r : Re} {t : VK → Prop} (q : OutE K W σ F H A r t) : OutT K W σ F H A r (fun Q => t fun x H1 => ∃ c, x = .bl c ∧ Q c H1) := by
  cases r with
  | bad => trivial
  | er x e => exact fun k Q => q k _
  | ok d e =>
    cases d with
    | bl b =>
      intro Q k
      refine q _ fun v H' F' A' B s r w st => ?_
      cases r with
      | bl => exact ⟨b, rfl, k H' F' A' s w.left (st.less fun _ => List.mem_append_left _)⟩
    | _ => trivial
theorem sim_notV {ta : TE} (h : SimE K W ta na) : SimE K W (tNotV ta) (mNot na) := fun σ H F A e s w => by
  have q := out_bl (h σ H F A e s w)
  unfold mNot
  cases ea : na e with
  | bad => trivial
  | er x e1 =>
    have q0 := h σ H F A e s w
    rw [ea] at q0; exact fun k Q => q0 k _
  | ok d e1 =>
    rw [ea] at q
    cases d with
    | bl b => exact fun Q k => q _ fun H' F' A' s w st => k _ H' F' A' [] s (.bl _) (by simpa using w) (by simpa using st)
    | _ => trivial
theorem sim_andV {ta tb : TE} (ha : SimE K W ta na) (hb : SimE K W tb nb) : SimE K W (tAndV ta tb) (mAnd na nb) := fun σ H F A e s w => by
  have q := out_bl (ha σ H F A e s w)
  unfold mAnd
  cases ea : na e with
  | bad => trivial
  | er x e1 =>
    have q0 := ha σ H F A e s w
    rw [ea] at q0; exact fun k Q => q0 k _
  | ok d e1 =>
    rw [ea] at q
    cases d with
    | bl b =>
      cases b with
      | true =>
        show OutE K W σ F H A (nb e1) _
        have z : ∀ H' F' A', Sls K F' H' σ e1 A' → Wf F' H' A' → Step F H A F' H' A' → OutE K W σ F H A (nb e1) (tb σ H') := fun H' F' A' s' w' st => (hb σ H' F' A' e1 s' w').mono st
        cases eb : nb e1 with
        | bad => trivial
        | er x e2 =>
          intro k Q
          refine q _ fun H' F' A' s' w' st => ?_
          have z' := z H' F' A' s' w' st
          rw [eb] at z'
          exact iteT (z' k Q)
        | ok d2 e2 =>
          intro Q k
          refine q _ fun H' F' A' s' w' st => ?_
          have z' := z H' F' A' s' w' st
          rw [eb] at z'
          exact iteT (z' Q k)
      | false => exact fun Q k => q _ fun H' F' A' s' w' st => iteF (k _ H' F' A' [] s' (.bl _) (by simpa using w') (by simpa using st))
    | _ => trivial
theorem sim_orV {ta tb : TE} (ha : SimE K W ta na) (hb : SimE K W tb nb) : SimE K W (tOrV ta tb) (mOr na nb) := fun σ H F A e s w => by
  have q := out_bl (ha σ H F A e s w)
  unfold mOr
  cases ea : na e with
  | bad => trivial
  | er x e1 =>
    have q0 := ha σ H F A e s w
    rw [ea] at q0; exact fun k Q => q0 k _
  | ok d e1 =>
    rw [ea] at q
    cases d with
    | bl b =>
      cases b with
      | false =>
        show OutE K W σ F H A (nb e1) _
        have z : ∀ H' F' A', Sls K F' H' σ e1 A' → Wf F' H' A' → Step F H A F' H' A' → OutE K W σ F H A (nb e1) (tb σ H') := fun H' F' A' s' w' st => (hb σ H' F' A' e1 s' w').mono st
        cases eb : nb e1 with
        | bad => trivial
        | er x e2 =>
          intro k Q
          refine q _ fun H' F' A' s' w' st => ?_
          have z' := z H' F' A' s' w' st
          rw [eb] at z'
          exact iteF (z' k Q)
        | ok d2 e2 =>
          intro Q k
          refine q _ fun H' F' A' s' w' st => ?_
          have z' := z H' F' A' s' w' st
          rw [eb] at z'
          exact iteF (z' Q k)
      | true => exact fun Q k => q _ fun H' F' A' s' w' st => iteT (k _ H' F' A' [] s' (.bl _) (by simpa using w') (by simpa using st))
    | _ => trivial
theorem se_not (h : SE X W a na) : SE X W (.UnaryOp .Not a pos) (mNot na) := let ⟨t, p, s⟩ := h; ⟨_, pe_not p, sim_notV s⟩
theorem se_one {op} (h : SE X W a na) : SE X W (.BoolOp op [a] pos) na := let ⟨t, p, s⟩ := h; ⟨_, pe_one p, s⟩
theorem se_and {rest : List Expr} (ha : SE X W a na) (hb : SE X W (.BoolOp .And (b :: rest) pos) nb) : SE X W (.BoolOp .And (a :: b :: rest) pos) (mAnd na nb) :=
  let ⟨ta, pa, sa⟩ := ha; let ⟨tb, pb, sb⟩ := hb; ⟨_, pe_and pa pb, sim_andV sa sb⟩
theorem se_or {rest : List Expr} (ha : SE X W a na) (hb : SE X W (.BoolOp .Or (b :: rest) pos) nb) : SE X W (.BoolOp .Or (a :: b :: rest) pos) (mOr na nb) :=
  let ⟨ta, pa, sa⟩ := ha; let ⟨tb, pb, sb⟩ := hb; ⟨_, pe_or pa pb, sim_orV sa sb⟩
/-- a if c else b -/
def mIf (mc ma mb : ME) : ME := fun e => (mc e).bind fun d e1 => match d with
  | .bl true => ma e1
  | .bl false => mb e1
  | _ => .bad
theorem sim_if {tc : TT} {ta tb : TE} (hc : SimT K W tc nc) (ha : SimE K W ta na) (hb : SimE K W tb nb) : SimE K W (tIf tc ta tb) (mIf nc na nb) := fun σ H F A e s w => by
  have q := hc σ H F A e s w
  unfold mIf
  cases ec : nc e with
  | bad => trivial
  | er x e1 => rw [ec] at q; exact fun k Q => q k _
  | ok d e1 =>
    rw [ec] at q
    cases d with
    | bl b =>
      cases b with
      | true =>
        show OutE K W σ F H A (na e1) _
        have z : ∀ H' F' A', Sls K F' H' σ e1 A' → Wf F' H' A' → Step F H A F' H' A' → OutE K W σ F H A (na e1) (ta σ H') := fun H' F' A' s' w' st => (ha σ H' F' A' e1 s' w').mono st
        cases eb : na e1 with
        | bad => trivial
        | er x e2 =>
          intro k Q
          refine q _ fun H' F' A' s' w' st => ?_
          have z' := z H' F' A' s' w' st
          rw [eb] at z'
          exact iteT (z' k Q)
        | ok d2 e2 =>
          intro Q k
          refine q _ fun H' F' A' s' w' st => ?_
          have z' := z H' F' A' s' w' st
          rw [eb] at z'
          exact iteT (z' Q k)
      | false =>
        show OutE K W σ F H A (nb e1) _
        have z : ∀ H' F' A', Sls K F' H' σ e1 A' → Wf F' H' A' → Step F H A F' H' A' → OutE K W σ F H A (nb e1) (tb σ H') := fun H' F' A' s' w' st => (hb σ H' F' A' e1 s' w').mono st
        cases eb : nb e1 with
        | bad => trivial
        | er x e2 =>
          intro k Q
          refine q _ fun H' F' A' s' w' st => ?_
          have z' := z H' F' A' s' w' st
          rw [eb] at z'
          exact iteF (z' k Q)
        | ok d2 e2 =>
          intro Q k
          refine q _ fun H' F' A' s' w' st => ?_
          have z' := z H' F' A' s' w' st
          rw [eb] at z'
          exact iteF (z' Q k)
    | _ => trivial
theorem se_if (hc : ST X W c nc) (ha : SE X W a na) (hb : SE X W b nb) : SE X W (.IfExp c a b pos) (mIf nc na nb) :=
  let ⟨tc, pc, sc⟩ := hc; let ⟨ta, pa, sa⟩ := ha; let ⟨tb, pb, sb⟩ := hb; ⟨_, pe_ifExp pc pa pb, sim_if sc sa sb⟩
end
end G
set_option Elab.async false
set_option linter.all false
set_option maxRecDepth 100000
set_option maxHeartbeats 4000000
namespace G
open PySem L2

/-! ### looking into data -/
section
variable {K : Frag} {F F' : Addr → Prop} {H H' : Hp} {v : V} {B : List Addr}
theorem KL.sq {a : Addr} {xs : List V} (h : KL K a xs) : SqL K H a xs := .inr h
theorem Rp.seqL {o : Bool} {ds : List D} (r : Rp K F H v (.lst o ds) B) : ∃ a vs C, v = .ref a ∧ SqL K H a vs ∧ Rps K F H vs ds C ∧ (∀ x ∈ C, x ∈ B) := by
  cases r with
  | lstF f h r => exact ⟨_, _, _, rfl, .inl h, r, fun _ z => z⟩
  | lstK h r => exact ⟨_, _, _, rfl, h.sq, r, fun _ z => z⟩
  | lstO h r => exact ⟨_, _, _, rfl, .inl (.inl h), r, fun _ z => List.mem_cons_of_mem _ z⟩
theorem Rp.seqT {ds : List D} (r : Rp K F H v (.tup ds) B) : ∃ a vs, v = .ref a ∧ SqT K H a vs ∧ Rps K F H vs ds [] ∧ B = [] := by
  cases r with
  | tup h r => exact ⟨_, _, rfl, h, r, rfl⟩
theorem Rp.dic {o : Bool} {ds : List (Key × D)} (r : Rp K F H v (.dct o ds) B) : ∃ a vs C, v = .ref a ∧ Rd H a (.dK vs) ∧ vs.map (·.1) = ds.map (·.1) ∧ Rps K F H (vs.map (·.2)) (ds.map (·.2)) C ∧ (∀ x ∈ C, x ∈ B) := by
  cases r with
  | dctF f h e r => exact ⟨_, _, _, rfl, h, e, r, fun _ z => z⟩
  | dctO h e r => exact ⟨_, _, _, rfl, .inl h, e, r, fun _ z => List.mem_cons_of_mem _ z⟩
theorem Rp.inst {o : Bool} {C : Addr} {ds : List (Str × D)} (r : Rp K F H v (.ins o C ds) B) : ∃ a dx vs A, v = .ref a ∧ H a = some (.ins C dx vs) ∧ vs.map (·.1) = ds.map (·.1) ∧ Rps K F H (vs.map (·.2)) (ds.map (·.2)) A ∧ (∀ x ∈ A, x ∈ B) := by
  cases r with
  | insF f h e r => exact ⟨_, _, _, _, rfl, h, e, r, fun _ z => z⟩
  | insO h e r => exact ⟨_, _, _, _, rfl, h, e, r, fun _ z => List.mem_cons_of_mem _ z⟩
theorem Rp.isInt {i : Int} (r : Rp K F H v (.int i) B) : v = .int i ∧ B = [] := by cases r; exact ⟨rfl, rfl⟩
theorem Rp.isBl {i : Bool} (r : Rp K F H v (.bl i) B) : v = .bl i ∧ B = [] := by cases r; exact ⟨rfl, rfl⟩
theorem Rp.isStr {i : Str} (r : Rp K F H v (.str i) B) : v = .str i ∧ B = [] := by cases r; exact ⟨rfl, rfl⟩
theorem Rp.isNon (r : Rp K F H v .non B) : v = .non ∧ B = [] := by cases r; exact ⟨rfl, rfl⟩
end
def look (kvs : List (Key × D)) (k : Key) : Option D := (kvs.find? fun kv => decide (kv.1 = k)).map (·.2)
section
variable {K : Frag} {F F' : Addr → Prop} {H H' : Hp} {v : V} {B : List Addr}
theorem look_some : ∀ {ds : List (Key × D)} {vs : List (Key × V)} {B : List Addr} {k : Key} {d : D}, vs.map (·.1) = ds.map (·.1) → Rps K F H (vs.map (·.2)) (ds.map (·.2)) B → look ds k = some d → ∃ v C, valV vs k = some v ∧ Rp K F H v d C ∧ ∀ x ∈ C, x ∈ B
  | [], vs, B, k, d, e, r, h => by simp [look] at h
  | (k1, d1) :: ds, [], B, k, d, e, r, h => by simp at e
  | (k1, d1) :: ds, (k2, v2) :: vs, B, k, d, e, r, h => by
    simp only [List.map_cons, List.cons.injEq] at e r
    obtain ⟨e1, e2⟩ := e
    cases r with
    | cons a b c =>
      by_cases hk : k1 = k
      · have q : d1 = d := by simpa [look, hk] using h
        subst q
        exact ⟨v2, _, valV_pos (e1.trans hk), a, fun x z => by rw [c]; exact List.mem_append_left _ z⟩
      · obtain ⟨v, C, h1, h2, h3⟩ := look_some (k := k) (d := d) e2 b (by simpa [look, hk] using h)
        exact ⟨v, C, by rw [valV_neg (fun z => hk (e1.symm.trans z))]; exact h1, h2, fun x z => by rw [c]; exact List.mem_append_right _ (h3 x z)⟩
theorem look_none : ∀ {ds : List (Key × D)} {vs : List (Key × V)} {k : Key}, vs.map (·.1) = ds.map (·.1) → look ds k = none → valV vs k = none
  | [], [], k, e, h => rfl
  | [], _ :: _, k, e, h => by simp at e
  | (k1, d1) :: ds, [], k, e, h => by simp at e
  | (k1, d1) :: ds, (k2, v2) :: vs, k, e, h => by
    simp only [List.map_cons, List.cons.injEq] at e
    by_cases hk : k1 = k
    · simp [look, hk] at h
    · rw [valV_neg (fun z => hk (e.1.symm.trans z))]
      exact look_none (k := k) e.2 (by simpa [look, hk] using h)
theorem look_isSome {ds : List (Key × D)} {vs : List (Key × V)} {B : List Addr} {k : Key} (e : vs.map (·.1) = ds.map (·.1)) (r : Rps K F H (vs.map (·.2)) (ds.map (·.2)) B) : (valV vs k).isSome = (look ds k).isSome := by
  cases h : look ds k with
  | none => rw [look_none e h]; rfl
  | some d =>
    obtain ⟨v, C, h1, _⟩ := look_some e r h
    rw [h1]; rfl
theorem lookF_some : ∀ {ds : List (Str × D)} {vs : List (Str × V)} {B : List Addr} {k : Str} {d : D}, vs.map (·.1) = ds.map (·.1) → Rps K F H (vs.map (·.2)) (ds.map (·.2)) B → ds.lookup k = some d → ∃ v C, vs.lookup k = some v ∧ Rp K F H v d C ∧ ∀ x ∈ C, x ∈ B
  | [], vs, B, k, d, e, r, h => by simp at h
  | (k1, d1) :: ds, [], B, k, d, e, r, h => by simp at e
  | (k1, d1) :: ds, (k2, v2) :: vs, B, k, d, e, r, h => by
    simp only [List.map_cons, List.cons.injEq] at e r
    obtain ⟨e1, e2⟩ := e
    have e1' : k2 = k1 := e1
    subst e1'
    cases r with
    | cons a b c =>
      rw [List.lookup_cons] at h
      rw [List.lookup_cons]
      cases hk : (k == k2) with
      | true =>
        rw [hk] at h
        have q : d1 = d := Option.some.inj h
        subst q
        exact ⟨v2, _, rfl, a, fun x z => by rw [c]; exact List.mem_append_left _ z⟩
      | false =>
        rw [hk] at h
        obtain ⟨v, C, h1, h2, h3⟩ := lookF_some (k := k) (d := d) e2 b h
        exact ⟨v, C, h1, h2, fun x z => by rw [c]; exact List.mem_append_right _ (h3 x z)⟩
theorem atI_some {vs : List V} {ds : List D} {i : Int} {d : D} (r : Rps K F H vs ds B) (h : atI ds i = some d) : ∃ v C, atI vs i = some v ∧ Rp K F H v d C ∧ ∀ x ∈ C, x ∈ B := by
  unfold atI at h ⊢
  rw [r.length]
  cases e : ixN ds.length i with
  | none => rw [e] at h; cases h
  | some j =>
    rw [e] at h
    exact r.get (i := j) h
end
def keyOf : D → Option Key
  | .int i => some (.inl i)
  | .str x => some (.inr x)
  | _ => none
theorem keyOf_v {K : Frag} {F : Addr → Prop} {H : Hp} {v : V} {d : D} {B : List Addr} {k : Key} (r : Rp K F H v d B) (h : keyOf d = some k) : v = kV k := by
  cases r <;> simp [keyOf] at h <;> subst h <;> rfl
def ixD : D → D → Option D
  | .lst _ ds, .int i => atI ds i
  | .tup ds, .int i => atI ds i
  | .str x, .int i => if x.length ≤ sizeLine then (atI x.cps.toList i).map fun c => .str ⟨#[c]⟩ else none
  | .dct _ kvs, k => (keyOf k).bind fun k => look kvs k
  | _, _ => none
section
variable {X : Cx} {W : WX} {a b c o : Expr} {es : List Expr} {ma mb mc : MB} {na nb nc : ME} {pos : Pos} {K : Frag}
theorem PE.or {e : Expr} {t u : TE} (h1 : PE X e t) (h2 : PE X e u) : PE X e (fun σ H Q => t σ H Q ∨ u σ H Q) := ⟨fun pins s σ H Q I h => h.elim (h1.run pins s σ H Q I) (h2.run pins s σ H Q I)⟩
def rIxA (K : Frag) : R2 := fun x y H Q => rIx K x y H Q ∨ ∃ a v, x = .ref a ∧ DGet H a y (some v) ∧ Q v H
/-- a subscript -/
theorem ix_val {F : Addr → Prop} {H : Hp} {v w : V} {d e z : D} {A B : List Addr} (r1 : Rp K F H v d A) (r2 : Rp K F H w e B) (h : ixD d e = some z) : ∃ u C, Rp K F H u z C ∧ (∀ x ∈ C, x ∈ A) ∧ ∀ Q : VK, Q u H → (match d with
    | .dct _ _ => ∃ a v', v = .ref a ∧ DGet H a w (some v') ∧ Q v' H
    | _ => rIx K v w H Q) := by
  cases d with
  | lst o ds =>
    cases e with
    | int i =>
      obtain ⟨a, vs, C, rfl, q, r, hC⟩ := r1.seqL
      obtain ⟨rfl, _⟩ := r2.isInt
      obtain ⟨u, C', h1, h2, h3⟩ := atI_some r h
      exact ⟨u, C', h2, fun x z => hC x (h3 x z), fun Q k => .inl ⟨a, vs, i, u, rfl, rfl, q, h1, k⟩⟩
    | _ => simp [ixD] at h
  | tup ds =>
    cases e with
    | int i =>
      obtain ⟨a, vs, rfl, q, r, rfl⟩ := r1.seqT
      obtain ⟨rfl, _⟩ := r2.isInt
      obtain ⟨u, C', h1, h2, h3⟩ := atI_some r h
      exact ⟨u, C', h2, fun x z => h3 x z, fun Q k => .inr (.inl ⟨a, vs, i, u, rfl, rfl, q, h1, k⟩)⟩
    | _ => simp [ixD] at h
  | str x =>
    cases e with
    | int i =>
      obtain ⟨rfl, _⟩ := r1.isStr
      obtain ⟨rfl, _⟩ := r2.isInt
      simp only [ixD] at h
      split at h
      · rename_i hz
        cases ec : atI x.cps.toList i with
        | none => rw [ec] at h; cases h
        | some c =>
          rw [ec] at h
          have q := Option.some.inj h
          subst q
          exact ⟨_, [], .str _, fun _ z => (nomatch z), fun Q k => .inr (.inr ⟨x, i, c, rfl, rfl, hz, ec, k⟩)⟩
      · cases h
    | _ => simp [ixD] at h
  | dct o kvs =>
    obtain ⟨a, vs, C, rfl, q, e1, r, hC⟩ := r1.dic
    simp only [ixD] at h
    cases ek : keyOf e with
    | none => rw [ek] at h; cases h
    | some k =>
      rw [ek] at h
      obtain ⟨u, C', h1, h2, h3⟩ := look_some e1 r h
      have ew := keyOf_v r2 ek
      subst ew
      exact ⟨u, C', h2, fun x z => hC x (h3 x z), fun Q kk => ⟨a, u, rfl, .inl ⟨vs, k, q, rfl, h1.symm⟩, kk⟩⟩
  | _ => simp [ixD] at h
theorem sb_ix (hu : X.A.units + 1 < cLine) (ha : SB X W a ma) (hb : SB X W b mb) (hs : PlainIx b := by exact fun _ _ => rfl) : SB X W (.Subscript a b pos) (mB2 ixD ma mb) := by
  obtain ⟨ta, pa, sa⟩ := ha
  obtain ⟨tb, pb, sb⟩ := hb
  refine ⟨_, PE.or (pe_ix ix_seq pa pb hs) (pe_dget hu pa pb hs), fun σ H F A e s w => ?_⟩
  have qa := sa σ H F A e s w
  unfold mB2
  cases ea : ma e with
  | bad => trivial
  | er x =>
    rw [ea] at qa
    intro k Q
    exact .inl (qa k _)
  | ok d =>
    rw [ea] at qa
    show OutB X.K W σ F H ((mb e).bind fun d' => ofO (ixD d d')) _
    cases eb : mb e with
    | bad => trivial
    | er x =>
      intro k Q
      refine .inl (qa _ fun v H1 F1 B1 x1 r1 => ?_)
      have qb := sb σ H1 F1 A e (x1.sls s) (x1.wf w)
      rw [eb] at qb
      exact qb (fun cls dx H' F' x' r => k cls dx H' F' (x1.trans x') r) _
    | ok d2 =>
      show OutB X.K W σ F H (ofO (ixD d d2)) _
      cases eg : ixD d d2 with
      | none => trivial
      | some z =>
        intro Q k
        have go : ∀ {R : V → V → Hp → Prop}, (∀ v v2 H2 F2 B1 B2, Ext F H F2 H2 → Rp X.K F2 H2 v d B1 → Rp X.K F2 H2 v2 d2 B2 → R v v2 H2) → ta σ H fun x H1 => tb σ H1 fun y H2 => R x y H2 := fun {R} kk => by
          refine qa _ fun v H1 F1 B1 x1 r1 => ?_
          have qb := sb σ H1 F1 A e (x1.sls s) (x1.wf w)
          rw [eb] at qb
          exact qb _ fun v2 H2 F2 B2 x2 r2 => kk v v2 H2 F2 B1 B2 (x1.trans x2) (x2.rp r1) r2
        by_cases hd : ∃ o kvs, d = .dct o kvs
        · obtain ⟨o, kvs, rfl⟩ := hd
          refine .inr (go fun v v2 H2 F2 B1 B2 x r1 r2 => ?_)
          obtain ⟨u, C, h1, _, h2⟩ := ix_val r1 r2 eg
          exact h2 Q (k u H2 F2 C x h1)
        · refine .inl (go fun v v2 H2 F2 B1 B2 x r1 r2 => ?_)
          obtain ⟨u, C, h1, _, h2⟩ := ix_val r1 r2 eg
          have z := h2 Q (k u H2 F2 C x h1)
          cases d <;> first | exact z | exact absurd ⟨_, _, rfl⟩ hd
/-- an attribute -/
def fldD (Cs : List Addr) (f : Str) : D → Option D
  | .ins _ C fs => if C ∈ Cs then fs.lookup f else none
  | _ => none
theorem sb_fld {Cs : List Addr} {f : Str} (hC : ∀ C ∈ Cs, Cls X.K C ∧ NoAttr X.K C f) (ha : SB X W a ma) (hb : attributeBase a f X.env (eval a X.env) = eval a X.env := by rfl) : SB X W (.Attribute a f pos) (mB1 (fldD Cs f) ma) := by
  obtain ⟨ta, pa, sa⟩ := ha
  refine ⟨_, pe_fld pa hb, fun σ H F A e s w => ?_⟩
  have qa := sa σ H F A e s w
  unfold mB1
  cases ea : ma e with
  | bad => trivial
  | er x =>
    rw [ea] at qa
    intro k Q
    exact qa k _
  | ok d =>
    rw [ea] at qa
    show OutB X.K W σ F H (ofO (fldD Cs f d)) _
    cases eg : fldD Cs f d with
    | none => trivial
    | some z =>
      intro Q k
      refine qa _ fun v H1 F1 B1 x1 r1 => ?_
      cases d with
      | ins o C fs =>
        simp only [fldD] at eg
        split at eg
        · rename_i hm
          obtain ⟨p, dx, vs, A', rfl, hp, e1, r, hA⟩ := r1.inst
          obtain ⟨u, C', h1, h2, h3⟩ := lookF_some e1 r eg
          exact ⟨p, C, dx, vs, u, rfl, hp, (hC C hm).1, (hC C hm).2, h1, k u H1 F1 C' x1 h2⟩
        · cases eg
      | _ => simp [fldD] at eg

/-! ### arguments -/
def mNil : ML := fun _ => .ok []
def mCons (ma : MB) (mr : ML) : ML := fun e => match ma e with
  | .ok d => (match mr e with
    | .ok ds => .ok (d :: ds)
    | .er x => .er x
    | .bad => .bad)
  | .er x => .er x
  | .bad => .bad
theorem sl_nil : SL X W [] mNil := ⟨_, pa_nil, fun σ H F A e s w Q k => k [] H F [] (.refl w.dom) .nil⟩
theorem sl_cons {mr : ML} (ha : SB X W a ma) (hr : SL X W es mr) (hs : starEach (a :: es) X.env = (false, eval a X.env) :: starEach es X.env := by rfl) : SL X W (a :: es) (mCons ma mr) := by
  obtain ⟨ta, pa, sa⟩ := ha
  obtain ⟨tr, pr, sr⟩ := hr
  refine ⟨_, pa_cons pa pr hs, fun σ H F A e s w => ?_⟩
  have qa := sa σ H F A e s w
  unfold mCons
  cases ea : ma e with
  | bad => trivial
  | er x => rw [ea] at qa; exact fun k Q => qa k _
  | ok d =>
    rw [ea] at qa
    cases er : mr e with
    | bad => trivial
    | er x =>
      intro k Q
      refine qa _ fun v H1 F1 B1 x1 r1 => ?_
      have qb := sr σ H1 F1 A e (x1.sls s) (x1.wf w)
      rw [er] at qb
      exact qb (fun cls dx H' F' x' r => k cls dx H' F' (x1.trans x') r) _
    | ok ds =>
      intro Q k
      refine qa _ fun v H1 F1 B1 x1 r1 => ?_
      have qb := sr σ H1 F1 A e (x1.sls s) (x1.wf w)
      rw [er] at qb
      exact qb _ fun vs H2 F2 B2 x2 r2 => k (v :: vs) H2 F2 (B1 ++ B2) (x1.trans x2) (.cons (x2.rp r1) r2 rfl)
def nNil : MA := fun e => .ok [] e
def nCons (ma : ME) (mr : MA) : MA := fun e => match ma e with
  | .ok d e1 => (match mr e1 with
    | .ok ds e2 => .ok (d :: ds) e2
    | .er x e2 => .er x e2
    | .bad => .bad)
  | .er x e1 => .er x e1
  | .bad => .bad
theorem sa_nil : SA X W [] nNil := ⟨_, pa_nil, fun σ H F A e s w Q k => k [] H F A [] s .nil (by simpa using w) (by simpa using Step.refl)⟩
theorem sa_cons {mr : MA} (ha : SE X W a na) (hr : SA X W es mr) (hs : starEach (a :: es) X.env = (false, eval a X.env) :: starEach es X.env := by rfl) : SA X W (a :: es) (nCons na mr) := by
  obtain ⟨ta, pa, sa⟩ := ha
  obtain ⟨tr, pr, sr⟩ := hr
  refine ⟨_, pa_cons pa pr hs, fun σ H F A e s w => ?_⟩
  have qa := sa σ H F A e s w
  unfold nCons
  cases ea : na e with
  | bad => trivial
  | er x e1 => rw [ea] at qa; exact fun k Q => qa k _
  | ok d e1 =>
    rw [ea] at qa
    show OutA X.K W σ F H A (match mr e1 with
    | .ok ds e2 => .ok (d :: ds) e2
    | .er x e2 => .er x e2
    | .bad => .bad) _
    cases er : mr e1 with
    | bad => trivial
    | er x e2 =>
      intro k Q
      refine qa _ fun v H1 F1 A1 B1 s1 r1 w1 t1 => ?_
      have qb := sr σ H1 F1 A1 e1 s1 w1.left
      rw [er] at qb
      exact qb (fun cls dx H' F' A' s' w' t' r => k cls dx H' F' A' s' w' ((t1.less fun _ => List.mem_append_left _).trans t') r) _
    | ok ds e2 =>
      intro Q k
      refine qa _ fun v H1 F1 A1 B1 s1 r1 w1 t1 => ?_
      have qb := sr σ H1 F1 A1 e1 s1 w1.left
      rw [er] at qb
      refine qb _ fun vs H2 F2 A2 B2 s2 r2 w2 t2 => ?_
      obtain ⟨w3, t3⟩ := t2.beside w1 w2
      have p : (A2 ++ B2 ++ B1).Perm (A2 ++ (B1 ++ B2)) := by
        rw [List.append_assoc]; exact List.Perm.append_left _ List.perm_append_comm
      exact k (v :: vs) H2 F2 A2 (B1 ++ B2) s2 (.cons (r1.to t2.mono (t2.pres w1.left fun a h z => w1.apart a z h)) r2 rfl) (w3.perm p) ((t1.trans t3).mem (fun _ => Iff.rfl) fun a => p.mem_iff)

/-! ### displays -/
def mTup (m : ML) : MB := fun e => match m e with
  | .ok ds => if colds ds = true then (if ds.length ≤ sizeLine then .ok (.tup ds) else .bad) else .bad
  | .er x => .er x
  | .bad => .bad
def mLst (m : ML) : MB := fun e => match m e with
  | .ok ds => if colds ds = true then (if ds.length ≤ sizeLine then .ok (.lst true ds) else .bad) else .bad
  | .er x => .er x
  | .bad => .bad
theorem upd_rps {K : Frag} {F : Addr → Prop} {H : Hp} {p : Addr} {u : HO} {vs : List V} {ds : List D} {B : List Addr} (hp : H p = none) (r : Rps K F H vs ds B) : Rps K F (upd H p u) vs ds B :=
  r.to (fun _ h => h) fun a o e _ => by rw [upd_ne (ne_of_none e hp)]; exact e
theorem sb_tup {k} {m : ML} (h : SL X W es m) : SB X W (.Tuple es k pos) (mTup m) := by
  obtain ⟨t, pt, st⟩ := h
  refine ⟨_, pe_tup pt, fun σ H F A e s w => ?_⟩
  have q := st σ H F A e s w
  unfold mTup
  cases em : m e with
  | bad => trivial
  | er x => rw [em] at q; exact fun k Q => q k _
  | ok ds =>
    rw [em] at q
    show OutB X.K W σ F H (if colds ds = true then (if ds.length ≤ sizeLine then .ok (.tup ds) else .bad) else .bad) _
    by_cases hc : colds ds = true
    · by_cases hl : ds.length ≤ sizeLine
      · rw [if_pos hc, if_pos hl]
        intro Q k
        refine q _ fun vs H1 F1 B x1 r1 => ?_
        have eB := r1.cold hc
        subst eB
        exact ⟨by rw [r1.length]; exact hl, fun p hp => k (.ref p) _ F1 [] (x1.trans (.laid hp x1.dom)) (.tup (SqT.of upd_same) (upd_rps hp r1))⟩
      · rw [if_pos hc, if_neg hl]; trivial
    · rw [if_neg hc]; trivial
theorem sb_lst {m : ML} (h : SL X W es m) : SB X W (.List es pos) (mLst m) := by
  obtain ⟨t, pt, st⟩ := h
  refine ⟨_, pe_lst pt, fun σ H F A e s w => ?_⟩
  have q := st σ H F A e s w
  unfold mLst
  cases em : m e with
  | bad => trivial
  | er x => rw [em] at q; exact fun k Q => q k _
  | ok ds =>
    rw [em] at q
    show OutB X.K W σ F H (if colds ds = true then (if ds.length ≤ sizeLine then .ok (.lst true ds) else .bad) else .bad) _
    by_cases hc : colds ds = true
    · by_cases hl : ds.length ≤ sizeLine
      · rw [if_pos hc, if_pos hl]
        intro Q k
        refine q _ fun vs H1 F1 B x1 r1 => ?_
        have eB := r1.cold hc
        subst eB
        exact ⟨by rw [r1.length]; exact hl, fun p hp => k (.ref p) _ F1 [p] (x1.trans (.laid hp x1.dom)) (.lstO upd_same (upd_rps hp r1))⟩
      · rw [if_pos hc, if_neg hl]; trivial
    · rw [if_neg hc]; trivial
def nTup (m : MA) : ME := fun e => match m e with
  | .ok ds e1 => if ds.length ≤ sizeLine then .ok (.tup (frzs ds)) e1 else .bad
  | .er x e1 => .er x e1
  | .bad => .bad
def nLst (m : MA) : ME := fun e => match m e with
  | .ok ds e1 => if ds.length ≤ sizeLine then .ok (.lst true ds) e1 else .bad
  | .er x e1 => .er x e1
  | .bad => .bad
/-- owned things are frozen -/
theorem freeze {F F' : Addr → Prop} {H : Hp} {A B : List Addr} (w : Wf F H (A ++ B)) : Wf (fun a => F a ∨ a ∈ B) H A ∧ Step F H (A ++ B) (fun a => F a ∨ a ∈ B) H A := by
  refine ⟨⟨w.left.nd, fun a h z => z.elim (w.left.off a h) (w.apart a h), w.left.mu, fun a h => h.elim (w.dom a) fun z => w.right.some z⟩, fun _ h => .inl h, fun _ _ h _ => h, fun b h => .inl (List.mem_append_left _ h), fun b h => h.imp id fun z => .inl (List.mem_append_right _ z)⟩
theorem se_tup {k} {m : MA} (h : SA X W es m) : SE X W (.Tuple es k pos) (nTup m) := by
  obtain ⟨t, pt, st⟩ := h
  refine ⟨_, pe_tup pt, fun σ H F A e s w => ?_⟩
  have q := st σ H F A e s w
  unfold nTup
  cases em : m e with
  | bad => trivial
  | er x e1 => rw [em] at q; exact fun k Q => q k _
  | ok ds e1 =>
    rw [em] at q
    show OutE X.K W σ F H A (if ds.length ≤ sizeLine then .ok (.tup (frzs ds)) e1 else .bad) _
    by_cases hl : ds.length ≤ sizeLine
    · rw [if_pos hl]
      intro Q k
      refine q _ fun vs H1 F1 A1 B1 s1 r1 w1 t1 => ⟨by rw [r1.length]; exact hl, fun p hp => ?_⟩
      obtain ⟨w2, t2⟩ := freeze (F' := F1) w1
      have x3 : Ext (fun a => F1 a ∨ a ∈ B1) H1 (fun a => F1 a ∨ a ∈ B1) (upd H1 p (.tup vs)) := .laid hp w2.dom
      have s2 : Sls X.K (fun a => F1 a ∨ a ∈ B1) H1 σ e1 A1 := s1.to (fun _ h => .inl h) fun a o e _ => e
      have r2 : Rps X.K (fun a => F1 a ∨ a ∈ B1) H1 vs (frzs ds) [] := r1.frz (fun _ h => .inl h) fun _ h => .inr h
      exact k (.ref p) _ _ A1 [] (x3.sls s2) (.tup (SqT.of upd_same) (upd_rps hp r2)) (by simpa using x3.wf w2) (by simpa using (t1.trans t2).trans x3.step)
    · rw [if_neg hl]; trivial
theorem se_lst {m : MA} (h : SA X W es m) : SE X W (.List es pos) (nLst m) := by
  obtain ⟨t, pt, st⟩ := h
  refine ⟨_, pe_lst pt, fun σ H F A e s w => ?_⟩
  have q := st σ H F A e s w
  unfold nLst
  cases em : m e with
  | bad => trivial
  | er x e1 => rw [em] at q; exact fun k Q => q k _
  | ok ds e1 =>
    rw [em] at q
    show OutE X.K W σ F H A (if ds.length ≤ sizeLine then .ok (.lst true ds) e1 else .bad) _
    by_cases hl : ds.length ≤ sizeLine
    · rw [if_pos hl]
      intro Q k
      refine q _ fun vs H1 F1 A1 B1 s1 r1 w1 t1 => ⟨by rw [r1.length]; exact hl, fun p hp => ?_⟩
      have x3 : Ext F1 H1 F1 (upd H1 p (.lst vs)) := .laid hp w1.dom
      have nF : ¬ F1 p := fun z => by
        obtain ⟨o, e⟩ := w1.dom p z
        rw [hp] at e; cases e
      have rr : Rp X.K F1 (upd H1 p (.lst vs)) (.ref p) (.lst true ds) (p :: B1) := .lstO upd_same (upd_rps hp r1)
      have w2 : Wf F1 (upd H1 p (.lst vs)) (A1 ++ (p :: B1)) := by
        have w1' := x3.wf w1
        have np : p ∉ A1 ++ B1 := fun z => by
          obtain ⟨o, e⟩ := w1.some z
          rw [hp] at e; cases e
        refine Wf.perm (A := p :: (A1 ++ B1)) ⟨List.nodup_cons.mpr ⟨np, w1'.nd⟩, fun a h => ?_, fun a h => ?_, w1'.dom⟩ List.perm_middle.symm
        · rcases List.mem_cons.mp h with h | h
          · rw [h]; exact nF
          · exact w1'.off a h
        · rcases List.mem_cons.mp h with h | h
          · rw [h, upd_same]; trivial
          · exact w1'.mu a h
      refine k (.ref p) _ F1 A1 (p :: B1) (x3.sls s1) rr w2 ?_
      refine t1.trans ⟨x3.mono, fun b o h _ => x3.same b o h, fun b h => ?_, fun b h => .inl h⟩
      rcases List.mem_append.mp h with h | h
      · exact .inl (List.mem_append_left _ h)
      · rcases List.mem_cons.mp h with h | h
        · rw [h]; exact .inr hp
        · exact .inl (List.mem_append_right _ h)
    · rw [if_neg hl]; trivial

/-! ### built-ins by values -/
def mBN (g : List D → Option D) (m : ML) : MB := fun e => match m e with
  | .ok ds => ofO (g ds)
  | .er x => .er x
  | .bad => .bad
def mEN (g : List D → Option D) (m : MA) : ME := fun e => match m e with
  | .ok ds e1 => (match g ds with
    | some z => .ok z e1
    | none => .bad)
  | .er x e1 => .er x e1
  | .bad => .bad
theorem sim_bN {r : List V → Hp → VK → Prop} {g : List D → Option D} {t : TA} {m : ML} (hg : OpVN K r g) (h : SimL K W t m) : SimB K W (tCB r t) (mBN g m) := fun σ H F A e s w => by
  have q := h σ H F A e s w
  unfold mBN
  cases em : m e with
  | bad => trivial
  | er x => rw [em] at q; exact fun k Q => q k _
  | ok ds =>
    rw [em] at q
    show OutB K W σ F H (ofO (g ds)) _
    cases eg : g ds with
    | none => trivial
    | some z =>
      intro Q k
      refine q _ fun vs H1 F1 B x1 r1 => ?_
      exact hg F1 H1 vs ds z B x1.dom r1 eg Q fun u H' F' C x r o => k u H' F' C (x1.trans x) r
theorem sim_eN {r : List V → Hp → VK → Prop} {g : List D → Option D} {t : TA} {m : MA} (hg : OpVN K r g) (h : SimA K W t m) : SimE K W (tCB r t) (mEN g m) := fun σ H F A e s w => by
  have q := h σ H F A e s w
  unfold mEN
  cases em : m e with
  | bad => trivial
  | er x e1 => rw [em] at q; exact fun k Q => q k _
  | ok ds e1 =>
    rw [em] at q
    show OutE K W σ F H A (match g ds with
    | some z => .ok z e1
    | none => .bad) _
    cases eg : g ds with
    | none => trivial
    | some z =>
      intro Q k
      refine q _ fun vs H1 F1 A1 B s1 r1 w1 t1 => ?_
      refine hg F1 H1 vs ds z B w1.dom r1 eg Q fun u H' F' C x r o => ?_
      exact k u H' F' A1 C (x.sls s1) r (o.wf x w1.left r) ((t1.less fun _ => List.mem_append_left _).trans (o.step x))
section
variable {x : Str} {p : Pos} {id T : String} {r : List V → Hp → VK → Prop} {g : List D → Option D}
theorem sb_callB {m : ML} (hc : CallR X (.builtin id) r) (hg : OpVN X.K r g) (hgl : Gl X x) (hm : X.mg x = none) (hv : bootBuiltins x = some (.builtin id)) (ha : SL X W (a :: es) m) (hn : x ≠ "__name__" := by decide) (hdb : (x == ("__debug__" : Str)) = false := by decide)
    (he : starEach (a :: es) X.env = (false, eval a X.env) :: starEach es X.env := by rfl) (hpl : (backTo pos (starEach es X.env)).any (·.1) = false := by rfl) : SB X W (.Call (.Name x p) (a :: es) [] pos) (mBN g m) :=
  let ⟨t, pt, st⟩ := ha; ⟨_, pe_callB hc hgl hm hv pt hn hdb he hpl, sim_bN hg st⟩
theorem se_callB {m : MA} (hc : CallR X (.builtin id) r) (hg : OpVN X.K r g) (hgl : Gl X x) (hm : X.mg x = none) (hv : bootBuiltins x = some (.builtin id)) (ha : SA X W (a :: es) m) (hn : x ≠ "__name__" := by decide) (hdb : (x == ("__debug__" : Str)) = false := by decide)
    (he : starEach (a :: es) X.env = (false, eval a X.env) :: starEach es X.env := by rfl) (hpl : (backTo pos (starEach es X.env)).any (·.1) = false := by rfl) : SE X W (.Call (.Name x p) (a :: es) [] pos) (mEN g m) :=
  let ⟨t, pt, st⟩ := ha; ⟨_, pe_callB hc hgl hm hv pt hn hdb he hpl, sim_eN hg st⟩
theorem sb_callTy {m : ML} (hc : CallR X (.type T) r) (hg : OpVN X.K r g) (hgl : Gl X x) (hm : X.mg x = none) (hv : bootBuiltins x = some (.type T)) (ha : SL X W (a :: es) m) (hn : x ≠ "__name__" := by decide) (hdb : (x == ("__debug__" : Str)) = false := by decide)
    (he : starEach (a :: es) X.env = (false, eval a X.env) :: starEach es X.env := by rfl) (hpl : (backTo pos (starEach es X.env)).any (·.1) = false := by rfl) : SB X W (.Call (.Name x p) (a :: es) [] pos) (mBN g m) :=
  let ⟨t, pt, st⟩ := ha; ⟨_, pe_callTy hc hgl hm hv pt hn hdb he hpl, sim_bN hg st⟩
theorem se_callTy {m : MA} (hc : CallR X (.type T) r) (hg : OpVN X.K r g) (hgl : Gl X x) (hm : X.mg x = none) (hv : bootBuiltins x = some (.type T)) (ha : SA X W (a :: es) m) (hn : x ≠ "__name__" := by decide) (hdb : (x == ("__debug__" : Str)) = false := by decide)
    (he : starEach (a :: es) X.env = (false, eval a X.env) :: starEach es X.env := by rfl) (hpl : (backTo pos (starEach es X.env)).any (·.1) = false := by rfl) : SE X W (.Call (.Name x p) (a :: es) [] pos) (mEN g m) :=
  let ⟨t, pt, st⟩ := ha; ⟨_, pe_callTy hc hgl hm hv pt hn hdb he hpl, sim_eN hg st⟩
end
end
end G
set_option Elab.async false
set_option linter.all false
set_option maxRecDepth 100000
set_option maxHeartbeats 4000000
namespace G
open PySem L2

/-! ### plain values -/
def flatD : D → Option V
  | .non => some .non
  | .bl b => some (.bl b)
  | .int i => some (.int i)
  | .str x => some (.str x)
  | _ => none
def intD : D → Option Int
  | .int i => some i
  | _ => none
def blD : D → Option Bool
  | .bl i => some i
  | _ => none
def strD : D → Option Str
  | .str i => some i
  | _ => none
def allD {α : Type} (f : D → Option α) : List D → Option (List α)
  | [] => some []
  | d :: ds => match f d, allD f ds with
    | some x, some xs => some (x :: xs)
    | _, _ => none
theorem allD_map {α : Type} {f : D → Option α} {g : α → D} (h : ∀ x, f (g x) = some x) : ∀ xs : List α, allD f (xs.map g) = some xs
  | [] => rfl
  | x :: xs => by simp [allD, h, allD_map h xs]
section
variable {K : Frag} {F F' : Addr → Prop} {H H' : Hp} {v : V} {B : List Addr} {d : D}
theorem flat_v {u : V} (r : Rp K F H v d B) (h : flatD d = some u) : v = u := by
  cases r <;> simp [flatD] at h <;> exact h
theorem flat_flat {u : V} (h : flatD d = some u) : flatV u = true := by
  cases d <;> simp [flatD] at h <;> subst h <;> rfl
theorem int_v {u : Int} (r : Rp K F H v d B) (h : intD d = some u) : v = .int u := by
  cases r <;> simp [intD] at h <;> subst h <;> rfl
theorem bl_v {u : Bool} (r : Rp K F H v d B) (h : blD d = some u) : v = .bl u := by
  cases r <;> simp [blD] at h <;> subst h <;> rfl
theorem str_v {u : Str} (r : Rp K F H v d B) (h : strD d = some u) : v = .str u := by
  cases r <;> simp [strD] at h <;> subst h <;> rfl
theorem all_v {α : Type} {f : D → Option α} {g : α → V} (hf : ∀ {v d B x}, Rp K F H v d B → f d = some x → v = g x) : ∀ {vs : List V} {ds : List D} {B : List Addr} {xs : List α}, Rps K F H vs ds B → allD f ds = some xs → vs = xs.map g
  | _, _, _, xs, .nil, h => by
    have := Option.some.inj h
    subst this; rfl
  | _, d :: ds, _, xs, .cons a b c, h => by
    simp only [allD] at h
    split at h
    · rename_i x ys h1 h2
      have := Option.some.inj h
      subst this
      simp [hf a h1, all_v hf b h2]
    · cases h
end

/-! ### arithmetic -/
def ii (f : Int → Int → D) : D → D → Option D
  | .int i, .int j => some (f i j)
  | _, _ => none
def iiC (C : Int → Int → Bool) (f : Int → Int → D) : D → D → Option D
  | .int i, .int j => if C i j = true then some (f i j) else none
  | _, _ => none
section
variable {K : Frag}
theorem vv_int {F : Addr → Prop} {H : Hp} {i : Int} : Rp K F H (.int i) (.int i) [] := .int i
theorem opv_ii {g : Int → Int → V} {f : Int → Int → D} (h : ∀ F H i j, Rp K F H (g i j) (f i j) []) : OpV2 K (rI0 g) (ii f) := fun F H v w d e z A B dom r1 r2 hg Q k => by
  cases d <;> cases e <;> simp [ii] at hg
  obtain ⟨rfl, _⟩ := r1.isInt
  obtain ⟨rfl, _⟩ := r2.isInt
  subst hg
  exact ⟨_, _, rfl, rfl, k _ H F [] (.refl dom) (h F H _ _) .nil⟩
theorem opv_iiC {C : Int → Int → Prop} {c : Int → Int → Bool} {g : Int → Int → V} {f : Int → Int → D} (hc : ∀ i j, c i j = true → C i j) (h : ∀ F H i j, Rp K F H (g i j) (f i j) []) : OpV2 K (rI C g) (iiC c f) := fun F H v w d e z A B dom r1 r2 hg Q k => by
  cases d <;> cases e <;> simp [iiC] at hg
  obtain ⟨rfl, _⟩ := r1.isInt
  obtain ⟨rfl, _⟩ := r2.isInt
  obtain ⟨h1, h2⟩ := hg
  subst h2
  exact ⟨_, _, rfl, rfl, hc _ _ h1, k _ H F [] (.refl dom) (h F H _ _) .nil⟩
theorem OpV2.or {r r' : R2} {g g' : D → D → Option D} (h : OpV2 K r g) (h' : OpV2 K r' g') : OpV2 K (fun x y H Q => r x y H Q ∨ r' x y H Q) (fun d e => (g d e).or (g' d e)) := fun F H v w d e z A B dom r1 r2 hg Q k => by
  have hg : (g d e).or (g' d e) = some z := hg
  cases e1 : g d e with
  | some y =>
    rw [e1] at hg
    have q : y = z := Option.some.inj hg
    subst q
    exact .inl (h F H v w d e y A B dom r1 r2 e1 Q k)
  | none =>
    rw [e1] at hg
    exact .inr (h' F H v w d e z A B dom r1 r2 hg Q k)
theorem OpVN.or {r r' : List V → Hp → VK → Prop} {g g' : List D → Option D} (h : OpVN K r g) (h' : OpVN K r' g') : OpVN K (fun x H Q => r x H Q ∨ r' x H Q) (fun d => (g d).or (g' d)) := fun F H v d z A dom r1 hg Q k => by
  have hg : (g d).or (g' d) = some z := hg
  cases e1 : g d with
  | some y =>
    rw [e1] at hg
    have q : y = z := Option.some.inj hg
    subst q
    exact .inl (h F H v d y A dom r1 e1 Q k)
  | none =>
    rw [e1] at hg
    exact .inr (h' F H v d z A dom r1 hg Q k)
def mulOk (i j : Int) : Bool := decide (i.natAbs.log2 + j.natAbs.log2 < 1000000) || (decide (i.natAbs < 2 ^ 64) || decide (j.natAbs < 2 ^ 64))
def CMulA (i j : Int) : Prop := CMulW i j ∨ CMul i j
theorem op_mulA {X : Cx} : OpR X (binaryOp .Mult) (rI CMulA fun i j => .int (i * j)) := opI fun _ _ _ _ _ _ _ hc q => PyProof.Rows.mul_int q (hc.elim CMulW.ok CMul.ok)
def divOk (_ j : Int) : Bool := decide (0 < j) && decide (j.natAbs.log2 < 9000)
def modOk (_ j : Int) : Bool := decide (0 < j)
def powOk (i j : Int) : Bool := decide (0 ≤ j) && (decide (j ≤ 1000000) && decide (i.natAbs < 2 ^ 64))
def gSub : D → D → Option D := ii fun i j => .int (i - j)
def gMul : D → D → Option D := iiC mulOk fun i j => .int (i * j)
def gDiv : D → D → Option D := iiC divOk fun i j => .int (i / j)
def gMod : D → D → Option D := iiC modOk fun i j => .int (i % j)
def gPow : D → D → Option D := iiC powOk fun i j => .int (i ^ j.toNat)
def gLt : D → D → Option D := ii fun i j => .bl (decide (i < j))
def gLe : D → D → Option D := ii fun i j => .bl (decide (i ≤ j))
def gGt : D → D → Option D := ii fun i j => .bl (decide (j < i))
def gGe : D → D → Option D := ii fun i j => .bl (decide (j ≤ i))
theorem v_sub : OpV2 K (rI0 fun i j => .int (i - j)) gSub := opv_ii fun _ _ _ _ => .int _
theorem v_mul : OpV2 K (rI CMulA fun i j => .int (i * j)) gMul := opv_iiC (fun i j h => by
  simp only [mulOk, Bool.or_eq_true, decide_eq_true_eq] at h
  rcases h with h | h | h
  · exact .inl h
  · exact .inr (.inl (by omega))
  · exact .inr (.inr (by omega))) fun _ _ _ _ => .int _
theorem v_div : OpV2 K (rI CDivW fun i j => .int (i / j)) gDiv := opv_iiC (fun i j h => by
  simp only [divOk, Bool.and_eq_true, decide_eq_true_eq] at h; exact h) fun _ _ _ _ => .int _
theorem v_mod : OpV2 K (rI (fun _ j => 0 < j) fun i j => .int (i % j)) gMod := opv_iiC (fun i j h => by
  simp only [modOk, decide_eq_true_eq] at h; exact h) fun _ _ _ _ => .int _
theorem v_pow : OpV2 K (rI CPow fun i j => .int (i ^ j.toNat)) gPow := opv_iiC (fun i j h => by
  simp only [powOk, Bool.and_eq_true, decide_eq_true_eq] at h; exact h) fun _ _ _ _ => .int _
theorem v_lt : OpV2 K (rI0 fun i j => .bl (decide (i < j))) gLt := opv_ii fun _ _ _ _ => .bl _
theorem v_le : OpV2 K (rI0 fun i j => .bl (decide (i ≤ j))) gLe := opv_ii fun _ _ _ _ => .bl _
theorem v_gt : OpV2 K (rI0 fun i j => .bl (decide (j < i))) gGt := opv_ii fun _ _ _ _ => .bl _
theorem v_ge : OpV2 K (rI0 fun i j => .bl (decide (j ≤ i))) gGe := opv_ii fun _ _ _ _ => .bl _
def gNeg : D → Option D
  | .int i => some (.int (-i))
  | _ => none
theorem v_neg : OpV1 K (rU fun i => .int (-i)) gNeg := fun F H v d z A dom r hg Q k => by
  cases d <;> simp [gNeg] at hg
  obtain ⟨rfl, _⟩ := r.isInt
  subst hg
  exact ⟨_, rfl, k _ H F [] (.refl dom) (.int _) .nil⟩
end

/-! ### + : ints, texts, lists, tuples -/
/-- list + list, any that can be read -/
def rCatS (K : Frag) : R2 := fun x y H Q => ∃ l b xs zs, x = .ref l ∧ y = .ref b ∧ SqL K H l xs ∧ SqL K H b zs ∧ xs.length + zs.length ≤ sizeLine ∧ ∀ p, H p = none → Q (.ref p) (upd H p (.lst (xs ++ zs)))
theorem op_catS {X : Cx} : OpR X (binaryOp .Add) (rCatS X.K) := by
  intro pins s σ H x y v u Q I rx ry h
  obtain ⟨l, b, xs, zs, rfl, rfl, hH, hB, hz, q⟩ := h
  cases rx
  cases ry
  obtain ⟨its, r, hl, hlz⟩ := I.list hH
  obtain ⟨its2, r2, hl2, hlz2⟩ := I.list hB
  obtain ⟨⟨cls, dd, data, sl⟩, ho, hc, n, hd⟩ := hl.isList
  obtain ⟨⟨cls2, dd2, data2, sl2⟩, ho2, hc2, n2, hd2⟩ := hl2.isList
  simp only at hc hd hc2 hd2
  subst hc hd hc2 hd2
  have e1 := r.length
  have e2 := r2.length
  have e : its.toArray ++ its2.toArray = (its ++ its2).toArray := by simp
  refine concat_meets ⟨_, ho, rfl⟩ ⟨_, ho2, rfl⟩ noFill_list_add seq_list_add PySem.F.slot_list_add PySem.F.entry_list_add (PySem.F.args_list_add_2 _ _) (PyProof.Rows.list_addW l b its.toArray its2.toArray n n2 dd dd2 sl sl2 (by simp only [List.size_toArray]; omega)) ⟨ho, ho2, ?_⟩
  rw [e]
  exact ⟨.ref _, _, I.lnew (t' := s.toks) (r.append r2) (by rw [List.length_append]; omega), rfl, q _ I.fresh⟩
def gAdd : D → D → Option D
  | .int i, .int j => some (.int (i + j))
  | .str i, .str j => if i.length + j.length ≤ sizeLine then some (.str (i ++ j)) else none
  | .lst _ xs, .lst _ ys => if (colds xs && colds ys) = true then (if xs.length + ys.length ≤ sizeLine then some (.lst true (xs ++ ys)) else none) else none
  | .tup xs, .tup ys => if xs.length + ys.length ≤ sizeLine then some (.tup (xs ++ ys)) else none
  | _, _ => none
def rAddA (K : Frag) : R2 := fun x y H Q => rI0 (fun i j => .int (i + j)) x y H Q ∨ (∃ i j, x = .str i ∧ y = .str j ∧ i.length + j.length ≤ sizeLine ∧ Q (.str (i ++ j)) H) ∨ rCatS K x y H Q ∨ rCatA K x y H Q
theorem op_addA {X : Cx} : OpR X (binaryOp .Add) (rAddA X.K) := op_add.or (op_add_str.or (op_catS.or op_catA))
theorem v_add {K : Frag} : OpV2 K (rAddA K) gAdd := fun F H v w d e z A B dom r1 r2 hg Q k => by
  cases d with
  | int i =>
    cases e <;> simp [gAdd] at hg
    obtain ⟨rfl, _⟩ := r1.isInt
    obtain ⟨rfl, _⟩ := r2.isInt
    subst hg
    exact .inl ⟨_, _, rfl, rfl, k _ H F [] (.refl dom) (.int _) .nil⟩
  | str i =>
    cases e <;> simp [gAdd] at hg
    obtain ⟨rfl, _⟩ := r1.isStr
    obtain ⟨rfl, _⟩ := r2.isStr
    obtain ⟨hl, hz⟩ := hg
    subst hz
    exact .inr (.inl ⟨_, _, rfl, rfl, hl, k _ H F [] (.refl dom) (.str _) .nil⟩)
  | lst o xs =>
    cases e with
    | lst o2 ys =>
      simp only [gAdd] at hg
      split at hg
      · rename_i hc
        split at hg
        · rename_i hl
          have hz := Option.some.inj hg
          subst hz
          simp only [Bool.and_eq_true] at hc
          obtain ⟨a, vs, C1, rfl, q1, s1, _⟩ := r1.seqL
          obtain ⟨b, ws, C2, rfl, q2, s2, _⟩ := r2.seqL
          have e1 := s1.cold hc.1
          have e2 := s2.cold hc.2
          subst e1 e2
          refine .inr (.inr (.inl ⟨a, b, vs, ws, rfl, rfl, q1, q2, by rw [s1.length, s2.length]; exact hl, fun p hp => ?_⟩))
          have nF : ¬ F p := fun z => by
            obtain ⟨o, e⟩ := dom p z
            rw [hp] at e; cases e
          exact k (.ref p) _ F [p] (.laid hp dom) (.lstO upd_same (upd_rps hp (s1.append s2))) (.one hp nF)
        · cases hg
      · cases hg
    | _ => simp [gAdd] at hg
  | tup xs =>
    cases e with
    | tup ys =>
      simp only [gAdd] at hg
      split at hg
      · rename_i hl
        have hz := Option.some.inj hg
        subst hz
        obtain ⟨a, vs, rfl, q1, s1, rfl⟩ := r1.seqT
        obtain ⟨b, ws, rfl, q2, s2, rfl⟩ := r2.seqT
        refine .inr (.inr (.inr ⟨a, b, vs, ws, rfl, rfl, q1, q2, by rw [s1.length, s2.length]; exact hl, fun h => ?_, fun h h' => ?_, fun h h' p hp => ?_⟩))
        · subst h
          cases s1
          exact k _ H F [] (.refl dom) (.tup q2 s2) .nil
        · subst h'
          cases s2
          exact k _ H F [] (.refl dom) (by rw [List.append_nil]; exact .tup q1 s1) .nil
        · exact k (.ref p) _ F [] (.laid hp dom) (.tup (SqT.of upd_same) (upd_rps hp (s1.append s2))) .nil
      · cases hg
    | _ => simp [gAdd] at hg
  | _ => simp [gAdd] at hg

/-! ### ==, != -/
mutual
def toPy : D → Option PyData
  | .non => some .none
  | .bl b => some (.bool b)
  | .int i => some (.int i)
  | .str x => some (.str x)
  | .cst _ => none
  | .tup xs => match toPys xs with
    | some l => some (.tuple l)
    | none => none
  | .lst _ xs => match toPys xs with
    | some l => some (.list l)
    | none => none
  | .dct _ _ => none
  | .ins _ _ _ => none
def toPys : List D → Option (List PyData)
  | [] => some []
  | x :: xs => match toPy x, toPys xs with
    | some y, some ys => some (y :: ys)
    | _, _ => none
end
mutual
theorem Rp.dp {K : Frag} {F : Addr → Prop} {H : Hp} : ∀ {v : V} {d : D} {B : List Addr} {p : PyData}, Rp K F H v d B → toPy d = some p → Dp K H v p
  | _, _, _, p, .non, h => by have := Option.some.inj (by simpa [toPy] using h); subst this; exact .non
  | _, _, _, p, .bl b, h => by have := Option.some.inj (by simpa [toPy] using h); subst this; exact .bl b
  | _, _, _, p, .int b, h => by have := Option.some.inj (by simpa [toPy] using h); subst this; exact .int b
  | _, _, _, p, .str b, h => by have := Option.some.inj (by simpa [toPy] using h); subst this; exact .str b
  | _, _, _, p, .cst b, h => by simp [toPy] at h
  | _, _, _, p, .tup q r, h => by
    simp only [toPy] at h
    split at h
    · rename_i l hl
      have := Option.some.inj h; subst this
      exact .tup q (Rps.dp r hl)
    · cases h
  | _, _, _, p, .lstF f q r, h => by
    simp only [toPy] at h
    split at h
    · rename_i l hl
      have := Option.some.inj h; subst this
      exact .lst (.inl q) (Rps.dp r hl)
    · cases h
  | _, _, _, p, .lstK q r, h => by
    simp only [toPy] at h
    split at h
    · rename_i l hl
      have := Option.some.inj h; subst this
      exact .lst q.sq (Rps.dp r hl)
    · cases h
  | _, _, _, p, .lstO q r, h => by
    simp only [toPy] at h
    split at h
    · rename_i l hl
      have := Option.some.inj h; subst this
      exact .lst (.inl (.inl q)) (Rps.dp r hl)
    · cases h
  | _, _, _, p, .dctF _ _ _ _, h => by simp [toPy] at h
  | _, _, _, p, .dctO _ _ _, h => by simp [toPy] at h
  | _, _, _, p, .insF _ _ _ _, h => by simp [toPy] at h
  | _, _, _, p, .insO _ _ _, h => by simp [toPy] at h
theorem Rps.dp {K : Frag} {F : Addr → Prop} {H : Hp} : ∀ {vs : List V} {ds : List D} {B : List Addr} {p : List PyData}, Rps K F H vs ds B → toPys ds = some p → DpAll K H vs p
  | _, _, _, p, .nil, h => by have := Option.some.inj (by simpa [toPys] using h); subst this; exact .nil
  | _, _, _, p, .cons a b c, h => by
    simp only [toPys] at h
    split at h
    · rename_i y ys h1 h2
      have := Option.some.inj h; subst this
      exact .cons (Rp.dp a h1) (Rps.dp b h2)
    · cases h
end
/-- deep equality -/
def eqD (d e : D) : Option Bool := match toPy d, toPy e with
  | some p, some q => if (SeqAt.shaped p && SeqAt.shaped q) = true then some (PyData.eqv p q) else none
  | _, _ => none
def gEq (d e : D) : Option D := (eqD d e).map fun b => .bl b
def gNe (d e : D) : Option D := (eqD d e).map fun b => .bl (!b)
theorem eqD_ok {d e : D} {b : Bool} (h : eqD d e = some b) : ∃ p q, toPy d = some p ∧ toPy e = some q ∧ SeqAt.shaped p = true ∧ SeqAt.shaped q = true ∧ PyData.eqv p q = b := by
  unfold eqD at h
  split at h
  · rename_i p q h1 h2
    split at h
    · rename_i hs
      simp only [Bool.and_eq_true] at hs
      exact ⟨p, q, h1, h2, hs.1, hs.2, Option.some.inj h⟩
    · cases h
  · cases h
theorem v_eq {K : Frag} : OpV2 K (rEqD K) gEq := fun F H v w d e z A B dom r1 r2 hg Q k => by
  unfold gEq at hg
  cases h : eqD d e with
  | none => rw [h] at hg; cases hg
  | some b =>
    rw [h] at hg
    have := Option.some.inj hg; subst this
    obtain ⟨p, q, h1, h2, h3, h4, h5⟩ := eqD_ok h
    refine ⟨p, q, r1.dp h1, r2.dp h2, h3, h4, ?_⟩
    rw [h5]
    exact k _ H F [] (.refl dom) (.bl _) .nil
theorem v_ne {K : Frag} : OpV2 K (rNeD K) gNe := fun F H v w d e z A B dom r1 r2 hg Q k => by
  unfold gNe at hg
  cases h : eqD d e with
  | none => rw [h] at hg; cases hg
  | some b =>
    rw [h] at hg
    have := Option.some.inj hg; subst this
    obtain ⟨p, q, h1, h2, h3, h4, h5⟩ := eqD_ok h
    refine ⟨p, q, r1.dp h1, r2.dp h2, h3, h4, ?_⟩
    rw [h5]
    exact k _ H F [] (.refl dom) (.bl _) .nil

/-! ### is, is not -/
def isD : D → D → Option Bool
  | .non, .non => some true
  | .bl _, .non => some false
  | .int _, .non => some false
  | .str _, .non => some false
  | .tup _, .non => some false
  | .lst _ _, .non => some false
  | .dct _ _, .non => some false
  | .ins _ _ _, .non => some false
  | .bl a, .bl b => some (decide (a = b))
  | _, _ => none
def gIs (d e : D) : Option D := (isD d e).map fun b => .bl b
def gIsNot (d e : D) : Option D := (isD d e).map fun b => .bl (!b)
def rIsA : R2 := fun x y H Q => (y = .non ∧ Q (.bl (decide (x = .non))) H) ∨ ∃ a b, x = .bl a ∧ y = .bl b ∧ Q (.bl (decide (a = b))) H
def rIsNotA : R2 := fun x y H Q => (y = .non ∧ Q (.bl (!decide (x = .non))) H) ∨ ∃ a b, x = .bl a ∧ y = .bl b ∧ Q (.bl (!decide (a = b))) H
theorem op_isA {X : Cx} : OpR X (compareOp .Is) rIsA := op_isN.or op_is_bl
theorem op_isNotA {X : Cx} : OpR X (compareOp .IsNot) rIsNotA := op_notN.or op_isnot_bl
theorem isD_v {K : Frag} {F : Addr → Prop} {H : Hp} {v w : V} {d e : D} {A B : List Addr} {b : Bool} (r1 : Rp K F H v d A) (r2 : Rp K F H w e B) (h : isD d e = some b) : (w = .non ∧ decide (v = .non) = b) ∨ ∃ x y, v = .bl x ∧ w = .bl y ∧ decide (x = y) = b := by
  cases r2 with
  | non =>
    refine .inl ⟨rfl, ?_⟩
    cases r1 <;> simp [isD] at h <;> subst h <;> simp
  | bl y =>
    cases r1 with
    | bl x => exact .inr ⟨x, y, rfl, rfl, by simpa [isD] using h⟩
    | _ => simp [isD] at h
  | _ => cases d <;> simp [isD] at h
theorem v_is {K : Frag} : OpV2 K rIsA gIs := fun F H v w d e z A B dom r1 r2 hg Q k => by
  unfold gIs at hg
  cases h : isD d e with
  | none => rw [h] at hg; cases hg
  | some b =>
    rw [h] at hg
    have := Option.some.inj hg; subst this
    have kk := k _ H F [] (.refl dom) (.bl b) .nil
    rcases isD_v r1 r2 h with ⟨rfl, e1⟩ | ⟨x, y, rfl, rfl, e1⟩
    · exact .inl ⟨rfl, by rw [e1]; exact kk⟩
    · exact .inr ⟨x, y, rfl, rfl, by rw [e1]; exact kk⟩
theorem v_isNot {K : Frag} : OpV2 K rIsNotA gIsNot := fun F H v w d e z A B dom r1 r2 hg Q k => by
  unfold gIsNot at hg
  cases h : isD d e with
  | none => rw [h] at hg; cases hg
  | some b =>
    rw [h] at hg
    have := Option.some.inj hg; subst this
    have kk := k _ H F [] (.refl dom) (.bl (!b)) .nil
    rcases isD_v r1 r2 h with ⟨rfl, e1⟩ | ⟨x, y, rfl, rfl, e1⟩
    · exact .inl ⟨rfl, by rw [e1]; exact kk⟩
    · exact .inr ⟨x, y, rfl, rfl, by rw [e1]; exact kk⟩

/-! ### built-in calls -/
section
variable {K : Frag}
/-- len -/
def gLen : List D → Option D
  | [.lst _ ds] => some (.int ds.length)
  | [.tup ds] => some (.int ds.length)
  | [.str x] => if x.length ≤ sizeLine then some (.int x.length) else none
  | [.dct _ kvs] => some (.int kvs.length)
  | _ => none
theorem rps1 {F : Addr → Prop} {H : Hp} {vs : List V} {d : D} {A : List Addr} (r : Rps K F H vs [d] A) : ∃ v, vs = [v] ∧ Rp K F H v d A := by
  cases r with
  | cons a b c =>
    cases b
    exact ⟨_, rfl, by rw [c, List.append_nil]; exact a⟩
theorem rps2 {F : Addr → Prop} {H : Hp} {vs : List V} {d e : D} {A : List Addr} (r : Rps K F H vs [d, e] A) : ∃ v w A1 A2, vs = [v, w] ∧ Rp K F H v d A1 ∧ Rp K F H w e A2 := by
  cases r with
  | cons a b c =>
    obtain ⟨w, rfl, r2⟩ := rps1 b
    exact ⟨_, w, _, _, rfl, a, r2⟩
end
end G
set_option Elab.async false
set_option linter.all false
set_option maxRecDepth 100000
set_option maxHeartbeats 4000000
namespace G
open PySem L2
section
variable {K : Frag}
theorem notF {F : Addr → Prop} {H : Hp} {p : Addr} (dom : ∀ a, F a → ∃ o, H a = some o) (hp : H p = none) : ¬ F p := fun z => by
  obtain ⟨o, e⟩ := dom p z
  rw [hp] at e; cases e

/-! ### len -/
def rLenA (K : Frag) : List V → Hp → VK → Prop := fun xs H Q => (∃ x n, xs = [x] ∧ LenV K x H n ∧ Q (.int n) H) ∨ ∃ d kvs, xs = [.ref d] ∧ Rd H d (.dK kvs) ∧ Q (.int kvs.length) H
theorem v_len : OpVN K (rLenA K) gLen := fun F H vs ds z A dom r0 hg Q k => by
  match ds, hg with
  | [d], hg =>
    obtain ⟨v, rfl, r⟩ := rps1 r0
    cases d with
    | lst o xs =>
      obtain ⟨a, ws, C, rfl, q, s, _⟩ := r.seqL
      simp only [gLen, Option.some.injEq] at hg
      subst hg
      refine .inl ⟨_, _, rfl, .inl ⟨ws, q, rfl⟩, ?_⟩
      rw [s.length]
      exact k _ H F [] (.refl dom) (.int _) .nil
    | tup xs =>
      obtain ⟨a, ws, rfl, q, s, _⟩ := r.seqT
      simp only [gLen, Option.some.injEq] at hg
      subst hg
      refine .inl ⟨_, _, rfl, .inr ⟨ws, q, rfl⟩, ?_⟩
      rw [s.length]
      exact k _ H F [] (.refl dom) (.int _) .nil
    | str x =>
      obtain ⟨rfl, _⟩ := r.isStr
      simp only [gLen] at hg
      split at hg
      · rename_i hl
        have := Option.some.inj hg; subst this
        exact .inl ⟨_, _, rfl, ⟨hl, rfl⟩, k _ H F [] (.refl dom) (.int _) .nil⟩
      · cases hg
    | dct o kvs =>
      obtain ⟨a, ws, C, rfl, q, e, s, _⟩ := r.dic
      simp only [gLen, Option.some.injEq] at hg
      subst hg
      have el : ws.length = kvs.length := by
        have := congrArg List.length e
        simpa using this
      refine .inr ⟨a, ws, rfl, q, ?_⟩
      rw [el]
      exact k _ H F [] (.refl dom) (.int _) .nil
    | _ => simp [gLen] at hg
  | [], hg => simp [gLen] at hg
  | _ :: _ :: _, hg => simp [gLen] at hg

/-! ### list(..), tuple(..), dict(..) -/
def gList : List D → Option D
  | [.lst _ ds] => if colds ds = true then some (.lst true ds) else none
  | [.tup ds] => if colds ds = true then some (.lst true ds) else none
  | [.dct _ kvs] => some (.lst true (kvs.map fun kv => match kv.1 with
    | .inl i => .int i
    | .inr x => .str x))
  | _ => none
def gTuple : List D → Option D
  | [.lst _ ds] => if colds ds = true then some (.tup ds) else none
  | [.tup ds] => some (.tup ds)
  | _ => none
def gDict : List D → Option D
  | [.dct _ kvs] => if coldk kvs = true then some (.dct true kvs) else none
  | _ => none
def rListA (K : Frag) : List V → Hp → VK → Prop := fun xs H Q => (∃ p ys, xs = [.ref p] ∧ (SqL K H p ys ∨ SqT K H p ys) ∧ ∀ l, H l = none → Q (.ref l) (upd H l (.lst ys))) ∨
  ∃ (a : Addr) (kvs : List (Key × V)), xs = [.ref a] ∧ Rd H a (.dK kvs) ∧ ∀ p, H p = none → Q (.ref p) (upd H p (.lst (kvs.map fun kv => kV kv.1)))
theorem call_listA {X : Cx} (hc : X.calm = true) : CallR X (.type "list") (rListA X.K) := call_list_of.or (call_listD hc)
theorem keys_rps {F : Addr → Prop} {H : Hp} : ∀ (ws : List (Key × V)) (kvs : List (Key × D)), ws.map (·.1) = kvs.map (·.1) → Rps K F H (ws.map fun kv => kV kv.1) (kvs.map fun kv => match kv.1 with
    | .inl i => .int i
    | .inr x => .str x) []
  | [], [], _ => .nil
  | [], _ :: _, h => by simp at h
  | _ :: _, [], h => by simp at h
  | (k1, v) :: ws, (k2, d) :: kvs, h => by
    simp only [List.map_cons, List.cons.injEq] at h
    obtain ⟨h1, h2⟩ := h
    subst h1
    refine .cons (A := []) ?_ (keys_rps ws kvs h2) rfl
    cases k1 with
    | inl i => exact .int i
    | inr x => exact .str x
theorem v_list : OpVN K (rListA K) gList := fun F H vs ds z A dom r0 hg Q k => by
  match ds, hg with
  | [d], hg =>
    obtain ⟨v, rfl, r⟩ := rps1 r0
    cases d with
    | lst o xs =>
      obtain ⟨a, ws, C, rfl, q, s, _⟩ := r.seqL
      simp only [gList] at hg
      split at hg
      · rename_i hc
        have := Option.some.inj hg; subst this
        have eC := s.cold hc; subst eC
        exact .inl ⟨a, ws, rfl, .inl q, fun p hp => k _ _ F [p] (.laid hp dom) (.lstO upd_same (upd_rps hp s)) (.one hp (notF dom hp))⟩
      · cases hg
    | tup xs =>
      obtain ⟨a, ws, rfl, q, s, _⟩ := r.seqT
      simp only [gList] at hg
      split at hg
      · have := Option.some.inj hg; subst this
        exact .inl ⟨a, ws, rfl, .inr q, fun p hp => k _ _ F [p] (.laid hp dom) (.lstO upd_same (upd_rps hp s)) (.one hp (notF dom hp))⟩
      · cases hg
    | dct o kvs =>
      obtain ⟨a, ws, C, rfl, q, e, s, _⟩ := r.dic
      simp only [gList, Option.some.injEq] at hg
      subst hg
      exact .inr ⟨a, ws, rfl, q, fun p hp => k _ _ F [p] (.laid hp dom) (.lstO upd_same (upd_rps hp (keys_rps ws kvs e))) (.one hp (notF dom hp))⟩
    | _ => simp [gList] at hg
  | [], hg => simp [gList] at hg
  | _ :: _ :: _, hg => simp [gList] at hg
def rTupleA (K : Frag) : List V → Hp → VK → Prop := fun xs H Q => ∃ p ys, xs = [.ref p] ∧ ((SqL K H p ys ∧ ∀ l, H l = none → Q (.ref l) (upd H l (.tup ys))) ∨ (SqT K H p ys ∧ Q (.ref p) H))
theorem v_tuple : OpVN K (rTupleA K) gTuple := fun F H vs ds z A dom r0 hg Q k => by
  match ds, hg with
  | [d], hg =>
    obtain ⟨v, rfl, r⟩ := rps1 r0
    cases d with
    | lst o xs =>
      obtain ⟨a, ws, C, rfl, q, s, _⟩ := r.seqL
      simp only [gTuple] at hg
      split at hg
      · rename_i hc
        have := Option.some.inj hg; subst this
        have eC := s.cold hc; subst eC
        exact ⟨a, ws, rfl, .inl ⟨q, fun p hp => k _ _ F [] (.laid hp dom) (.tup (SqT.of upd_same) (upd_rps hp s)) .nil⟩⟩
      · cases hg
    | tup xs =>
      obtain ⟨a, ws, rfl, q, s, _⟩ := r.seqT
      simp only [gTuple, Option.some.injEq] at hg
      subst hg
      exact ⟨a, ws, rfl, .inr ⟨q, k _ H F [] (.refl dom) (.tup q s) .nil⟩⟩
    | _ => simp [gTuple] at hg
  | [], hg => simp [gTuple] at hg
  | _ :: _ :: _, hg => simp [gTuple] at hg
def rDictA : List V → Hp → VK → Prop := fun xs H Q => ∃ (a : Addr) (kvs : List (Key × V)), xs = [.ref a] ∧ Rd H a (.dK kvs) ∧ ∀ p, H p = none → Q (.ref p) (upd H p (.dK kvs))
theorem v_dict : OpVN K rDictA gDict := fun F H vs ds z A dom r0 hg Q k => by
  match ds, hg with
  | [d], hg =>
    obtain ⟨v, rfl, r⟩ := rps1 r0
    cases d with
    | dct o kvs =>
      obtain ⟨a, ws, C, rfl, q, e, s, _⟩ := r.dic
      simp only [gDict] at hg
      split at hg
      · rename_i hc
        have := Option.some.inj hg; subst this
        have eC := s.cold (by rw [colds_eq, List.all_map]; rw [coldk_eq] at hc; exact hc)
        subst eC
        exact ⟨a, ws, rfl, q, fun p hp => k _ _ F [p] (.laid hp dom) (.dctO upd_same e (upd_rps hp s)) (.one hp (notF dom hp))⟩
      · cases hg
    | _ => simp [gDict] at hg
  | [], hg => simp [gDict] at hg
  | _ :: _ :: _, hg => simp [gDict] at hg

/-! ### sum, any, all, abs, int -/
def gSum : List D → Option D
  | [.lst _ ds] => (allD intD ds).map fun ns => .int ns.sum
  | _ => none
def gAny : List D → Option D
  | [.lst _ ds] => (allD blD ds).map fun bs => .bl (bs.any id)
  | _ => none
def gAll : List D → Option D
  | [.lst _ ds] => (allD blD ds).map fun bs => .bl (bs.all id)
  | _ => none
def gAbs : List D → Option D
  | [.int i] => some (.int (if i < 0 then -i else i))
  | _ => none
def gInt : List D → Option D
  | [.int i] => some (.int i)
  | [.bl b] => some (.int (if b then 1 else 0))
  | _ => none
def gStr : List D → Option D
  | [.int i] => if i.natAbs.log2 < 1920 then some (.str (toString i)) else none
  | _ => none
theorem v_sum : OpVN K (rSum K) gSum := fun F H vs ds z A dom r0 hg Q k => by
  match ds, hg with
  | [d], hg =>
    obtain ⟨v, rfl, r⟩ := rps1 r0
    cases d with
    | lst o xs =>
      obtain ⟨a, ws, C, rfl, q, s, _⟩ := r.seqL
      simp only [gSum] at hg
      cases h : allD intD xs with
      | none => rw [h] at hg; cases hg
      | some ns =>
        rw [h] at hg
        have := Option.some.inj hg; subst this
        have e := all_v (g := V.int) (fun r h => int_v r h) s h
        subst e
        exact ⟨a, ns, rfl, q, k _ H F [] (.refl dom) (.int _) .nil⟩
    | _ => simp [gSum] at hg
  | [], hg => simp [gSum] at hg
  | _ :: _ :: _, hg => simp [gSum] at hg
theorem v_any : OpVN K (rAny K) gAny := fun F H vs ds z A dom r0 hg Q k => by
  match ds, hg with
  | [d], hg =>
    obtain ⟨v, rfl, r⟩ := rps1 r0
    cases d with
    | lst o xs =>
      obtain ⟨a, ws, C, rfl, q, s, _⟩ := r.seqL
      simp only [gAny] at hg
      cases h : allD blD xs with
      | none => rw [h] at hg; cases hg
      | some ns =>
        rw [h] at hg
        have := Option.some.inj hg; subst this
        have e := all_v (g := V.bl) (fun r h => bl_v r h) s h
        subst e
        exact ⟨a, ns, rfl, q, k _ H F [] (.refl dom) (.bl _) .nil⟩
    | _ => simp [gAny] at hg
  | [], hg => simp [gAny] at hg
  | _ :: _ :: _, hg => simp [gAny] at hg
theorem v_all : OpVN K (rAll K) gAll := fun F H vs ds z A dom r0 hg Q k => by
  match ds, hg with
  | [d], hg =>
    obtain ⟨v, rfl, r⟩ := rps1 r0
    cases d with
    | lst o xs =>
      obtain ⟨a, ws, C, rfl, q, s, _⟩ := r.seqL
      simp only [gAll] at hg
      cases h : allD blD xs with
      | none => rw [h] at hg; cases hg
      | some ns =>
        rw [h] at hg
        have := Option.some.inj hg; subst this
        have e := all_v (g := V.bl) (fun r h => bl_v r h) s h
        subst e
        exact ⟨a, ns, rfl, q, k _ H F [] (.refl dom) (.bl _) .nil⟩
    | _ => simp [gAll] at hg
  | [], hg => simp [gAll] at hg
  | _ :: _ :: _, hg => simp [gAll] at hg
theorem v_abs : OpVN K (fun xs H Q => ∃ i, xs = [.int i] ∧ Q (.int (if i < 0 then -i else i)) H) gAbs := fun F H vs ds z A dom r0 hg Q k => by
  match ds, hg with
  | [d], hg =>
    obtain ⟨v, rfl, r⟩ := rps1 r0
    cases d with
    | int i =>
      obtain ⟨rfl, _⟩ := r.isInt
      simp only [gAbs, Option.some.injEq] at hg
      subst hg
      exact ⟨_, rfl, k _ H F [] (.refl dom) (.int _) .nil⟩
    | _ => simp [gAbs] at hg
  | [], hg => simp [gAbs] at hg
  | _ :: _ :: _, hg => simp [gAbs] at hg
theorem v_int : OpVN K (fun xs H Q => (∃ i, xs = [.int i] ∧ Q (.int i) H) ∨ ∃ k, xs = [.bl k] ∧ Q (.int (if k then 1 else 0)) H) gInt := fun F H vs ds z A dom r0 hg Q k => by
  match ds, hg with
  | [d], hg =>
    obtain ⟨v, rfl, r⟩ := rps1 r0
    cases d with
    | int i =>
      obtain ⟨rfl, _⟩ := r.isInt
      simp only [gInt, Option.some.injEq] at hg
      subst hg
      exact .inl ⟨_, rfl, k _ H F [] (.refl dom) (.int _) .nil⟩
    | bl i =>
      obtain ⟨rfl, _⟩ := r.isBl
      simp only [gInt, Option.some.injEq] at hg
      subst hg
      exact .inr ⟨_, rfl, k _ H F [] (.refl dom) (.int _) .nil⟩
    | _ => simp [gInt] at hg
  | [], hg => simp [gInt] at hg
  | _ :: _ :: _, hg => simp [gInt] at hg
theorem v_str : OpVN K (fun xs H Q => ∃ i : Int, xs = [.int i] ∧ i.natAbs.log2 < 1920 ∧ Q (.str (toString i)) H) gStr := fun F H vs ds z A dom r0 hg Q k => by
  match ds, hg with
  | [d], hg =>
    obtain ⟨v, rfl, r⟩ := rps1 r0
    cases d with
    | int i =>
      obtain ⟨rfl, _⟩ := r.isInt
      simp only [gStr] at hg
      split at hg
      · rename_i hl
        have := Option.some.inj hg; subst this
        exact ⟨_, rfl, hl, k _ H F [] (.refl dom) (.str _) .nil⟩
      · cases hg
    | _ => simp [gStr] at hg
  | [], hg => simp [gStr] at hg
  | _ :: _ :: _, hg => simp [gStr] at hg
end

/-! ### a value of its own from things that are only looked at -/
def mOwn1 (g : D → D → Option D) (ma mb : MB) : ME := fun e => match ma e with
  | .ok d => (match mb e with
    | .ok d2 => (match g d d2 with
      | some z => .ok z e
      | none => .bad)
    | .er x => .er x e
    | .bad => .bad)
  | .er x => .er x e
  | .bad => .bad
def mOwnN (g : List D → Option D) (m : ML) : ME := fun e => match m e with
  | .ok ds => (match g ds with
    | some z => .ok z e
    | none => .bad)
  | .er x => .er x e
  | .bad => .bad
section
variable {X : Cx} {W : WX} {a b c o : Expr} {es : List Expr} {ma mb mc : MB} {na nb nc : ME} {pos : Pos} {K : Frag}
theorem sim_ownN {r : List V → Hp → VK → Prop} {g : List D → Option D} {t : TA} {m : ML} (hg : OpVN K r g) (h : SimL K W t m) : SimE K W (tCB r t) (mOwnN g m) := fun σ H F A e s w => by
  have q := h σ H F A e s w
  unfold mOwnN
  cases em : m e with
  | bad => trivial
  | er x =>
    rw [em] at q
    exact fun k Q => q (fun cls dx H' F' x' r => k cls dx H' F' A (x'.sls s) (x'.wf w) x'.step r) _
  | ok ds =>
    rw [em] at q
    show OutE K W σ F H A (match g ds with
      | some z => .ok z e
      | none => .bad) _
    cases eg : g ds with
    | none => trivial
    | some z =>
      intro Q k
      refine q _ fun vs H1 F1 B x1 r1 => ?_
      refine hg F1 H1 vs ds z B x1.dom r1 eg Q fun u H' F' C x r o => ?_
      exact k u H' F' A C (x.sls (x1.sls s)) r (o.wf x (x1.wf w) r) (x1.step.trans (o.step x))
theorem sim_own2 {r : R2} {g : D → D → Option D} {ta tb : TE} (hg : OpV2 K r g) (ha : SimB K W ta ma) (hb : SimB K W tb mb) : SimE K W (tOp r ta tb) (mOwn1 g ma mb) := fun σ H F A e s w => by
  have qa := ha σ H F A e s w
  unfold mOwn1
  cases ea : ma e with
  | bad => trivial
  | er x =>
    rw [ea] at qa
    exact fun k Q => qa (fun cls dx H' F' x' r => k cls dx H' F' A (x'.sls s) (x'.wf w) x'.step r) _
  | ok d =>
    rw [ea] at qa
    show OutE K W σ F H A (match mb e with
    | .ok d2 => (match g d d2 with
      | some z => .ok z e
      | none => .bad)
    | .er x => .er x e
    | .bad => .bad) _
    cases eb : mb e with
    | bad => trivial
    | er x =>
      intro k Q
      refine qa _ fun v H1 F1 B1 x1 r1 => ?_
      have qb := hb σ H1 F1 A e (x1.sls s) (x1.wf w)
      rw [eb] at qb
      exact qb (fun cls dx H' F' x' r => k cls dx H' F' A ((x1.trans x').sls s) ((x1.trans x').wf w) (x1.trans x').step r) _
    | ok d2 =>
      show OutE K W σ F H A (match g d d2 with
      | some z => .ok z e
      | none => .bad) _
      cases eg : g d d2 with
      | none => trivial
      | some z =>
        intro Q k
        refine qa _ fun v H1 F1 B1 x1 r1 => ?_
        have qb := hb σ H1 F1 A e (x1.sls s) (x1.wf w)
        rw [eb] at qb
        refine qb _ fun v2 H2 F2 B2 x2 r2 => ?_
        refine hg F2 H2 v v2 d d2 z B1 B2 x2.dom (x2.rp r1) r2 eg Q fun u H3 F3 C x3 r3 o => ?_
        exact k u H3 F3 A C (x3.sls ((x1.trans x2).sls s)) r3 (o.wf x3 ((x1.trans x2).wf w) r3) ((x1.trans x2).step.trans (o.step x3))
theorem se_opB {op : Operator} {r : R2} {g : D → D → Option D} (ho : OpR X (binaryOp op) r) (hg : OpV2 X.K r g) (ha : SB X W a ma) (hb : SB X W b mb) : SE X W (.BinOp a op b pos) (mOwn1 g ma mb) :=
  let ⟨ta, pa, sa⟩ := ha; let ⟨tb, pb, sb⟩ := hb; ⟨_, pe_op ho pa pb, sim_own2 hg sa sb⟩
section
variable {x : Str} {p : Pos} {id T : String} {r : List V → Hp → VK → Prop} {g : List D → Option D}
theorem se_callBL {m : ML} (hc : CallR X (.builtin id) r) (hg : OpVN X.K r g) (hgl : Gl X x) (hm : X.mg x = none) (hv : bootBuiltins x = some (.builtin id)) (ha : SL X W (a :: es) m) (hn : x ≠ "__name__" := by decide) (hdb : (x == ("__debug__" : Str)) = false := by decide)
    (he : starEach (a :: es) X.env = (false, eval a X.env) :: starEach es X.env := by rfl) (hpl : (backTo pos (starEach es X.env)).any (·.1) = false := by rfl) : SE X W (.Call (.Name x p) (a :: es) [] pos) (mOwnN g m) :=
  let ⟨t, pt, st⟩ := ha; ⟨_, pe_callB hc hgl hm hv pt hn hdb he hpl, sim_ownN hg st⟩
theorem se_callTyL {m : ML} (hc : CallR X (.type T) r) (hg : OpVN X.K r g) (hgl : Gl X x) (hm : X.mg x = none) (hv : bootBuiltins x = some (.type T)) (ha : SL X W (a :: es) m) (hn : x ≠ "__name__" := by decide) (hdb : (x == ("__debug__" : Str)) = false := by decide)
    (he : starEach (a :: es) X.env = (false, eval a X.env) :: starEach es X.env := by rfl) (hpl : (backTo pos (starEach es X.env)).any (·.1) = false := by rfl) : SE X W (.Call (.Name x p) (a :: es) [] pos) (mOwnN g m) :=
  let ⟨t, pt, st⟩ := ha; ⟨_, pe_callTy hc hgl hm hv pt hn hdb he hpl, sim_ownN hg st⟩
end

/-! ### x in y -/
def inD : D → D → Option Bool
  | d, .lst _ ds => (match flatD d, allD flatD ds with
    | some v, some vs => some (inV v vs)
    | _, _ => none)
  | d, .tup ds => (match flatD d, allD flatD ds with
    | some v, some vs => some (inV v vs)
    | _, _ => none)
  | .str x, .str y => if x.cps.size = 1 then some (decide (x.cps.getD 0 0 ∈ y.cps.toList)) else none
  | d, .dct _ kvs => (keyOf d).map fun k => (look kvs k).isSome
  | _, _ => none
def gIn (d e : D) : Option D := (inD d e).map fun b => .bl b
def gNotIn (d e : D) : Option D := (inD d e).map fun b => .bl (!b)
def rInA (K : Frag) : R2 := fun x y H Q => rIn K false x y H Q ∨ ∃ (c : Nat) (z : Str), x = .str ⟨#[c]⟩ ∧ y = .str z ∧ Q (.bl (decide (c ∈ z.cps.toList))) H
def rNotInA (K : Frag) : R2 := fun x y H Q => rIn K true x y H Q ∨ ∃ (c : Nat) (z : Str), x = .str ⟨#[c]⟩ ∧ y = .str z ∧ Q (.bl (!decide (c ∈ z.cps.toList))) H
theorem op_inA : OpR X (compareOp .In) (rInA X.K) := op_in_seq.or op_in_sign
theorem op_notInA : OpR X (compareOp .NotIn) (rNotInA X.K) := op_notIn_seq.or op_notIn_sign
theorem flats_ok {ds : List D} : ∀ {vs : List V}, allD flatD ds = some vs → vs.all flatV = true := by
  induction ds with
  | nil => intro vs h; have := Option.some.inj h; subst this; rfl
  | cons d ds ih =>
    intro vs h
    simp only [allD] at h
    split at h
    · rename_i x xs h1 h2
      have := Option.some.inj h; subst this
      rw [List.all_cons, flat_flat h1, ih h2]; rfl
    · cases h
theorem str1 {x : Str} (h : x.cps.size = 1) : x = ⟨#[x.cps.getD 0 0]⟩ := by
  obtain ⟨⟨l⟩⟩ := x
  match l, h with
  | [c], _ => rfl
/-- what in asks: not of a dict, of a dict -/
theorem in_val {F : Addr → Prop} {H : Hp} {v w : V} {d e : D} {A B : List Addr} {b : Bool} (r1 : Rp K F H v d A) (r2 : Rp K F H w e B) (h : inD d e = some b) :
    (∃ o kvs, e = .dct o kvs ∧ ∃ a ov, w = .ref a ∧ DGet H a v ov ∧ ov.isSome = b) ∨ ((∀ o kvs, e ≠ .dct o kvs) ∧ ∀ Q : VK, (Q (.bl b) H → rInA K v w H Q) ∧ (Q (.bl (!b)) H → rNotInA K v w H Q)) := by
  cases e with
  | dct o kvs =>
    refine .inl ⟨o, kvs, rfl, ?_⟩
    obtain ⟨a, ws, C, rfl, q, e1, s, _⟩ := r2.dic
    have h' : (keyOf d).map (fun k => (look kvs k).isSome) = some b := by
      cases d <;> exact h
    cases ek : keyOf d with
    | none => rw [ek] at h'; cases h'
    | some k =>
      rw [ek] at h'
      have hb : (look kvs k).isSome = b := Option.some.inj h'
      have ev := keyOf_v r1 ek
      subst ev
      exact ⟨a, _, rfl, .inl ⟨ws, k, q, rfl, rfl⟩, by rw [look_isSome e1 s]; exact hb⟩
  | lst o xs =>
    refine .inr ⟨fun _ _ z => (nomatch z), fun Q => ?_⟩
    obtain ⟨a, ws, C, rfl, q, s, _⟩ := r2.seqL
    have h' : (match flatD d, allD flatD xs with
      | some v, some vs => some (inV v vs)
      | _, _ => none) = some b := by
      cases d <;> exact h
    split at h'
    · rename_i u us h1 h2
      have hb := Option.some.inj h'
      have e1 := flat_v r1 h1
      have e2 := all_v (g := id) (fun r h => flat_v r h) s h2
      rw [List.map_id] at e2
      subst e1 e2
      refine ⟨fun z => .inl ⟨a, _, rfl, .inl q, flat_flat h1, flats_ok h2, ?_⟩, fun z => .inl ⟨a, _, rfl, .inl q, flat_flat h1, flats_ok h2, ?_⟩⟩
      · rw [hb]; exact z
      · rw [hb]; exact z
    · cases h'
  | tup xs =>
    refine .inr ⟨fun _ _ z => (nomatch z), fun Q => ?_⟩
    obtain ⟨a, ws, rfl, q, s, _⟩ := r2.seqT
    have h' : (match flatD d, allD flatD xs with
      | some v, some vs => some (inV v vs)
      | _, _ => none) = some b := by
      cases d <;> exact h
    split at h'
    · rename_i u us h1 h2
      have hb := Option.some.inj h'
      have e1 := flat_v r1 h1
      have e2 := all_v (g := id) (fun r h => flat_v r h) s h2
      rw [List.map_id] at e2
      subst e1 e2
      refine ⟨fun z => .inl ⟨a, _, rfl, .inr q, flat_flat h1, flats_ok h2, ?_⟩, fun z => .inl ⟨a, _, rfl, .inr q, flat_flat h1, flats_ok h2, ?_⟩⟩
      · rw [hb]; exact z
      · rw [hb]; exact z
    · cases h'
  | str y =>
    refine .inr ⟨fun _ _ z => (nomatch z), fun Q => ?_⟩
    cases d with
    | str x =>
      simp only [inD] at h
      split at h
      · rename_i hs
        have hb := Option.some.inj h
        obtain ⟨rfl, _⟩ := r1.isStr
        obtain ⟨rfl, _⟩ := r2.isStr
        refine ⟨fun z => .inr ⟨x.cps.getD 0 0, y, congrArg V.str (str1 hs), rfl, ?_⟩, fun z => .inr ⟨x.cps.getD 0 0, y, congrArg V.str (str1 hs), rfl, ?_⟩⟩
        · rw [hb]; exact z
        · rw [hb]; exact z
      · cases h
    | _ => simp [inD] at h
  | _ => cases d <;> simp [inD] at h
theorem PT.or {e : Expr} {t u : TT} (h1 : PT X e t) (h2 : PT X e u) : PT X e (fun σ H Q => t σ H Q ∨ u σ H Q) := ⟨fun pins s σ H Q I h => h.elim (h1.run pins s σ H Q I) (h2.run pins s σ H Q I)⟩
/-- what two looks ahead of an operation come to -/
theorem sim_pair {ta tb : TE} {F : Addr → Prop} {H : Hp} {A : List Addr} {σ : St} {e : Env} {d d2 : D} (sa : SimB K W ta ma) (sb : SimB K W tb mb) (s : Sls K F H σ e A) (w : Wf F H A) (ea : ma e = .ok d) (eb : mb e = .ok d2)
    {R : V → V → Hp → Prop} (kk : ∀ v v2 H2 F2 B1 B2, Ext F H F2 H2 → Rp K F2 H2 v d B1 → Rp K F2 H2 v2 d2 B2 → R v v2 H2) : ta σ H fun x H1 => tb σ H1 fun y H2 => R x y H2 := by
  have qa := sa σ H F A e s w
  rw [ea] at qa
  refine qa _ fun v H1 F1 B1 x1 r1 => ?_
  have qb := sb σ H1 F1 A e (x1.sls s) (x1.wf w)
  rw [eb] at qb
  exact qb _ fun v2 H2 F2 B2 x2 r2 => kk v v2 H2 F2 B1 B2 (x1.trans x2) (x2.rp r1) r2
theorem sim_pairX {ta tb : TE} {F : Addr → Prop} {H : Hp} {A : List Addr} {σ : St} {e : Env} {d : D} {x : XD} (sa : SimB K W ta ma) (sb : SimB K W tb mb) (s : Sls K F H σ e A) (w : Wf F H A) (ea : ma e = .ok d) (eb : mb e = .er x)
    (k : ∀ cls dx H' F', Ext F H F' H' → Xr K F' H' x cls dx → W cls dx σ H') {R : V → V → Hp → Prop} : ta σ H fun x H1 => tb σ H1 fun y H2 => R x y H2 := by
  have qa := sa σ H F A e s w
  rw [ea] at qa
  refine qa _ fun v H1 F1 B1 x1 r1 => ?_
  have qb := sb σ H1 F1 A e (x1.sls s) (x1.wf w)
  rw [eb] at qb
  exact qb (fun cls dx H' F' x' r => k cls dx H' F' (x1.trans x') r) _
/-- the reading of in and not in, both kinds -/
def tInA (K : Frag) (neg : Bool) (ta tb : TE) : TE := fun σ H Q => (if neg = true then tOp (rNotInA K) ta tb σ H Q else tOp (rInA K) ta tb σ H Q) ∨ (if neg = true then tDNotIn ta tb σ H Q else tDIn ta tb σ H Q)
theorem sim_in {neg : Bool} {ta tb : TE} (sa : SimB K W ta ma) (sb : SimB K W tb mb) : SimB K W (tInA K neg ta tb) (mB2 (if neg = true then gNotIn else gIn) ma mb) := fun σ H F A e s w => by
  have qa := sa σ H F A e s w
  unfold mB2
  cases ea : ma e with
  | bad => trivial
  | er x =>
    rw [ea] at qa
    intro k Q
    refine .inl ?_
    cases neg with
    | true => exact iteT (qa k _)
    | false => exact iteF (qa k _)
  | ok d =>
    show OutB K W σ F H ((mb e).bind fun d' => ofO ((if neg = true then gNotIn else gIn) d d')) _
    cases eb : mb e with
    | bad => trivial
    | er x =>
      intro k Q
      refine .inl ?_
      cases neg with
      | true => exact iteT (sim_pairX sa sb s w ea eb k)
      | false => exact iteF (sim_pairX sa sb s w ea eb k)
    | ok d2 =>
      show OutB K W σ F H (ofO ((if neg = true then gNotIn else gIn) d d2)) _
      cases ei : inD d d2 with
      | none =>
        cases neg with
        | true =>
          have : (if true = true then gNotIn else gIn) d d2 = none := by simp [gNotIn, ei]
          rw [this]; trivial
        | false =>
          have : (if false = true then gNotIn else gIn) d d2 = none := by simp [gIn, ei]
          rw [this]; trivial
      | some b =>
        by_cases hd : ∃ o kvs, d2 = .dct o kvs
        · cases neg with
          | true =>
            have : (if true = true then gNotIn else gIn) d d2 = some (.bl (!b)) := by simp [gNotIn, ei]
            rw [this]
            intro Q k
            refine .inr (iteT (sim_pair sa sb s w ea eb fun v v2 H2 F2 B1 B2 x r1 r2 => ?_))
            rcases in_val r1 r2 ei with ⟨_, _, _, a, ov, rfl, g, hb⟩ | ⟨n, _⟩
            · exact ⟨a, ov, rfl, g, by rw [hb]; exact k _ H2 F2 [] x (.bl _)⟩
            · obtain ⟨o, kvs, rfl⟩ := hd; exact absurd rfl (n o kvs)
          | false =>
            have : (if false = true then gNotIn else gIn) d d2 = some (.bl b) := by simp [gIn, ei]
            rw [this]
            intro Q k
            refine .inr (iteF (sim_pair sa sb s w ea eb fun v v2 H2 F2 B1 B2 x r1 r2 => ?_))
            rcases in_val r1 r2 ei with ⟨_, _, _, a, ov, rfl, g, hb⟩ | ⟨n, _⟩
            · exact ⟨a, ov, rfl, g, by rw [hb]; exact k _ H2 F2 [] x (.bl _)⟩
            · obtain ⟨o, kvs, rfl⟩ := hd; exact absurd rfl (n o kvs)
        · cases neg with
          | true =>
            have : (if true = true then gNotIn else gIn) d d2 = some (.bl (!b)) := by simp [gNotIn, ei]
            rw [this]
            intro Q k
            refine .inl (iteT (sim_pair sa sb s w ea eb fun v v2 H2 F2 B1 B2 x r1 r2 => ?_))
            rcases in_val r1 r2 ei with ⟨o, kvs, e1, _⟩ | ⟨_, n⟩
            · exact absurd ⟨o, kvs, e1⟩ hd
            · exact (n Q).2 (k _ H2 F2 [] x (.bl _))
          | false =>
            have : (if false = true then gNotIn else gIn) d d2 = some (.bl b) := by simp [gIn, ei]
            rw [this]
            intro Q k
            refine .inl (iteF (sim_pair sa sb s w ea eb fun v v2 H2 F2 B1 B2 x r1 r2 => ?_))
            rcases in_val r1 r2 ei with ⟨o, kvs, e1, _⟩ | ⟨_, n⟩
            · exact absurd ⟨o, kvs, e1⟩ hd
            · exact (n Q).1 (k _ H2 F2 [] x (.bl _))
theorem sb_in (hu : X.A.units + 1 < cLine) (ha : SB X W a ma) (hb : SB X W b mb) (hm : behindInMarks .In b = false := by rfl) : SB X W (.Compare a [.In] [b] pos) (mB2 gIn ma mb) := by
  obtain ⟨ta, pa, sa⟩ := ha
  obtain ⟨tb, pb, sb⟩ := hb
  refine ⟨tInA X.K false ta tb, ⟨fun pins s σ H Q I h => h.elim (fun h => (pe_cmpR op_inA pa pb hm).run pins s σ H Q I ?_) fun h => (pe_cmp (pc_din hu pa pb) hm).run pins s σ H Q I ?_⟩, by simpa using sim_in (neg := false) sa sb⟩
  · simpa using h
  · simpa using h
theorem sb_notIn (hu : X.A.units + 1 < cLine) (ha : SB X W a ma) (hb : SB X W b mb) (hm : behindInMarks .NotIn b = false := by rfl) : SB X W (.Compare a [.NotIn] [b] pos) (mB2 gNotIn ma mb) := by
  obtain ⟨ta, pa, sa⟩ := ha
  obtain ⟨tb, pb, sb⟩ := hb
  refine ⟨tInA X.K true ta tb, ⟨fun pins s σ H Q I h => h.elim (fun h => (pe_cmpR op_notInA pa pb hm).run pins s σ H Q I ?_) fun h => (pe_cmp (pc_dnotin hu pa pb) hm).run pins s σ H Q I ?_⟩, by simpa using sim_in (neg := true) sa sb⟩
  · simpa using h
  · simpa using h
theorem st_in (hu : X.A.units + 1 < cLine) (ha : SB X W a ma) (hb : SB X W b mb) (hm : behindInMarks .In b = false := by rfl) : ST X W (.Compare a [.In] [b] pos) (mCold (mB2 gIn ma mb)) := by
  obtain ⟨ta, pa, sa⟩ := ha
  obtain ⟨tb, pb, sb⟩ := hb
  refine ⟨tB (tInA X.K false ta tb), ⟨fun pins s σ H Q I h => h.elim (fun h => (pt_cmpR op_inA pa pb hm).run pins s σ H Q I ?_) fun h => (pt_cmp (pc_din hu pa pb) hm).run pins s σ H Q I ?_⟩, fun σ H F A e s w => out_tB ?_⟩
  · exact h
  · exact h
  · exact (show SimB X.K W (tInA X.K false ta tb) (mB2 gIn ma mb) by simpa using sim_in (neg := false) sa sb).cold σ H F A e s w
theorem st_notIn (hu : X.A.units + 1 < cLine) (ha : SB X W a ma) (hb : SB X W b mb) (hm : behindInMarks .NotIn b = false := by rfl) : ST X W (.Compare a [.NotIn] [b] pos) (mCold (mB2 gNotIn ma mb)) := by
  obtain ⟨ta, pa, sa⟩ := ha
  obtain ⟨tb, pb, sb⟩ := hb
  refine ⟨tB (tInA X.K true ta tb), ⟨fun pins s σ H Q I h => h.elim (fun h => (pt_cmpR op_notInA pa pb hm).run pins s σ H Q I ?_) fun h => (pt_cmp (pc_dnotin hu pa pb) hm).run pins s σ H Q I ?_⟩, fun σ H F A e s w => out_tB ?_⟩
  · exact h
  · exact h
  · exact (show SimB X.K W (tInA X.K true ta tb) (mB2 gNotIn ma mb) by simpa using sim_in (neg := true) sa sb).cold σ H F A e s w
end
end G
set_option Elab.async false
set_option linter.all false
set_option maxRecDepth 100000
set_option maxHeartbeats 4000000
namespace G
open PySem L2
theorem call_lenA {X : Cx} : CallR X (.builtin "len") (rLenA X.K) := call_len.or (by
  intro pins s σ H xs us Q I r h
  obtain ⟨a, kvs, rfl, ha, q⟩ := h
  obtain ⟨u, rfl, ru⟩ := vals1 r
  cases ru
  exact d_len I ha fun t s' I' => ⟨.int kvs.length, H, I', ⟨t, rfl⟩, q⟩)

/-! ### isinstance -/
structure ClsOk (K : Frag) (C : Addr) : Prop where
  cl : Cls K C
  ha : PySem.W.findIn K (.ref C) "__class__" = some (some (.builtin "object.__class__"))
  hn : PySem.W.specialIn K (.builtin "object.__class__") "__get__" = some (some (.builtin "getset_descriptor.__get__"))
  htk : PySem.W.takesIn K (.builtin "object.__class__") = some true
  hm : PySem.W.mroIn K C (.type "object") = some true
def names6 : List String := ["int", "bool", "str", "list", "tuple", "dict"]
def names7 : List String := ["NoneType", "int", "bool", "str", "list", "tuple", "dict"]
structure OwnCls (K : Frag) (cs : List Addr) : Prop where
  ok : ∀ C ∈ cs, ClsOk K C
  tt : ∀ C ∈ cs, ∀ a ∈ names7, PySem.W.kitOne K (.type a) (.ref C) = some false
  ty : ∀ C ∈ cs, ∀ b ∈ names6, PySem.W.kitOne K (.ref C) (.type b) = some false
  oo : ∀ C ∈ cs, ∀ C' ∈ cs, PySem.W.kitOne K (.ref C) (.ref C') = some (decide (C = C'))
def kitT (a b : String) : Option Bool := if names7.contains a && names6.contains b then some (a == b || (a == "bool" && b == "int")) else none
theorem kitT_ok {K : Frag} {a b : String} {r : Bool} (h : kitT a b = some r) : PySem.W.kitOne K (.type a) (.type b) = some r := by
  unfold kitT at h
  split at h
  · rename_i hc
    simp only [Bool.and_eq_true, List.contains_iff_mem] at hc
    obtain ⟨h1, h2⟩ := hc
    have e := Option.some.inj h
    subst e
    refine kit_ty ?_
    simp only [names7, List.mem_cons, List.not_mem_nil, or_false] at h1
    simp only [names6, List.mem_cons, List.not_mem_nil, or_false] at h2
    rcases h1 with rfl | rfl | rfl | rfl | rfl | rfl | rfl <;> rcases h2 with rfl | rfl | rfl | rfl | rfl | rfl <;> decide +kernel
  · cases h
def tyD : D → Option Value
  | .non => some (.type "NoneType")
  | .bl _ => some (.type "bool")
  | .int _ => some (.type "int")
  | .str _ => some (.type "str")
  | .tup _ => some (.type "tuple")
  | .lst _ _ => some (.type "list")
  | .dct _ _ => some (.type "dict")
  | .ins _ C _ => some (.ref C)
  | .cst _ => none
def isi1 (cs : List Addr) (d : D) (c : V) : Option Bool := match tyD d, c with
  | some (.type a), .ty b => kitT a b
  | some (.type a), .ref C => if C ∈ cs then (if names7.contains a = true then some false else none) else none
  | some (.ref C), .ty b => if C ∈ cs then (if names6.contains b = true then some false else none) else none
  | some (.ref C), .ref C' => if C ∈ cs then (if C' ∈ cs then some (decide (C = C')) else none) else none
  | _, _ => none
def clsU : V → Value
  | .ty n => .type n
  | .ref C => .ref C
  | _ => .none
section
variable {K : Frag} {cs : List Addr}
theorem tyD_ok {F : Addr → Prop} {H : Hp} {v : V} {d : D} {B : List Addr} {t : Value} (O : OwnCls K cs) (r : Rp K F H v d B) (h : tyD d = some t) (hc : ∀ C, t = .ref C → C ∈ cs) : TyX K H v t := by
  cases r with
  | non => have := Option.some.inj h; subst this; exact .base .non
  | bl b => have := Option.some.inj h; subst this; exact .base (.bl b)
  | int b => have := Option.some.inj h; subst this; exact .base (.int b)
  | str b => have := Option.some.inj h; subst this; exact .base (.str b)
  | cst b => cases h
  | tup q r =>
    have := Option.some.inj h; subst this
    rcases q with (q | ⟨o, q⟩) | ⟨o, its, n, hk, hcl, _⟩
    · exact .base (.tup q)
    · exact .fTuple q
    · exact .kTuple hk hcl
  | lstF f q r =>
    have := Option.some.inj h; subst this
    rcases q with q | ⟨o, q⟩
    · exact .base (.lst q)
    · exact .base (.frz q)
  | lstK q r =>
    have := Option.some.inj h; subst this
    obtain ⟨o, its, n, hk, hcl, _⟩ := q
    exact .kList hk hcl
  | lstO q r => have := Option.some.inj h; subst this; exact .base (.lst q)
  | dctF f q e r =>
    have := Option.some.inj h; subst this
    rcases q with q | ⟨o, q⟩
    · exact .base (.dK q)
    · exact .fDict q
  | dctO q e r => have := Option.some.inj h; subst this; exact .base (.dK q)
  | insF f q e r =>
    have := Option.some.inj h; subst this
    have k := O.ok _ (hc _ rfl)
    exact .base (.ins q k.cl k.ha k.hn k.htk k.hm)
  | insO q e r =>
    have := Option.some.inj h; subst this
    have k := O.ok _ (hc _ rfl)
    exact .base (.ins q k.cl k.ha k.hn k.htk k.hm)
theorem isi1_ok {F : Addr → Prop} {H : Hp} {v : V} {d : D} {B : List Addr} {c : V} {b : Bool} (O : OwnCls K cs) (r : Rp K F H v d B) (h : isi1 cs d c = some b) : ∃ t, TyX K H v t ∧ ClsV c (clsU c) ∧ PySem.W.kitOne K t (clsU c) = some b := by
  unfold isi1 at h
  split at h
  · rename_i a n ht
    exact ⟨_, tyD_ok O r ht (fun C z => nomatch z), .ty _, kitT_ok h⟩
  · rename_i a C ht
    split at h
    · rename_i hC
      split at h
      · rename_i ha
        have e := Option.some.inj h; subst e
        exact ⟨_, tyD_ok O r ht (fun C z => nomatch z), .own _, O.tt C hC a (by simpa [List.contains_iff_mem] using ha)⟩
      · cases h
    · cases h
  · rename_i C n ht
    split at h
    · rename_i hC
      split at h
      · rename_i ha
        have e := Option.some.inj h; subst e
        exact ⟨_, tyD_ok O r ht (fun C' z => by cases z; exact hC), .ty _, O.ty C hC n (by simpa [List.contains_iff_mem] using ha)⟩
      · cases h
    · cases h
  · rename_i C C' ht
    split at h
    · rename_i hC
      split at h
      · rename_i hC'
        have e := Option.some.inj h; subst e
        exact ⟨_, tyD_ok O r ht (fun C' z => by cases z; exact hC), .own _, O.oo C hC C' hC'⟩
      · cases h
    · cases h
  · cases h
def isiA (cs : List Addr) (d : D) : List V → Option Bool
  | [] => some false
  | c :: r => match isi1 cs d c with
    | some true => some true
    | some false => isiA cs d r
    | none => none
theorem isiA_ok {F : Addr → Prop} {H : Hp} {v : V} {d : D} {B : List Addr} {t : Value} (O : OwnCls K cs) (r : Rp K F H v d B) : ∀ {l : List V} {b : Bool}, isiA cs d l = some b → l ≠ [] → ∃ t, tyD d = some t ∧ TyX K H v t
  | [], b, h, n => absurd rfl n
  | c :: l, b, h, _ => by
    simp only [isiA] at h
    cases e : isi1 cs d c with
    | none => rw [e] at h; cases h
    | some q =>
      cases et : tyD d with
      | none => simp [isi1, et] at e
      | some t =>
        refine ⟨t, rfl, tyD_ok O r et fun C z => ?_⟩
        subst z
        unfold isi1 at e
        rw [et] at e
        cases c <;> simp at e <;> exact e.1
theorem kitAny_ok {F : Addr → Prop} {H : Hp} {v : V} {d : D} {B : List Addr} {t : Value} (O : OwnCls K cs) (r : Rp K F H v d B) (ht : tyD d = some t) : ∀ {l : List V} {b : Bool}, isiA cs d l = some b → PySem.W.kitAny K t (l.map clsU) = some b
  | [], b, h => by
    have e := Option.some.inj h; subst e
    rfl
  | c :: l, b, h => by
    simp only [isiA] at h
    cases e : isi1 cs d c with
    | none => rw [e] at h; cases h
    | some q =>
      rw [e] at h
      have hk : PySem.W.kitOne K t (clsU c) = some q ∧ ClsV c (clsU c) := by
        obtain ⟨t', _, k, kk⟩ := isi1_ok O r e
        refine ⟨?_, k⟩
        unfold isi1 at e
        rw [ht] at e
        split at e
        · rename_i a n h1
          have := Option.some.inj h1; subst this
          exact kitT_ok e
        · rename_i a C h1
          have := Option.some.inj h1; subst this
          split at e
          · rename_i hC
            split at e
            · rename_i ha
              have e := Option.some.inj e; subst e
              exact O.tt C hC a (by simpa [List.contains_iff_mem] using ha)
            · cases e
          · cases e
        · rename_i C n h1
          have := Option.some.inj h1; subst this
          split at e
          · rename_i hC
            split at e
            · rename_i ha
              have e := Option.some.inj e; subst e
              exact O.ty C hC n (by simpa [List.contains_iff_mem] using ha)
            · cases e
          · cases e
        · rename_i C C' h1
          have := Option.some.inj h1; subst this
          split at e
          · rename_i hC
            split at e
            · rename_i hC'
              have e := Option.some.inj e; subst e
              exact O.oo C hC C' hC'
            · cases e
          · cases e
        · cases e
      cases q with
      | true =>
        have e := Option.some.inj h; subst e
        show (match PySem.W.kitOne K t (clsU c) with
            | some true => some true
            | some false => PySem.W.kitAny K t (l.map clsU)
            | none => none) = some true
        rw [hk.1]
      | false =>
        have h1 := kitAny_ok O r ht h
        show (match PySem.W.kitOne K t (clsU c) with
            | some true => some true
            | some false => PySem.W.kitAny K t (l.map clsU)
            | none => none) = some b
        rw [hk.1]; exact h1
def isCls : V → Bool
  | .ty _ => true
  | .ref _ => true
  | _ => false
theorem clsV_all : ∀ {l : List V}, (∀ c ∈ l, isCls c = true) → Paired ClsV l (l.map clsU)
  | [], _ => .nil
  | c :: l, h => by
    refine .cons ?_ (clsV_all fun x z => h x (List.mem_cons_of_mem _ z))
    have q := h c List.mem_cons_self
    cases c <;> first | exact .ty _ | exact .own _ | cases q
end
section
variable {X : Cx} {W : WX} {a b c o : Expr} {es : List Expr} {ma mb mc : MB} {na nb nc : ME} {pos p : Pos} {K : Frag}
/-- classes, written -/
inductive TyEs (X : Cx) : List Expr → List V → Prop
  | nil : TyEs X [] []
  | cons {e : Expr} {es : List Expr} {v : V} {vs : List V} (h : PE X e (tC v)) (r : TyEs X es vs) (hc : isCls v = true := by rfl) (hs : starEach (e :: es) X.env = (false, eval e X.env) :: starEach es X.env := by rfl) : TyEs X (e :: es) (v :: vs)
theorem TyEs.pa {vs : List V} (h : TyEs X es vs) : ∃ t, PA X es t ∧ (∀ σ H Q, Q vs H → t σ H Q) ∧ ∀ c ∈ vs, isCls c = true := by
  induction h with
  | nil => exact ⟨_, pa_nil, fun _ _ _ h => h, fun _ z => (nomatch z)⟩
  | cons h r hc hs ih =>
    obtain ⟨t, pt, k, kc⟩ := ih
    exact ⟨_, pa_cons h pt hs, fun σ H Q q => k σ H _ q, fun c z => (List.mem_cons.mp z).elim (fun e => by rw [e]; exact hc) (kc c)⟩
def gIsi (cs : List Addr) (l : List V) (d : D) : Option D := (isiA cs d l).map fun b => .bl b
/-- isinstance(e, (C1, C2, ..)) -/
theorem sb_isiT {cs : List Addr} {vs : List V} {k} {tpos p1 : Pos} (O : OwnCls X.K cs) (hgl : Gl X "isinstance") (hm : X.mg "isinstance" = none) (ha : SB X W a ma) (ht : TyEs X es vs) (hv : vs ≠ [] := by simp) (hl : vs.length ≤ sizeLine := by decide)
    (he : starEach [a, .Tuple es k tpos] X.env = (false, eval a X.env) :: starEach [.Tuple es k tpos] X.env := by rfl) (he2 : starEach [.Tuple es k tpos] X.env = (false, eval (.Tuple es k tpos) X.env) :: starEach [] X.env := by rfl)
    (hpl : (backTo pos (starEach [.Tuple es k tpos] X.env)).any (·.1) = false := by rfl) :
    SB X W (.Call (.Name "isinstance" p1) [a, .Tuple es k tpos] [] pos) (mB1 (gIsi cs vs) ma) := by
  obtain ⟨ta, pa, sa⟩ := ha
  obtain ⟨tt, ptt, kt, kc⟩ := ht.pa
  refine ⟨_, pe_callB call_isiT hgl hm PyProof.Rows.boot_isinstance (pa_cons pa (pa_cons (pe_tup ptt) pa_nil he2) he) (by decide) (by decide) he hpl, fun σ H F A e s w => ?_⟩
  have qa := sa σ H F A e s w
  unfold mB1
  cases ea : ma e with
  | bad => trivial
  | er x => rw [ea] at qa; exact fun k Q => qa k _
  | ok d =>
    rw [ea] at qa
    show OutB X.K W σ F H (ofO (gIsi cs vs d)) _
    cases ei : isiA cs d vs with
    | none =>
      have : gIsi cs vs d = none := by simp [gIsi, ei]
      rw [this]; trivial
    | some b =>
      have : gIsi cs vs d = some (.bl b) := by simp [gIsi, ei]
      rw [this]
      intro Q k
      refine qa _ fun v H1 F1 B1 x1 r1 => ?_
      refine kt σ H1 _ ⟨hl, fun q hq => ?_⟩
      obtain ⟨t, e1, _⟩ := isiA_ok (t := .none) O r1 ei hv
      have x2 : Ext F1 H1 F1 (upd H1 q (.tup vs)) := .laid hq x1.dom
      have r2 := x2.rp r1
      obtain ⟨t', e2, e3⟩ := isiA_ok (t := .none) O r2 ei hv
      exact ⟨v, q, vs, t', _, b, rfl, upd_same, clsV_all kc, e3, kitAny_ok O r2 e2 ei, k _ _ F1 [] (x1.trans x2) (.bl _)⟩
theorem sb_isi {cs : List Addr} {cv : V} {c : Expr} {p1 : Pos} (O : OwnCls X.K cs) (hgl : Gl X "isinstance") (hm : X.mg "isinstance" = none) (ha : SB X W a ma) (hc : PE X c (tC cv))
    (he : starEach [a, c] X.env = (false, eval a X.env) :: starEach [c] X.env := by rfl) (he2 : starEach [c] X.env = (false, eval c X.env) :: starEach [] X.env := by rfl)
    (hpl : (backTo pos (starEach [c] X.env)).any (·.1) = false := by rfl) :
    SB X W (.Call (.Name "isinstance" p1) [a, c] [] pos) (mB1 (gIsi cs [cv]) ma) := by
  obtain ⟨ta, pa, sa⟩ := ha
  refine ⟨_, pe_callB call_isi hgl hm PyProof.Rows.boot_isinstance (pa_cons pa (pa_cons hc pa_nil he2) he) (by decide) (by decide) he hpl, fun σ H F A e s w => ?_⟩
  have qa := sa σ H F A e s w
  unfold mB1
  cases ea : ma e with
  | bad => trivial
  | er x => rw [ea] at qa; exact fun k Q => qa k _
  | ok d =>
    rw [ea] at qa
    show OutB X.K W σ F H (ofO (gIsi cs [cv] d)) _
    cases ei : isi1 cs d cv with
    | none =>
      have : gIsi cs [cv] d = none := by simp [gIsi, isiA, ei]
      rw [this]; trivial
    | some b =>
      have : gIsi cs [cv] d = some (.bl b) := by cases b <;> simp [gIsi, isiA, ei]
      rw [this]
      intro Q k
      refine qa _ fun v H1 F1 B1 x1 r1 => ?_
      obtain ⟨t, h1, h2, h3⟩ := isi1_ok O r1 ei
      exact ⟨v, cv, t, _, b, rfl, h2, h1, h3, k _ _ F1 [] x1 (.bl _)⟩

/-! ### a < b < c -/
def mChain (g g' : D → D → Option D) (ma mb mc : MB) : MB := fun e => (ma e).bind fun d => (mb e).bind fun d2 => match g d d2 with
  | some (.bl true) => (mc e).bind fun d3 => ofO (g' d2 d3)
  | some (.bl false) => .ok (.bl false)
  | _ => .bad
theorem sim_chain {r r' : R2} {g g' : D → D → Option D} {ta tb tc : TE} (hg : OpV2 K r g) (hg' : OpV2 K r' g') (sa : SimB K W ta ma) (sb : SimB K W tb mb) (sc : SimB K W tc mc) : SimB K W (tChain r r' ta tb tc) (mChain g g' ma mb mc) := fun σ H F A e s w => by
  have qa := sa σ H F A e s w
  unfold mChain
  cases ea : ma e with
  | bad => trivial
  | er x => rw [ea] at qa; exact fun k Q => qa k _
  | ok d =>
    show OutB K W σ F H ((mb e).bind fun d2 => match g d d2 with
      | some (.bl true) => (mc e).bind fun d3 => ofO (g' d2 d3)
      | some (.bl false) => .ok (.bl false)
      | _ => .bad) _
    cases eb : mb e with
    | bad => trivial
    | er x => exact fun k Q => sim_pairX sa sb s w ea eb k
    | ok d2 =>
      show OutB K W σ F H (match g d d2 with
      | some (.bl true) => (mc e).bind fun d3 => ofO (g' d2 d3)
      | some (.bl false) => .ok (.bl false)
      | _ => .bad) _
      cases eg : g d d2 with
      | none => trivial
      | some z =>
        cases z with
        | bl b =>
          cases b with
          | false =>
            intro Q k
            refine sim_pair sa sb s w ea eb fun v v2 H2 F2 B1 B2 x2 r1 r2 => ?_
            refine hg F2 H2 v v2 d d2 _ B1 B2 x2.dom r1 r2 eg _ fun u H3 F3 C x3 r3 o => ?_
            obtain ⟨rfl, _⟩ := r3.isBl
            exact ⟨false, rfl, iteF (k _ H3 F3 [] (x2.trans x3) (.bl _))⟩
          | true =>
            show OutB K W σ F H ((mc e).bind fun d3 => ofO (g' d2 d3)) _
            cases ec : mc e with
            | bad => trivial
            | er x =>
              intro k Q
              refine sim_pair sa sb s w ea eb fun v v2 H2 F2 B1 B2 x2 r1 r2 => ?_
              refine hg F2 H2 v v2 d d2 _ B1 B2 x2.dom r1 r2 eg _ fun u H3 F3 C x3 r3 o => ?_
              obtain ⟨rfl, _⟩ := r3.isBl
              have qc := sc σ H3 F3 A e ((x2.trans x3).sls s) ((x2.trans x3).wf w)
              rw [ec] at qc
              exact ⟨true, rfl, iteT (qc (fun cls dx H' F' x' r => k cls dx H' F' ((x2.trans x3).trans x') r) _)⟩
            | ok d3 =>
              show OutB K W σ F H (ofO (g' d2 d3)) _
              cases eg' : g' d2 d3 with
              | none => trivial
              | some z =>
                intro Q k
                refine sim_pair sa sb s w ea eb fun v v2 H2 F2 B1 B2 x2 r1 r2 => ?_
                refine hg F2 H2 v v2 d d2 _ B1 B2 x2.dom r1 r2 eg _ fun u H3 F3 C x3 r3 o => ?_
                obtain ⟨rfl, _⟩ := r3.isBl
                have qc := sc σ H3 F3 A e ((x2.trans x3).sls s) ((x2.trans x3).wf w)
                rw [ec] at qc
                refine ⟨true, rfl, iteT (qc _ fun v3 H4 F4 B4 x4 r4 => ?_)⟩
                exact hg' F4 H4 v2 v3 d2 d3 z B2 B4 x4.dom ((x3.trans x4).rp r2) r4 eg' Q fun u H5 F5 C5 x5 r5 _ => k u H5 F5 C5 (((x2.trans x3).trans x4).trans x5) r5
        | _ => trivial
theorem sb_chain {op op' : CmpOp} {r r' : R2} {g g' : D → D → Option D} (ho : OpR X (compareOp op) r) (ho' : OpR X (compareOp op') r') (hg : OpV2 X.K r g) (hg' : OpV2 X.K r' g') (ha : SB X W a ma) (hb : SB X W b mb) (hc : SB X W c mc)
    (hm : lastMarks [op, op'] [b, c] = false := by with_unfolding_all rfl) : SB X W (.Compare a [op, op'] [b, c] pos) (mChain g g' ma mb mc) :=
  let ⟨ta, pa, sa⟩ := ha; let ⟨tb, pb, sb⟩ := hb; let ⟨tc, pc, sc⟩ := hc; ⟨_, pe_chain ho ho' pa pb pc hm, sim_chain hg hg' sa sb sc⟩
theorem st_chain {op op' : CmpOp} {r r' : R2} {g g' : D → D → Option D} (ho : OpR X (compareOp op) r) (ho' : OpR X (compareOp op') r') (hg : OpV2 X.K r g) (hg' : OpV2 X.K r' g') (ha : SB X W a ma) (hb : SB X W b mb) (hc : SB X W c mc)
    (hm : lastMarks [op, op'] [b, c] = false := by with_unfolding_all rfl) : ST X W (.Compare a [op, op'] [b, c] pos) (mCold (mChain g g' ma mb mc)) :=
  let ⟨ta, pa, sa⟩ := ha; let ⟨tb, pb, sb⟩ := hb; let ⟨tc, pc, sc⟩ := hc; ⟨_, pt_chain ho ho' pa pb pc hm, fun σ H F A e s w => out_tB ((sim_chain hg hg' sa sb sc).cold σ H F A e s w)⟩

/-! ### slices -/
inductive Ro where
  | ok (o : Option Int) | er (x : XD) | bad
abbrev MO := Env → Ro
def oNone : MO := fun _ => .ok none
def oSome (m : MB) : MO := fun e => match m e with
  | .ok (.int i) => .ok (some i)
  | .ok _ => .bad
  | .er x => .er x
  | .bad => .bad
def SimO (K : Frag) (W : WX) (t : TO) (m : MO) : Prop := ∀ σ H F A e, Sls K F H σ e A → Wf F H A → match m e with
  | .ok o => ∀ Q : Option Int → Hp → Prop, (∀ H' F', Ext F H F' H' → Q o H') → t σ H Q
  | .er x => (∀ cls dx H' F', Ext F H F' H' → Xr K F' H' x cls dx → W cls dx σ H') → ∀ Q, t σ H Q
  | .bad => True
def SO (X : Cx) (W : WX) (o : Option Expr) (m : MO) : Prop := ∃ t, PO X o t ∧ SimO X.K W t m
theorem so_none : SO X W none oNone := ⟨_, po_none, fun σ H F A e s w Q k => k H F (.refl w.dom)⟩
theorem so_some (h : SB X W a ma) : SO X W (some a) (oSome ma) := by
  obtain ⟨t, pt, st⟩ := h
  refine ⟨_, po_some pt, fun σ H F A e s w => ?_⟩
  have q := st σ H F A e s w
  unfold oSome
  cases em : ma e with
  | bad => trivial
  | er x => rw [em] at q; exact fun k Q => q k _
  | ok d =>
    rw [em] at q
    cases d with
    | int i =>
      intro Q k
      refine q _ fun v H' F' B x r => ?_
      obtain ⟨rfl, _⟩ := r.isInt
      exact ⟨i, rfl, k H' F' x⟩
    | _ => trivial
def cutD (xs : List D) (lo hi : Option Int) : List D := (xs.drop (HT.sIx xs.length 0 lo)).take (HT.sIx xs.length xs.length hi - HT.sIx xs.length 0 lo)
def slD (d : D) (lo hi : Option Int) : Option D := match d with
  | .lst _ ds => if colds ds = true then some (.lst true (cutD ds lo hi)) else none
  | .tup ds => some (.tup (cutD ds lo hi))
  | .str x => if x.length ≤ sizeLine then some (.str (cutS x lo hi)) else none
  | _ => none
theorem Rps.drop {F : Addr → Prop} {H : Hp} : ∀ {vs : List V} {ds : List D} (n : Nat), Rps K F H vs ds [] → Rps K F H (vs.drop n) (ds.drop n) []
  | _, _, 0, r => r
  | _, _, _ + 1, .nil => .nil
  | _, _, n + 1, .cons a b e => by
    obtain ⟨e1, e2⟩ := app_nil e
    subst e1 e2
    exact Rps.drop n b
theorem Rps.take {F : Addr → Prop} {H : Hp} : ∀ {vs : List V} {ds : List D} (n : Nat), Rps K F H vs ds [] → Rps K F H (vs.take n) (ds.take n) []
  | _, _, 0, _ => .nil
  | _, _, _ + 1, .nil => .nil
  | _, _, n + 1, .cons a b e => by
    obtain ⟨e1, e2⟩ := app_nil e
    subst e1 e2
    exact .cons a (Rps.take n b) rfl
theorem cut_rps {F : Addr → Prop} {H : Hp} {vs : List V} {ds : List D} {lo hi : Option Int} (r : Rps K F H vs ds []) : Rps K F H (cutV vs lo hi) (cutD ds lo hi) [] := by
  unfold cutV cutD
  rw [r.length]
  exact (r.drop _).take _
def rSlAll (K : Frag) : V → Option Int → Option Int → Hp → VK → Prop := fun x lo hi H Q => rSlL K x lo hi H Q ∨ rSlA K x lo hi H Q ∨ rSlS x lo hi H Q
theorem sl_all : SlR X (rSlAll X.K) := sl_list.or (sl_tupA.or sl_str)
theorem sl_val {F : Addr → Prop} {H : Hp} {v : V} {d z : D} {A : List Addr} {lo hi : Option Int} (dom : ∀ a, F a → ∃ o, H a = some o) (r : Rp K F H v d A) (h : slD d lo hi = some z) (Q : VK) (k : ∀ u H' F' C, Ext F H F' H' → Rp K F' H' u z C → Own H F' C → Q u H') : rSlAll K v lo hi H Q := by
  cases d with
  | lst o ds =>
    simp only [slD] at h
    split at h
    · rename_i hc
      have e := Option.some.inj h; subst e
      obtain ⟨a, vs, C, rfl, q, s, _⟩ := r.seqL
      have eC := s.cold hc; subst eC
      exact .inl ⟨a, vs, rfl, q, fun p hp => k _ _ F [p] (.laid hp dom) (.lstO upd_same (upd_rps hp (cut_rps s))) (.one hp (notF dom hp))⟩
    · cases h
  | tup ds =>
    simp only [slD, Option.some.injEq] at h
    subst h
    obtain ⟨a, vs, rfl, q, s, _⟩ := r.seqT
    refine .inr (.inl ⟨a, vs, rfl, q, fun hw => ?_, fun hw p hp => k _ _ F [] (.laid hp dom) (.tup (SqT.of upd_same) (upd_rps hp (cut_rps s))) .nil⟩)
    have ee : cutD ds lo hi = ds := by
      unfold cutD
      rw [← s.length, hw.1, hw.2]
      simp [s.length]
    rw [ee] at k
    exact k _ H F [] (.refl dom) (.tup q s) .nil
  | str x =>
    simp only [slD] at h
    split at h
    · rename_i hl
      have e := Option.some.inj h; subst e
      obtain ⟨rfl, _⟩ := r.isStr
      exact .inr (.inr ⟨x, rfl, hl, k _ H F [] (.refl dom) (.str _) .nil⟩)
    · cases h
  | _ => simp [slD] at h
def mSl (ma : MB) (ml mh : MO) : ME := fun e => match ma e with
  | .ok d => (match ml e with
    | .ok lo => (match mh e with
      | .ok hi => (match slD d lo hi with
        | some z => .ok z e
        | none => .bad)
      | .er x => .er x e
      | .bad => .bad)
    | .er x => .er x e
    | .bad => .bad)
  | .er x => .er x e
  | .bad => .bad
theorem se_sl {lo hi : Option Expr} {ml mh : MO} {p2 : Pos} (ha : SB X W a ma) (hl : SO X W lo ml) (hh : SO X W hi mh) : SE X W (.Subscript a (.Slice lo hi none p2) pos) (mSl ma ml mh) := by
  obtain ⟨ta, pa, sa⟩ := ha
  obtain ⟨tl, pl, sl⟩ := hl
  obtain ⟨th, ph, sh⟩ := hh
  refine ⟨_, pe_slice sl_all pa pl ph, fun σ H F A e s w => ?_⟩
  have qa := sa σ H F A e s w
  unfold mSl
  cases ea : ma e with
  | bad => trivial
  | er x => rw [ea] at qa; exact fun k Q => qa (fun cls dx H' F' x' r => k cls dx H' F' A (x'.sls s) (x'.wf w) x'.step r) _
  | ok d =>
    rw [ea] at qa
    show OutE X.K W σ F H A (match ml e with
    | .ok lo => (match mh e with
      | .ok hi => (match slD d lo hi with
        | some z => .ok z e
        | none => .bad)
      | .er x => .er x e
      | .bad => .bad)
    | .er x => .er x e
    | .bad => .bad) _
    cases el : ml e with
    | bad => trivial
    | er x =>
      intro k Q
      refine qa _ fun v H1 F1 B1 x1 r1 => ?_
      have qb := sl σ H1 F1 A e (x1.sls s) (x1.wf w)
      rw [el] at qb
      exact qb (fun cls dx H' F' x' r => k cls dx H' F' A ((x1.trans x').sls s) ((x1.trans x').wf w) (x1.trans x').step r) _
    | ok lo =>
      show OutE X.K W σ F H A (match mh e with
      | .ok hi => (match slD d lo hi with
        | some z => .ok z e
        | none => .bad)
      | .er x => .er x e
      | .bad => .bad) _
      cases eh : mh e with
      | bad => trivial
      | er x =>
        intro k Q
        refine qa _ fun v H1 F1 B1 x1 r1 => ?_
        have qb := sl σ H1 F1 A e (x1.sls s) (x1.wf w)
        rw [el] at qb
        refine qb _ fun H2 F2 x2 => ?_
        have x12 := x1.trans x2
        have qc := sh σ H2 F2 A e (x12.sls s) (x12.wf w)
        rw [eh] at qc
        exact qc (fun cls dx H' F' x' r => k cls dx H' F' A ((x12.trans x').sls s) ((x12.trans x').wf w) (x12.trans x').step r) _
      | ok hi =>
        show OutE X.K W σ F H A (match slD d lo hi with
        | some z => .ok z e
        | none => .bad) _
        cases es : slD d lo hi with
        | none => trivial
        | some z =>
          intro Q k
          refine qa _ fun v H1 F1 B1 x1 r1 => ?_
          have qb := sl σ H1 F1 A e (x1.sls s) (x1.wf w)
          rw [el] at qb
          refine qb _ fun H2 F2 x2 => ?_
          have x12 := x1.trans x2
          have qc := sh σ H2 F2 A e (x12.sls s) (x12.wf w)
          rw [eh] at qc
          refine qc _ fun H3 F3 x3 => ?_
          have x13 := x12.trans x3
          refine sl_val x13.dom ((x2.trans x3).rp r1) es Q fun u H' F' C x r o => ?_
          exact k u H' F' A C (x.sls (x13.sls s)) r (o.wf x (x13.wf w) r) (x13.step.trans (o.step x))
end
end G
set_option Elab.async false
set_option linter.all false
set_option maxRecDepth 100000
set_option maxHeartbeats 4000000
namespace G
open PySem L2
section
variable {X : Cx} {W : WX} {ps : List Nat} {a b c o : Expr} {es : List Expr} {ma mb mc : MB} {na nb nc : ME} {pos p : Pos} {K : Frag}

/-! ### a name as a value: frozen, or moved out -/
def mFrz (i : Nat) : ME := fun e => match e[i]? with
  | some (some d) => .ok d.frz (e.set i (some d.frz))
  | _ => .bad
def mMove (i : Nat) : ME := fun e => match e[i]? with
  | some (some d) => .ok d (e.set i none)
  | _ => .bad
theorem sim_frz {i : Nat} : SimE K W (tVar i) (mFrz i) := fun σ H F A e s w => by
  unfold mFrz
  split
  · rename_i d h
    intro Q k
    obtain ⟨v, L, B, R, h1, r, rfl, h2, h3⟩ := s.lens h
    have wp : Wf F H ((L ++ R) ++ B) := w.perm (by
      rw [List.append_assoc, List.append_assoc]; exact List.Perm.append_left _ List.perm_append_comm)
    obtain ⟨w2, t2⟩ := freeze (F' := F) wp
    refine ⟨v, h1, k v H (fun a => F a ∨ a ∈ B) (L ++ R) [] ?_ (r.frz (fun _ h => .inl h) fun _ h => .inr h) (by simpa using w2) ?_⟩
    · have := h2 (fun a => F a ∨ a ∈ B) H d.frz [] (fun _ h => .inl h) (fun a o e _ => e) (r.frz (fun _ h => .inl h) fun _ h => .inr h)
      simpa using this
    · rw [List.append_nil]
      exact t2.mem (fun a => by simp [or_assoc, or_comm, or_left_comm]) fun _ => Iff.rfl
  · trivial
theorem sim_move {i : Nat} : SimE K W (tVar i) (mMove i) := fun σ H F A e s w => by
  unfold mMove
  split
  · rename_i d h
    intro Q k
    obtain ⟨v, L, B, R, h1, r, rfl, h2, h3⟩ := s.lens h
    have wp : Wf F H ((L ++ R) ++ B) := w.perm (by
      rw [List.append_assoc, List.append_assoc]; exact List.Perm.append_left _ List.perm_append_comm)
    exact ⟨v, h1, k v H F (L ++ R) B (h3 F H (fun _ h => h) fun a o e _ => e) r wp (Step.refl.mem (fun _ => Iff.rfl) fun a => by simp [or_assoc, or_comm, or_left_comm])⟩
  · trivial
theorem se_frz (i : Nat) {x : Str} {pos : Pos} (hN : X.N[i]? = some x := by rfl) (hv : Vis X.env.scope x := by first | exact Or.inl rfl | exact Or.inr (Or.inl rfl) | exact Or.inr (Or.inr rfl)) (hd : (x == ("__debug__" : Str)) = false := by decide)
    (hcd : (x == ("__classdict__" : Str)) = false := by decide) : SE X W (.Name x pos) (mFrz i) := ⟨_, pe_var hN hv hd hcd, sim_frz⟩
theorem se_move (i : Nat) {x : Str} {pos : Pos} (hN : X.N[i]? = some x := by rfl) (hv : Vis X.env.scope x := by first | exact Or.inl rfl | exact Or.inr (Or.inl rfl) | exact Or.inr (Or.inr rfl)) (hd : (x == ("__debug__" : Str)) = false := by decide)
    (hcd : (x == ("__classdict__" : Str)) = false := by decide) : SE X W (.Name x pos) (mMove i) := ⟨_, pe_var hN hv hd hcd, sim_move⟩

/-! ### targets -/
abbrev MG := D → Env → Option Env
abbrev MGs := List D → Env → Option Env
def SimG (K : Frag) (ps : List Nat) (g : TG) (m : MG) : Prop := ∀ σ H F A B e v d e', Sls K F H σ e A → Rp K F H v d B → Wf F H (A ++ B) → m d e = some e' → ∀ Q : St → Hp → Prop, (∀ σ' F' H' A', Ok K ps F H (A ++ B) σ e' F' H' A' σ' → Q σ' H') → g v σ H Q
def SimGs (K : Frag) (ps : List Nat) (g : TGs) (m : MGs) : Prop := ∀ σ H F A B e vs ds e', Sls K F H σ e A → Rps K F H vs ds B → Wf F H (A ++ B) → m ds e = some e' → ∀ Q : St → Hp → Prop, (∀ σ' F' H' A', Ok K ps F H (A ++ B) σ e' F' H' A' σ' → Q σ' H') → g vs σ H Q
def SG (X : Cx) (ps : List Nat) (tg : Expr) (m : MG) : Prop := ∃ g, PG X tg g ∧ SimG X.K ps g m
def SGs (X : Cx) (ps : List Nat) (ts : List Expr) (m : MGs) : Prop := ∃ g, PGs X ts g ∧ SimGs X.K ps g m
def gN (i : Nat) : MG := fun d e => if i < e.length then some (e.set i (some d)) else none
theorem sim_gN {i : Nat} (hp : i ∉ ps) : SimG K ps (gName i) (gN i) := fun σ H F A B e v d e' s r w h Q k => by
  unfold gN at h
  split at h
  · rename_i hi
    have q := Option.some.inj h; subst q
    obtain ⟨L, Bo, R, rfl, h2, _⟩ := s.put i hi
    have s' := h2 F H v d B (fun _ h => h) (fun a o e _ => e) r
    have pm : ∀ a, a ∈ L ++ B ++ R → a ∈ L ++ Bo ++ R ++ B := fun a h => by
      simp only [List.mem_append] at h ⊢
      rcases h with (h | h) | h <;> simp [h]
    have w' : Wf F H (L ++ B ++ R) := by
      have n := w.nd
      refine ⟨?_, fun a h => w.off a (pm a h), fun a h => w.mu a (pm a h), w.dom⟩
      have n2 : (L ++ Bo ++ R ++ B).Nodup := n
      have pp : (L ++ Bo ++ R ++ B).Perm (Bo ++ (L ++ B ++ R)) := by
        refine List.perm_iff_count.mpr fun x => ?_
        simp only [List.count_append]; omega
      exact (List.nodup_append.mp (pp.nodup_iff.mp n2)).2.1
    exact k _ F H _ ⟨s', w', Step.refl.less pm, fun j hj => List.getElem?_set_ne (fun (z : i = j) => hp (by rw [z]; exact hj))⟩
  · cases h
theorem sg_name (i : Nat) {x : Str} {pos : Pos} (hN : X.N.Nodup) (hp : i ∉ ps := by decide) (hi : X.N[i]? = some x := by rfl) (hx : Loc X.env.scope x := by first | exact Or.inl rfl | exact Or.inr rfl) (hf : X.fn x = true ∨ X.env.scope.names.lookup x = some .local := by first | exact .inl rfl | exact .inr rfl | assumption) :
    SG X ps (.Name x pos) (gN i) := ⟨_, pg_name hN hi hx hf, sim_gN hp⟩
def gNil' : MGs := fun ds e => if ds.length = 0 then some e else none
def gCons' (m : MG) (r : MGs) : MGs := fun ds e => match ds with
  | d :: ds => (match m d e with
    | some e1 => r ds e1
    | none => none)
  | [] => none
theorem sgs_nil : SGs X ps [] gNil' := ⟨_, pgs_nil, fun σ H F A B e vs ds e' s r w h Q k => by
  unfold gNil' at h
  split at h
  · rename_i hl
    have q := Option.some.inj h; subst q
    have hd : ds = [] := List.length_eq_zero_iff.mp hl
    subst hd
    cases r
    exact ⟨rfl, k σ F H A ⟨s, w.left, Step.refl.mem (by simp) (fun _ => Iff.rfl), fun _ _ => rfl⟩⟩
  · cases h⟩
theorem sgs_cons {m : MG} {r : MGs} (h1 : SG X ps a m) (h2 : SGs X ps es r) (hs : (assignEach (a :: es) X.env).map (·.2) = assign a X.env :: (assignEach es X.env).map (·.2) := by rfl) : SGs X ps (a :: es) (gCons' m r) := by
  obtain ⟨g, pg, sg⟩ := h1
  obtain ⟨gs, pgs, sgs⟩ := h2
  refine ⟨_, pgs_cons pg pgs hs, fun σ H F A B e vs ds e' s rr w h Q k => ?_⟩
  unfold gCons' at h
  cases rr with
  | nil => cases h
  | @cons v d vs ds B1 B2 _ r1 r2 eB =>
    subst eB
    simp only at h
    cases e1 : m d e with
    | none => rw [e1] at h; cases h
    | some e2 =>
      rw [e1] at h
      refine ⟨v, vs, rfl, ?_⟩
      have w1 : Wf F H (A ++ B1) := Wf.left (B := B2) (by rw [List.append_assoc]; exact w)
      refine sg σ H F A B1 e v d e2 s r1 w1 e1 _ fun σ' F' H' A' o => ?_
      have w2 : Wf F H ((A ++ B1) ++ B2) := by rw [List.append_assoc]; exact w
      obtain ⟨w3, t3⟩ := o.st.beside w2 o.wf
      refine sgs σ' H' F' A' B2 e2 vs ds e' o.sl (r2.to o.st.mono (o.st.pres w1 fun a h z => w2.apart a z h)) w3 h Q fun σ2 F2 H2 A2 o2 => ?_
      refine k σ2 F2 H2 A2 ⟨o2.sl, o2.wf, ?_, fun i hi => (o2.kp i hi).trans (o.kp i hi)⟩
      have := t3.trans o2.st
      rw [List.append_assoc] at this
      exact this
theorem PG.or {tg : Expr} {g g' : TG} (h1 : PG X tg g) (h2 : PG X tg g') : PG X tg (fun v σ H Q => g v σ H Q ∨ g' v σ H Q) := ⟨fun pins s σ H v u Q I r h => h.elim (h1.run pins s σ H v u Q I r) (h2.run pins s σ H v u Q I r)⟩
/-- a, b, .. = a tuple or a list -/
def gT (n : Nat) (m : MGs) : MG := fun d e => match d with
  | .tup ds => if ds.length = n then m ds e else none
  | .lst _ ds => if ds.length = n then m ds e else none
  | _ => none
theorem sg_tup {n k : Nat} {m : MGs} (hc : X.calm = true) (h : SGs X ps es m) (hn : (assignEach es X.env).length = n := by rfl) (hst : (assignEach es X.env).findIdx? (·.1) = none := by rfl) : SG X ps (.Tuple es k pos) (gT n m) := by
  obtain ⟨g, pg, sg⟩ := h
  refine ⟨_, PG.or (pg_tup hc pg hn hst) (pg_lst hc pg hn hst), fun σ H F A B e v d e' s r w h Q k => ?_⟩
  unfold gT at h
  cases d with
  | tup ds =>
    simp only at h
    split at h
    · rename_i hl
      obtain ⟨a, vs, rfl, q, rr, rfl⟩ := r.seqT
      exact .inl ⟨a, vs, rfl, q, by rw [rr.length]; exact hl, sg σ H F A [] e vs ds e' s rr w h Q k⟩
    · cases h
  | lst o ds =>
    simp only at h
    split at h
    · rename_i hl
      cases r with
      | @lstF a vs _ f q rr => exact .inr ⟨a, vs, rfl, .inl q, by rw [rr.length]; exact hl, sg σ H F A [] e vs ds e' s rr w h Q k⟩
      | @lstK a vs _ q rr => exact .inr ⟨a, vs, rfl, q.sq, by rw [rr.length]; exact hl, sg σ H F A [] e vs ds e' s rr w h Q k⟩
      | @lstO a vs _ C q rr =>
        have sub : ∀ x ∈ A ++ C, x ∈ A ++ a :: C := fun x z => by
          simp only [List.mem_append, List.mem_cons] at z ⊢
          rcases z with z | z <;> simp [z]
        have w' : Wf F H (A ++ C) := by
          refine ⟨?_, fun x z => w.off x (sub x z), fun x z => w.mu x (sub x z), w.dom⟩
          have n2 : (a :: (A ++ C)).Nodup := (List.perm_middle (a := a) (l₁ := A) (l₂ := C)).nodup_iff.mp w.nd
          exact (List.nodup_cons.mp n2).2
        refine .inr ⟨a, vs, rfl, .inl (.inl q), by rw [rr.length]; exact hl, sg σ H F A C e vs ds e' s rr w' h Q fun σ' F' H' A' o => ?_⟩
        exact k σ' F' H' A' ⟨o.sl, o.wf, o.st.more sub, o.kp⟩
    · cases h
  | _ => simp at h

/-! ### statements -/
def sSeq (m n : MS) : MS := fun e => match m e with
  | .nx e1 => n e1
  | r => r
def sNext : MS := fun e => .nx e
theorem ok_refl {F : Addr → Prop} {H : Hp} {A : List Addr} {σ : St} {e : Env} (s : Sls K F H σ e A) (w : Wf F H A) : Ok K ps F H A σ e F H A σ := ⟨s, w, .refl, fun _ _ => rfl⟩
theorem sim_seq {t u : TS} {m n : MS} (h1 : SimS K W ps t m) (h2 : SimS K W ps u n) : SimS K W ps (tSeq t u) (sSeq m n) := fun σ H F A e s w D h => by
  refine h1 σ H F A e s w _ ?_
  unfold sSeq at h
  cases em : m e with
  | nx e1 =>
    rw [em] at h
    intro F' H' A' σ' o
    exact h2 σ' H' F' A' e1 o.sl o.wf D (h.mono o)
  | bk e1 => rw [em] at h; exact h
  | ct e1 => rw [em] at h; exact h
  | rt d e1 => rw [em] at h; exact h
  | er x e1 => rw [em] at h; exact h
  | bad => rw [em] at h; exact h
theorem sss_nil : SSs X W ps [] sNext := ⟨_, pss_nil, fun σ H F A e s w D h => h F H A σ (ok_refl s w)⟩
theorem sss_cons {st : Stmt} {rest : List Stmt} {m n : MS} (h1 : SS X W ps st m) (h2 : SSs X W ps rest n) : SSs X W ps (st :: rest) (sSeq m n) := let ⟨t, pt, st'⟩ := h1; let ⟨u, pu, su⟩ := h2; ⟨_, pss_cons pt pu, sim_seq st' su⟩
theorem sss_one {st : Stmt} {m : MS} (h1 : SS X W ps st m) : SSs X W ps [st] m := let ⟨t, pt, st'⟩ := h1; ⟨_, pss_one pt, st'⟩
theorem ss_pass : SS X W ps (.Pass pos) sNext := ⟨_, ps_pass, fun σ H F A e s w D h => h F H A σ (ok_refl s w)⟩
def sBreak : MS := fun e => .bk e
def sCont : MS := fun e => .ct e
theorem ss_break : SS X W ps (.Break pos) sBreak := ⟨_, ps_break, fun σ H F A e s w D h => h F H A σ (ok_refl s w)⟩
theorem ss_cont : SS X W ps (.Continue pos) sCont := ⟨_, ps_continue, fun σ H F A e s w D h => h F H A σ (ok_refl s w)⟩
def sNever : MS := fun _ => .bad
theorem ss_never {st : Stmt} : SS X W ps st sNever := ⟨_, ps_never, fun σ H F A e s w D h => h.elim⟩
theorem sss_never {st : List Stmt} : SSs X W ps st sNever := ⟨_, pss_never, fun σ H F A e s w D h => h.elim⟩
def sDrop (m : ME) : MS := fun e => match m e with
  | .ok _ e1 => .nx e1
  | .er x e1 => .er x e1
  | .bad => .bad
theorem out_er {F : Addr → Prop} {H : Hp} {A : List Addr} {σ : St} {x : XD} {e1 : Env} {D : Ends} (h : Dok K W ps σ F H A (.er x e1) D) : ∀ cls dx H' F' A', Sls K F' H' σ e1 A' → Wf F' H' A' → Step F H A F' H' A' → Xr K F' H' x cls dx → W cls dx σ H' :=
  fun cls dx H' F' A' s w st r => h F' H' A' σ cls dx ⟨s, w, st, fun _ _ => rfl⟩ r
theorem ss_expr (h : SE X W a na) (hs : swapsWith a none pos.line X.env = pure false := by rfl) : SS X W ps (.Expr a pos) (sDrop na) := by
  obtain ⟨t, pt, st⟩ := h
  refine ⟨_, ps_expr pt hs, fun σ H F A e s w D h => ?_⟩
  have q := st σ H F A e s w
  unfold sDrop at h
  cases em : na e with
  | bad => rw [em] at h; exact h.elim
  | er x e1 => rw [em] at h q; exact q (out_er h) _
  | ok d e1 =>
    rw [em] at h q
    exact q _ fun v H' F' A' B s' r w' t' => h F' H' A' σ ⟨s', w'.left, t'.less fun _ => List.mem_append_left _, fun _ _ => rfl⟩
def sRet (m : ME) : MS := fun e => match m e with
  | .ok d e1 => .rt d e1
  | .er x e1 => .er x e1
  | .bad => .bad
theorem ss_ret (h : SE X W a na) : SS X W ps (.Return (some a) pos) (sRet na) := by
  obtain ⟨t, pt, st⟩ := h
  refine ⟨_, ps_ret pt, fun σ H F A e s w D h => ?_⟩
  have q := st σ H F A e s w
  unfold sRet at h
  cases em : na e with
  | bad => rw [em] at h; exact h.elim
  | er x e1 => rw [em] at h q; exact q (out_er h) _
  | ok d e1 =>
    rw [em] at h q
    exact q _ fun v H' F' A' B s' r w' t' => h F' H' A' σ v B ⟨s', w'.left, t'.less fun _ => List.mem_append_left _, fun _ _ => rfl⟩ r w' t'
def sRetN : MS := fun e => .rt .non e
theorem ss_retN : SS X W ps (.Return none pos) sRetN := ⟨_, ps_retN, fun σ H F A e s w D h => h F H A σ .non [] (ok_refl s w) .non (by simpa using w) (by simpa using Step.refl)⟩
def sAsg (m : ME) (g : MG) : MS := fun e => match m e with
  | .ok d e1 => (match g d e1 with
    | some e2 => .nx e2
    | none => .bad)
  | .er x e1 => .er x e1
  | .bad => .bad
theorem ss_asg {tg : Expr} {g : MG} (h : SE X W a na) (hg : SG X ps tg g) (hs : swapsWithSole [tg] a pos.line X.env = pure false := by rfl) (hw : swappedStores [tg] a X.env = pure none := by rfl)
    (h1 : (assignEach [tg] X.env).map (·.2) = [assign tg X.env] := by rfl) : SS X W ps (.Assign [tg] a pos) (sAsg na g) := by
  obtain ⟨t, pt, st⟩ := h
  obtain ⟨u, pu, su⟩ := hg
  refine ⟨_, ps_asg pt pu hs hw h1, fun σ H F A e s w D h => ?_⟩
  have q := st σ H F A e s w
  unfold sAsg at h
  cases em : na e with
  | bad => rw [em] at h; exact h.elim
  | er x e1 => rw [em] at h q; exact q (out_er h) _
  | ok d e1 =>
    rw [em] at h q
    simp only at h
    cases eg : g d e1 with
    | none => rw [eg] at h; exact h.elim
    | some e2 =>
      rw [eg] at h
      refine q _ fun v H' F' A' B s' r w' t' => ?_
      exact su σ H' F' A' B e1 v d e2 s' r w' eg _ fun σ2 F2 H2 A2 o => h F2 H2 A2 σ2 ⟨o.sl, o.wf, t'.trans o.st, o.kp⟩
/-- x, y = a, b -/
def sPar (i j : Nat) (m : MA) : MS := fun e => match m e with
  | .ok [d, d2] e1 => if i < e1.length then (if j < e1.length then .nx ((e1.set i (some d)).set j (some d2)) else .bad) else .bad
  | .ok _ _ => .bad
  | .er x e1 => .er x e1
  | .bad => .bad
theorem ss_par {i j : Nat} {x y : Str} {m : MA} {px py pt : Pos} {kt k2 pt2} (hc : X.calm = true) (hN : X.N.Nodup) (ha : SA X W [a, b] m) (hi : X.N[i]? = some x := by rfl) (hj : X.N[j]? = some y := by rfl) (hij : i ≠ j := by decide)
    (hx : X.env.scope.names.lookup x = some .local := by rfl) (hy : X.env.scope.names.lookup y = some .local := by rfl)
    (hw : swappedStores [.Tuple [.Name x px, .Name y py] kt pt] (.Tuple [a, b] k2 pt2) X.env = pure (some [x, y]) := by rfl)
    (hs : swapsWithSole [.Tuple [.Name x px, .Name y py] kt pt] (.Tuple [a, b] k2 pt2) pos.line X.env = pure false := by rfl) (hp1 : i ∉ ps := by decide) (hp2 : j ∉ ps := by decide) :
    SS X W ps (.Assign [.Tuple [.Name x px, .Name y py] kt pt] (.Tuple [a, b] k2 pt2) pos) (sPar i j m) := by
  obtain ⟨t, pt, st⟩ := ha
  refine ⟨_, ps_par hc hN hi hj hij hx hy pt hw hs, fun σ H F A e s w D h => ?_⟩
  have q := st σ H F A e s w
  unfold sPar at h
  cases em : m e with
  | bad => rw [em] at h; exact h.elim
  | er x e1 => rw [em] at h q; exact q (out_er h) _
  | ok ds e1 =>
    rw [em] at h q
    match ds, h, q with
    | [d, d2], h, q =>
      simp only at h
      split at h
      · rename_i h1
        split at h
        · rename_i h2
          refine q _ fun vs H' F' A' B s' r w' t' => ?_
          cases r with
          | @cons v _ vs _ B1 B2 _ r1 r2 eB =>
            subst eB
            obtain ⟨v2, rfl, r3⟩ := rps1 r2
            refine ⟨v, v2, rfl, ?_⟩
            have w1 : Wf F' H' (A' ++ B1) := Wf.left (B := B2) (by rw [List.append_assoc]; exact w')
            refine sim_gN (K := X.K) hp1 σ H' F' A' B1 e1 v d _ s' r1 w1 (if_pos h1) (fun σ' H' => D.nx (σ'.set j (some v2)) H') fun σ1 F1 H1 A1 o => ?_
            have w2 : Wf F' H' ((A' ++ B1) ++ B2) := by rw [List.append_assoc]; exact w'
            obtain ⟨w3, t3⟩ := o.st.beside w2 o.wf
            refine sim_gN (K := X.K) hp2 σ1 H1 F1 A1 B2 _ v2 d2 _ o.sl (r3.to o.st.mono (o.st.pres w1 fun a h z => w2.apart a z h)) w3 (if_pos (by simpa using h2)) D.nx fun σ2 F2 H2 A2 o2 => ?_
            refine h F2 H2 A2 σ2 ⟨o2.sl, o2.wf, ?_, fun i hi => (o2.kp i hi).trans (o.kp i hi)⟩
            have := t3.trans o2.st
            rw [List.append_assoc] at this
            exact t'.trans this
        · exact h.elim
      · exact h.elim
    | [], h, q => exact h.elim
    | [_], h, q => exact h.elim
    | _ :: _ :: _ :: _, h, q => exact h.elim
/-- if -/
def sIf (m : ME) (a b : MS) : MS := fun e => match m e with
  | .ok (.bl true) e1 => a e1
  | .ok (.bl false) e1 => b e1
  | .ok _ _ => .bad
  | .er x e1 => .er x e1
  | .bad => .bad
theorem ss_if {s1 s2 : List Stmt} {m1 m2 : MS} (hc : ST X W c nc) (ha : SSs X W ps s1 m1) (hb : SSs X W ps s2 m2) : SS X W ps (.If c s1 s2 pos) (sIf nc m1 m2) := by
  obtain ⟨t, pt, st⟩ := hc
  obtain ⟨t1, pt1, st1⟩ := ha
  obtain ⟨t2, pt2, st2⟩ := hb
  refine ⟨_, ps_if pt pt1 pt2, fun σ H F A e s w D h => ?_⟩
  have q := st σ H F A e s w
  unfold sIf at h
  cases em : nc e with
  | bad => rw [em] at h; exact h.elim
  | er x e1 => rw [em] at h q; exact q (out_er h) _
  | ok d e1 =>
    rw [em] at h q
    cases d with
    | bl b =>
      refine q _ fun H' F' A' s' w' t' => ?_
      have o : Ok X.K ps F H A σ e1 F' H' A' σ := ⟨s', w', t', fun _ _ => rfl⟩
      cases b with
      | true => exact iteT (st1 σ H' F' A' e1 s' w' D (h.mono o))
      | false => exact iteF (st2 σ H' F' A' e1 s' w' D (h.mono o))
    | _ => exact h.elim

/-! ### while -/
def whileN (c : ME) (b : MS) : Nat → Env → Rs
  | 0, _ => .bad
  | n + 1, e => match c e with
    | .ok (.bl true) e1 => (match b e1 with
      | .nx e2 => whileN c b n e2
      | .ct e2 => whileN c b n e2
      | .bk e2 => .nx e2
      | r => r)
    | .ok (.bl false) e1 => .nx e1
    | .ok _ _ => .bad
    | .er x e1 => .er x e1
    | .bad => .bad
theorem whileN_succ (c : ME) (b : MS) : ∀ (n : Nat) (e : Env), whileN c b n e ≠ .bad → whileN c b (n + 1) e = whileN c b n e
  | 0, e, h => absurd rfl h
  | n + 1, e, h => by
    have ih := whileN_succ c b n
    unfold whileN at h
    rw [whileN, whileN]
    cases ec : c e with
    | bad => rfl
    | er x e1 => rfl
    | ok d e1 =>
      rw [ec] at h
      cases d with
      | bl q =>
        cases q with
        | true =>
          simp only at h ⊢
          cases eb : b e1 with
          | nx e2 => rw [eb] at h; exact ih e2 h
          | ct e2 => rw [eb] at h; exact ih e2 h
          | bk e2 => rfl
          | rt d e2 => rfl
          | er x e2 => rfl
          | bad => rfl
        | false => rfl
      | _ => rfl
theorem whileN_le {c : ME} {b : MS} {n m : Nat} {e : Env} (h : whileN c b n e ≠ .bad) (hl : n ≤ m) : whileN c b m e = whileN c b n e := by
  induction m with
  | zero =>
    have : n = 0 := by omega
    subst this; rfl
  | succ m ih =>
    by_cases q : n = m + 1
    · subst q; rfl
    · have e1 := ih (by omega)
      rw [whileN_succ c b m e (by rw [e1]; exact h), e1]
open Classical in
noncomputable def sWhile (c : ME) (b : MS) : MS := fun e => if h : ∃ n, whileN c b n e ≠ .bad then whileN c b (Classical.choose h) e else .bad
theorem sWhile_of {c : ME} {b : MS} {n : Nat} {e : Env} (h : whileN c b n e ≠ .bad) : sWhile c b e = whileN c b n e := by
  have hh : ∃ n, whileN c b n e ≠ .bad := ⟨n, h⟩
  unfold sWhile
  rw [dif_pos hh]
  have h2 := Classical.choose_spec hh
  by_cases q : Classical.choose hh ≤ n
  · exact (whileN_le h2 q).symm
  · exact whileN_le h (by omega)
theorem sWhile_ex {c : ME} {b : MS} {e : Env} (h : sWhile c b e ≠ .bad) : ∃ n, whileN c b n e = sWhile c b e := by
  unfold sWhile at h
  split at h
  · rename_i hh
    refine ⟨Classical.choose hh, ?_⟩
    unfold sWhile
    rw [dif_pos hh]
  · exact absurd rfl h
/-- what is behind one turn, for the whole loop -/
theorem Dok.turn {F F1 : Addr → Prop} {H H1 : Hp} {A A1 : List Addr} {σ σ1 : St} {e1 : Env} {r q : Rs} {D : Ends} {N : St → Hp → Prop} (h : Dok K W ps σ F H A r D) (o : Ok K ps F H A σ e1 F1 H1 A1 σ1)
    (hq : match q with
      | .nx e2 => ∀ F' H' A' σ', Ok K ps F H A σ e2 F' H' A' σ' → N σ' H'
      | .ct e2 => ∀ F' H' A' σ', Ok K ps F H A σ e2 F' H' A' σ' → N σ' H'
      | .bk e2 => r = .nx e2
      | z => r = z) : Dok K W ps σ1 F1 H1 A1 q { D with nx := N, ct := N, bk := D.nx } := by
  cases q with
  | nx e2 => exact fun F' H' A' σ' z => hq F' H' A' σ' (o.trans z)
  | ct e2 => exact fun F' H' A' σ' z => hq F' H' A' σ' (o.trans z)
  | bk e2 =>
    have hq' : r = .nx e2 := hq
    subst hq'
    exact fun F' H' A' σ' z => h F' H' A' σ' (o.trans z)
  | rt d e2 =>
    have hq' : r = .rt d e2 := hq
    subst hq'
    exact h.mono o
  | er x e2 =>
    have hq' : r = .er x e2 := hq
    subst hq'
    exact h.mono o
  | bad =>
    have hq' : r = .bad := hq
    subst hq'
    exact h
theorem sim_while {tc : TT} {tb : TS} {m : MS} (hc : SimT K W tc nc) (hb : SimS K W ps tb m) : SimS K W ps (tWhile tc tb) (sWhile nc m) := fun σ H F A e s w D h => by
  have nb : sWhile nc m e ≠ .bad := fun z => by rw [z] at h; exact h
  obtain ⟨n, en⟩ := sWhile_ex nb
  refine ⟨fun k σ1 H1 => ∃ F1 A1 e1, Ok K ps F H A σ e1 F1 H1 A1 σ1 ∧ whileN nc m k e1 = sWhile nc m e, ⟨n, F, A, e, ok_refl s w, en⟩, ?_⟩
  rintro k σ1 H1 ⟨F1, A1, e1, o, ek⟩
  cases k with
  | zero => exact absurd ek.symm nb
  | succ k =>
    rw [whileN] at ek
    have q := hc σ1 H1 F1 A1 e1 o.sl o.wf
    cases ec : nc e1 with
    | bad => rw [ec] at ek; exact absurd ek.symm nb
    | er x e2 =>
      rw [ec] at ek q
      rw [← ek] at h
      exact q (out_er (h.mono o)) _
    | ok d e2 =>
      rw [ec] at ek q
      cases d with
      | bl b =>
        refine q _ fun H2 F2 A2 s2 w2 t2 => ?_
        have o2 : Ok K ps F H A σ e2 F2 H2 A2 σ1 := o.trans ⟨s2, w2, t2, fun _ _ => rfl⟩
        cases b with
        | false =>
          rw [← ek] at h
          exact iteF (h F2 H2 A2 σ1 o2)
        | true =>
          refine iteT ⟨_, fun σ' H' z => ⟨k, Nat.lt_succ_self k, z⟩, hb σ1 H2 F2 A2 e2 s2 w2 _ (h.turn o2 ?_)⟩
          simp only at ek
          cases eb : m e2 with
          | nx e3 => rw [eb] at ek; exact fun F' H' A' σ' z => ⟨F', A', e3, z, ek⟩
          | ct e3 => rw [eb] at ek; exact fun F' H' A' σ' z => ⟨F', A', e3, z, ek⟩
          | bk e3 => rw [eb] at ek; exact ek.symm
          | rt d e3 => rw [eb] at ek; exact ek.symm
          | er x e3 => rw [eb] at ek; exact ek.symm
          | bad => rw [eb] at ek; exact ek.symm
      | _ => exact absurd ek.symm nb
theorem ss_while {body : List Stmt} {m : MS} (hp : PassesOwn (model X.prog X.w) X.A X.env X.xe) (hc : ST X W c nc) (hb : SSs X W ps body m) : SS X W ps (.While c body [] pos) (sWhile nc m) :=
  let ⟨t, pt, st⟩ := hc; let ⟨u, pu, su⟩ := hb; ⟨_, ps_while hp pt pu, sim_while st su⟩

/-! ### for -/
/-- what is walked: the items, and the iterator as it stands at any later heap -/
def Walks (K : Frag) (F : Addr → Prop) (H : Hp) (J : It) (ds : List D) : Prop := ∀ (F' : Addr → Prop) (H' : Hp), (∀ a, F a → F' a) → Pres F [] H H' → (∀ a, F' a → ∃ o, H' a = some o) → ∀ i,
  (∀ d, ds[i]? = some d → J.go i H' ∧ ∀ x H'', J.yld i H' x H'' → ∃ F'', Ext F' H' F'' H'' ∧ Rp K F'' H'' x d []) ∧ (ds.length ≤ i → i ≤ ds.length → J.stop i H')
def OutI (K : Frag) (W : WX) (σ : St) (F : Addr → Prop) (H : Hp) (A : List Addr) (r : Ra) (t : (It → Hp → Prop) → Prop) : Prop := match r with
  | .ok ds e => ∀ Q : It → Hp → Prop, (∀ J H' F' A', Sls K F' H' σ e A' → Wf F' H' A' → Step F H A F' H' A' → Walks K F' H' J ds → Q J H') → t Q
  | .er x e => (∀ cls dx H' F' A', Sls K F' H' σ e A' → Wf F' H' A' → Step F H A F' H' A' → Xr K F' H' x cls dx → W cls dx σ H') → ∀ Q, t Q
  | .bad => True
def SimI (K : Frag) (W : WX) (t : TI) (m : MA) : Prop := ∀ σ H F A e, Sls K F H σ e A → Wf F H A → OutI K W σ F H A (m e) (t σ H)
def SI (X : Cx) (W : WX) (tg iter : Expr) (m : MA) : Prop := ∃ t, PI X tg iter t ∧ SimI X.K W t m
def forN (g : MG) (b : MS) : List D → Env → Rs
  | [], e => .nx e
  | d :: ds, e => match g d e with
    | none => .bad
    | some e1 => (match b e1 with
      | .nx e2 => forN g b ds e2
      | .ct e2 => forN g b ds e2
      | .bk e2 => .nx e2
      | r => r)
def sFor (m : MA) (g : MG) (b : MS) : MS := fun e => match m e with
  | .ok ds e1 => forN g b ds e1
  | .er x e1 => .er x e1
  | .bad => .bad
theorem sim_for {wi : TI} {g : TG} {tb : TS} {m : MA} {mg : MG} {mb : MS} (hi : SimI K W wi m) (hg : SimG K ps g mg) (hb : SimS K W ps tb mb) : SimS K W ps (tFor wi g tb) (sFor m mg mb) := fun σ H F A e s w D h => by
  have q := hi σ H F A e s w
  unfold sFor at h
  cases em : m e with
  | bad => rw [em] at h; exact h.elim
  | er x e1 => rw [em] at h q; exact q (out_er h) _
  | ok ds e1 =>
    rw [em] at h q
    simp only at h
    refine q _ fun J H1 F1 A1 s1 w1 t1 wk => ?_
    have o1 : Ok K ps F H A σ e1 F1 H1 A1 σ := ⟨s1, w1, t1, fun _ _ => rfl⟩
    refine ⟨fun i k σ2 H2 => ∃ F2 A2 e2, Ok K ps F1 H1 A1 σ e2 F2 H2 A2 σ2 ∧ i + k = ds.length ∧ forN mg mb (ds.drop i) e2 = forN mg mb ds e1, ⟨ds.length, F1, A1, e1, ok_refl s1 w1, by omega, rfl⟩, ?_⟩
    rintro i k σ2 H2 ⟨F2, A2, e2, o2, hk, er⟩
    have pr : Pres F1 [] H1 H2 := o2.st.pres w1 fun _ z => nomatch z
    have wki := wk F2 H2 o2.st.mono pr o2.wf.dom i
    have o12 := o1.trans o2
    cases k with
    | zero =>
      have hl : ds.length ≤ i := by omega
      refine .inl ⟨wki.2 hl (by omega), ?_⟩
      have : ds.drop i = [] := List.drop_eq_nil_of_le hl
      rw [this] at er
      rw [← er] at h
      exact h F2 H2 A2 σ2 o12
    | succ k =>
      have hl : i < ds.length := by omega
      have ed : ds.drop i = ds[i] :: ds.drop (i + 1) := List.drop_eq_getElem_cons hl
      obtain ⟨go, yl⟩ := wki.1 ds[i] (List.getElem?_eq_getElem hl)
      rw [ed, forN] at er
      refine .inr ⟨go, fun σ' H' => ∃ F' A' e', Ok K ps F1 H1 A1 σ e' F' H' A' σ' ∧ (i + 1) + k = ds.length ∧ forN mg mb (ds.drop (i + 1)) e' = forN mg mb ds e1, fun σ' H' z => ⟨k, Nat.lt_succ_self k, z⟩, fun x H3 hy => ?_⟩
      obtain ⟨F3, x3, r3⟩ := yl x H3 hy
      cases eg : mg ds[i] e2 with
      | none => rw [eg] at er; rw [← er] at h; exact h.elim
      | some e3 =>
        rw [eg] at er
        simp only at er
        have w3 := x3.wf o2.wf
        refine hg σ2 H3 F3 A2 [] e2 x ds[i] e3 (x3.sls o2.sl) r3 (by simpa using w3) eg _ fun σ4 F4 H4 A4 o4 => ?_
        rw [List.append_nil] at o4
        have o13 : Ok K ps F1 H1 A1 σ e3 F4 H4 A4 σ4 := o2.trans ⟨o4.sl, o4.wf, x3.step.trans o4.st, o4.kp⟩
        refine hb σ4 H4 F4 A4 e3 o4.sl o4.wf _ ((h.mono o1).turn o13 ?_)
        cases eb : mb e3 with
        | nx e5 => rw [eb] at er; exact fun F' H' A' σ' z => ⟨F', A', e5, z, by omega, er⟩
        | ct e5 => rw [eb] at er; exact fun F' H' A' σ' z => ⟨F', A', e5, z, by omega, er⟩
        | bk e5 => rw [eb] at er; exact er.symm
        | rt d e5 => rw [eb] at er; exact er.symm
        | er x e5 => rw [eb] at er; exact er.symm
        | bad => rw [eb] at er; exact er.symm
theorem ss_for {tg iter : Expr} {body : List Stmt} {m : MA} {g : MG} {mb : MS} (hp : PassesOwn (model X.prog X.w) X.A X.env X.xe) (hc : X.calm = true) (hi : SI X W tg iter m) (hg : SG X ps tg g) (hb : SSs X W ps body mb)
    (hs : ∀ x, foldedSetIterable iter X.env x = pure x := by intro _; rfl) : SS X W ps (.For tg iter body [] pos) (sFor m g mb) :=
  let ⟨t, pt, st⟩ := hi; let ⟨u, pu, su⟩ := hg; let ⟨v, pv, sv⟩ := hb; ⟨_, ps_for hp hc pt pu pv hs, sim_for st su sv⟩
end
end G
set_option Elab.async false
set_option linter.all false
set_option maxRecDepth 100000
set_option maxHeartbeats 4000000
namespace PySem
open Sem (wp)
open AutoSeq1 (wpAny_loadPart')
theorem g_meets_enumerate_newT (l : Addr) (items : Array Value) (n : Nat) (dct : Option Addr) (sl : Array (Option Value)) :
    Meets (Builtin.«enumerate.__new__» ⟨[.type "enumerate", .ref l], []⟩) (fun _ R s => s.heap.get? l = some { cls := .type "tuple", dict := dct, data := .seq items n, slots := sl } ∧
      R (.ok (.ret (.ref (s.heap.push { cls := .type "tuple_iterator", data := .fields #[.ref l, .int 0 0] }).objs.size)))
        { s with heap := (s.heap.push { cls := .type "tuple_iterator", data := .fields #[.ref l, .int 0 0] }).push { cls := .type "enumerate", data := .fields #[.none, .bool false, .ref s.heap.objs.size, rawInt 0, .none, .none] } }) :=
  .of_wp fun prog w A R s h => by
    obtain ⟨hp, g, d, tk, os⟩ := s; obtain ⟨hl, h⟩ := h
    have hsub := sub_enumerate
    have hL : Heap.IsTuple (Shared.heap ⟨hp, g, d, tk, os⟩) l items := ⟨_, hl, rfl, n, rfl⟩
    wp_walk using wpAny_loadPart' hl
    refine wpAny_stack_any fun st => wpAny_pure ?_
    split
    · rename_i c _ _ _ _ _
      cases (c == Value.type "enumerate")
      · wp_walk using wpAny_loadPart' hl, wpAny_pyIter_tuple hL
        exact ⟨_, rfl, h⟩
      · wp_walk using wpAny_loadPart' hl, wpAny_pyIter_tuple hL
        exact ⟨_, rfl, h⟩
    · wp_walk using wpAny_loadPart' hl, wpAny_pyIter_tuple hL
      exact ⟨_, rfl, h⟩
theorem g_call_enumerate_tuple {prog : Program} {w : World} {A : Around} {E : Value → Shared → Prop} {s : Shared} {l : Addr} {items : Array Value} {Q : Value → Shared → Prop} (hL : s.heap.IsTuple l items)
    (h : ∀ h', IsEnum h' (s.heap.objs.size + 1) s.heap.objs.size 0 .none → h'.IsTupleIter s.heap.objs.size l 0 → h'.objs.size = s.heap.objs.size + 2 →
      (∀ b o, s.heap.get? b = some o → h'.get? b = some o) → Q (.ref (s.heap.objs.size + 1)) { s with heap := h' }) :
    wpAny (model prog w) A (call (.type "enumerate") [.ref l]) Q E s := by
  obtain ⟨⟨c, dct, dt, sl⟩, hl, hc, n, hd⟩ := hL
  replace hc : c = .type "tuple" := hc
  replace hd : dt = .seq items n := hd
  subst hc hd
  refine callType_new F.called_enumerate (by decide) (F.typeCall_enumerate_1 _) (F.newCall_enumerate_1 _) (fun obj => F.args_object_init_2 obj _) F.entry_enumerate_new
    (g_meets_enumerate_newT l items n dct sl) ⟨hl, ?_⟩
  have hz : (s.heap.push { cls := .type "tuple_iterator", data := .fields #[.ref l, .int 0 0] }).objs.size = s.heap.objs.size + 1 := Heap.size_push ..
  show _ ∧ _
  rw [hz]
  have he : IsEnum ((s.heap.push { cls := .type "tuple_iterator", data := .fields #[.ref l, .int 0 0] }).push
      { cls := .type "enumerate", data := .fields #[.none, .bool false, .ref s.heap.objs.size, rawInt 0, .none, .none] }) (s.heap.objs.size + 1) s.heap.objs.size 0 .none := by
    have := Heap.get?_push_size (s.heap.push { cls := .type "tuple_iterator", data := .fields #[.ref l, .int 0 0] })
      (o := { cls := .type "enumerate", data := .fields #[.none, .bool false, .ref s.heap.objs.size, rawInt 0, .none, .none] }) rfl
    rw [hz] at this; exact this
  refine ⟨⟨_, he, rfl⟩, h _ he ⟨_, Heap.get?_push_of_some _ (Heap.get?_push_size _ rfl), rfl, rfl⟩ (by rw [Heap.size_push, hz]) fun b o x => Heap.get?_push_of_some _ (Heap.get?_push_of_some _ x)⟩
end PySem
namespace G
open PySem L2
/-- enumerate(tuple) -/
def IteT (K : Frag) (a : Addr) : It :=
  ⟨fun i H => ∃ (xs : List V) (x : V), SqT K H a xs ∧ xs[i]? = some x, fun i H v H' => ∃ T x, v = .ref T ∧ H T = none ∧ H' = upd H T (.tup [.int (i : Nat), x]) ∧ ∀ xs, SqT K H a xs → xs[i]? = some x, fun i H => ∃ xs : List V, SqT K H a xs ∧ xs.length = i⟩
theorem turn_enumT {P : Program} {w : World} {K : PySem.W.Frag} {elts : List Expr} {kk : Nat} {tpos : Pos} (a e it : Addr) :
    Turn P w K (.Tuple elts kk tpos) (IteT K a) [e, it] e (fun i h => (∃ old, IsEnum h e it ((i : Nat) : Int) old) ∧ h.IsTupleIter it a i ∧ e ≠ it ∧ a ≠ it ∧ a ≠ e) where
  mem := by simp
  obj := fun i h st b hb => by
    obtain ⟨⟨old, he⟩, ⟨o, ho, hc, hd⟩, _⟩ := st
    have e' : b = e ∨ b = it := by simpa using hb
    rcases e' with z | z
    · rw [z]; exact ⟨_, he, fun v q => nomatch q⟩
    · rw [z]; exact ⟨o, ho, fun v q => by rw [hd] at q; cases q⟩
  keep := fun i h h' st k => let ⟨⟨old, he⟩, hi, hne⟩ := st; ⟨⟨old, k e (by simp) _ he⟩, hi.at fun o q => k it (by simp) o q, hne⟩
  item := by
    intro X hP hw hK hc i pins s σ H E I hf st hg
    subst hP hw hK
    obtain ⟨⟨old, he⟩, hit, hne, ha1, ha2⟩ := st
    obtain ⟨xs, x, hq, hx⟩ := hg
    obtain ⟨its, rv, p, hz⟩ := I.tuple hq
    obtain ⟨u, hu, ru⟩ := rv.get hx
    have hel : e < s.heap.objs.size := Heap.lt_size he
    have hil : it < s.heap.objs.size := by obtain ⟨_, q, _⟩ := hit; exact Heap.lt_size q
    have hlt : i < its.toArray.size := by
      have := (List.getElem?_eq_some_iff.mp hu).1
      simpa using this
    refine wpAny_pyNext_enum_itemD (Draws.tuple (show X.A.in1.handled = none from I.ok.hd hc) it a ha1 its.toArray) he ⟨hit, p⟩ hlt hne (by simp; exact ⟨hne, Ne.symm ha2⟩) fun y h' tk hP ho st' hT hsz hk => ?_
    have ey : y = u := by
      have z1 : its.toArray[i]? = some y := hP
      have z2 : its.toArray[i]? = some u := by simpa using hu
      rw [z1] at z2; exact Option.some.inj z2
    subst ey
    refine ⟨_, rfl, wpAny_letOwnedTupleGo_enum (s := { s with heap := h', toks := tk + 1 }) ho fun h'' he' sb => ?_⟩
    have hT2 : h''.get? s.heap.objs.size = some { cls := .type "tuple", data := .seq #[.int i tk, y] } := (sb.2 _ (Nat.ne_of_gt hel)).trans hT
    have new : ObjOk X.prog X.w (upd H s.heap.objs.size (.tup [.int (i : Nat), x])) h'' s.heap.objs.size (.tup [.int (i : Nat), x]) :=
      ⟨by show 2 ≤ sizeLine; decide, [.int i tk, y], .cons ⟨_, rfl⟩ (.cons ru .nil), ⟨_, hT2, rfl, _, rfl⟩⟩
    have I1 : Inv X pins σ (upd H s.heap.objs.size (.tup [.int (i : Nat), x])) { s with heap := h'', toks := tk + 1 } :=
      I.turnedNew (ch := [e, it]) (fun b ob hb q => (sb.2 b (fun z => hb (by simp [z]))).trans (hk b ob (fun z => hb (by simp [z])) (fun z => hb (by simp [z])) q)) hf (Nat.le_refl _) new
    refine ⟨.ref s.heap.objs.size, _, I1, rfl, ⟨_, x, rfl, I.hok.fresh (Nat.le_refl _), rfl, fun ys hy => by rw [I.tuple_inj hy hq]; exact hx⟩, ⟨⟨y, ?_⟩, st'.1.at fun o q => (sb.2 it (Ne.symm hne)).trans q, hne, ha1, ha2⟩, fun b hb => ?_⟩
    · have e1 : ((i + 1 : Nat) : Int) = (i : Int) + 1 := by omega
      rw [e1]; exact he'
    · have hb' : b < s.heap.objs.size := by
        have e' : b = e ∨ b = it := by simpa using hb
        rcases e' with z | z
        · rw [z]; exact hel
        · rw [z]; exact hil
      rw [upd_ne (Nat.ne_of_lt hb')]
      exact (hf b hb).1
  done := by
    intro X hP hw hK hc i pins s σ H E I hf st hg
    subst hP hw hK
    obtain ⟨⟨old, he⟩, hit, hne, ha1, ha2⟩ := st
    obtain ⟨xs, hq, hx⟩ := hg
    obtain ⟨its, rv, p, hz⟩ := I.tuple hq
    obtain ⟨f0, f1, f2, f3, f4, f5⟩ := hf it (by simp)
    have hl := rv.length
    have ei : i = its.toArray.size := by simp; omega
    have st2 : s.heap.IsTupleIter it a its.toArray.size ∧ s.heap.IsTuple a its.toArray := ⟨by rw [← ei]; exact hit, p⟩
    exact wpAny_pyNext_enum_endD (Draws.tuple (show X.A.in1.handled = none from I.ok.hd hc) it a ha1 its.toArray) he st2 fun h' eb => ⟨rfl, I.turned (t' := s.toks) (fun b o hb q => eb b o hb q) f0 f1 f3 f4 f5⟩
  self := fun A i s Q E st h => let ⟨⟨_, he⟩, _⟩ := st; wpAny_pyIter_enum he h
def iEnumT (K : Frag) (ta : TA) : TI := fun σ H R => ta σ H fun vs H1 => ∃ a xs, vs = [.ref a] ∧ SqT K H1 a xs ∧ R (IteT K a) H1
open PySem.Spec PyProof.Rows in
theorem pi_enumT {X : Cx} {e : Expr} {ta : TA} {p pos tpos : Pos} {elts : List Expr} {kk : Nat} (hg : Gl X "enumerate") (hm : X.mg "enumerate" = none) (ha : PA X [e] ta) (hs : starEach [e] X.env = [(false, eval e X.env)] := by rfl) :
    PI X (.Tuple elts kk tpos) (.Call (.Name "enumerate" p) [e] [] pos) (iEnumT X.K ta) := by
  refine ⟨fun pins s σ H R I h => ?_⟩
  refine Call_ (ld_blt I hg hm PyProof.Rows.boot_enumerate (PyProof.Rows.callWith_type1 (thn (ha.run pos pins s σ H _ I h) fun us s1 ⟨vs, H1, I1, r1, q1⟩ => ?_) hs rfl))
  obtain ⟨a, xs, ex, hq, q⟩ := q1
  subst ex
  cases r1 with
  | cons r rr =>
    cases rr
    cases r
    obtain ⟨its, rv, p', hz⟩ := I1.tuple hq
    have hlt : a < s1.heap.objs.size := p'.lt
    refine g_call_enumerate_tuple p' fun h' he hit hsz hk => wpAny_pyIter_enum he ?_
    have I2 : Inv X pins σ H1 { s1 with heap := h' } := I1.kept (t' := s1.toks) hk
    refine ⟨s1.heap.objs.size + 1, [s1.heap.objs.size + 1, s1.heap.objs.size], _, _, H1, rfl, I2, turn_enumT a (s1.heap.objs.size + 1) s1.heap.objs.size, ⟨⟨.none, he⟩, hit, Nat.succ_ne_self _, Nat.ne_of_lt hlt, Nat.ne_of_lt (Nat.lt_succ_of_lt hlt)⟩, fun b hb => ?_, q⟩
    have e' : b = s1.heap.objs.size + 1 ∨ b = s1.heap.objs.size := by simpa using hb
    have hle : s1.heap.objs.size ≤ b := by
      rcases e' with z | z
      · rw [z]; exact Nat.le_add_right _ _
      · rw [z]; exact Nat.le_refl _
    exact I1.fpOk hle (I1.hok.fresh hle)
end G
set_option Elab.async false
set_option linter.all false
set_option maxRecDepth 100000
set_option maxHeartbeats 4000000
namespace G
open PySem L2
section
variable {X : Cx} {W : WX} {ps : List Nat} {a b c o : Expr} {es : List Expr} {ma mb mc : MB} {na nb nc : ME} {pos p : Pos} {K : Frag} {tg : Expr}
theorem PI.or {iter : Expr} {w w' : TI} (h1 : PI X tg iter w) (h2 : PI X tg iter w') : PI X tg iter (fun σ H R => w σ H R ∨ w' σ H R) := ⟨fun pins s σ H R I h => h.elim (h1.run pins s σ H R I) (h2.run pins s σ H R I)⟩

/-! ### what is walked: lists, tuples, texts -/
def chars (x : Str) : List D := x.cps.toList.map fun c => .str ⟨#[c]⟩
def itemsD : D → Option (List D)
  | .lst _ ds => some (frzs ds)
  | .tup ds => some ds
  | .str x => some (chars x)
  | _ => none
def mIt (m : ME) : MA := fun e => match m e with
  | .ok d e1 => (match itemsD d with
    | some ds => .ok ds e1
    | none => .bad)
  | .er x e1 => .er x e1
  | .bad => .bad
theorem walks_list {F : Addr → Prop} {H : Hp} {v : V} {ds : List D} (r : Rp K F H v (.lst false ds) []) : ∃ a, v = .ref a ∧ (∃ xs, SqL K H a xs) ∧ Walks K F H (Itl K a) ds := by
  obtain ⟨a, vs, C, rfl, q, rr, hC⟩ := r.seqL
  refine ⟨a, rfl, ⟨vs, q⟩, fun F' H' hF hp dom i => ?_⟩
  have r' := r.to hF hp
  obtain ⟨a', ws, C', ea, q', rr', hC'⟩ := r'.seqL
  cases ea
  have eC : C' = [] := List.eq_nil_iff_forall_not_mem.mpr fun x z => nomatch hC' x z
  subst eC
  refine ⟨fun d hd => ?_, fun h1 h2 => ⟨ws, q', by rw [rr'.length]; exact h1⟩⟩
  obtain ⟨u, hu, ru⟩ := rr'.nil_get hd
  refine ⟨⟨ws, u, q', hu⟩, fun x H'' hy => ?_⟩
  obtain ⟨rfl, hx⟩ := hy
  have := hx ws q'
  rw [hu] at this
  have := Option.some.inj this
  subst this
  exact ⟨F', .refl dom, ru⟩
theorem walks_tup {F : Addr → Prop} {H : Hp} {v : V} {ds : List D} {B : List Addr} (r : Rp K F H v (.tup ds) B) : ∃ a, v = .ref a ∧ (∃ xs, SqT K H a xs) ∧ Walks K F H (Itt K a) ds := by
  obtain ⟨a, vs, rfl, q, rr, rfl⟩ := r.seqT
  refine ⟨a, rfl, ⟨vs, q⟩, fun F' H' hF hp dom i => ?_⟩
  have r' := r.to hF hp
  obtain ⟨a', ws, ea, q', rr', _⟩ := r'.seqT
  cases ea
  refine ⟨fun d hd => ?_, fun h1 h2 => ⟨ws, q', by rw [rr'.length]; exact h1⟩⟩
  obtain ⟨u, hu, ru⟩ := rr'.nil_get hd
  refine ⟨⟨ws, u, q', hu⟩, fun x H'' hy => ?_⟩
  obtain ⟨rfl, hx⟩ := hy
  have := hx ws q'
  rw [hu] at this
  have := Option.some.inj this
  subst this
  exact ⟨F', .refl dom, ru⟩
theorem walks_str {F : Addr → Prop} {H : Hp} {x : Str} : Walks K F H (Its x) (chars x) := fun F' H' hF hp dom i => by
  refine ⟨fun d hd => ?_, fun h1 h2 => ?_⟩
  · unfold chars at hd
    rw [List.getElem?_map] at hd
    cases ec : x.cps.toList[i]? with
    | none => rw [ec] at hd; cases hd
    | some c =>
      rw [ec] at hd
      have := Option.some.inj hd
      subst this
      have ec' : x.cps[i]? = some c := by simpa using ec
      have hlt : i < x.cps.size := by
        have := (Array.getElem?_eq_some_iff.mp ec').1
        exact this
      refine ⟨hlt, fun y H'' hy => ?_⟩
      obtain ⟨rfl, c', h1, rfl⟩ := hy
      rw [ec'] at h1
      have := Option.some.inj h1
      subst this
      exact ⟨F', .refl dom, .str _⟩
  · show x.cps.size ≤ i
    unfold chars at h1
    simpa using h1
theorem si_seq (h : SE X W a na) : SI X W tg a (mIt na) := by
  obtain ⟨t, pt, st⟩ := h
  refine ⟨_, PI.or (pi_list pt) (PI.or (pi_tup pt) (pi_str pt)), fun σ H F A e s w => ?_⟩
  have q := st σ H F A e s w
  unfold mIt
  cases em : na e with
  | bad => trivial
  | er x e1 => rw [em] at q; exact fun k Q => .inl (q k _)
  | ok d e1 =>
    rw [em] at q
    cases d with
    | lst o ds =>
      intro Q k
      refine .inl (q _ fun v H' F' A' B s' r w' t' => ?_)
      obtain ⟨w2, t2⟩ := freeze (F' := F') w'
      have r2 : Rp X.K (fun a => F' a ∨ a ∈ B) H' v (.lst false (frzs ds)) [] := by
        have z := r.frz (F' := fun a => F' a ∨ a ∈ B) (fun _ h => .inl h) fun _ h => .inr h
        simpa [D.frz] using z
      obtain ⟨a, rfl, ex, wk⟩ := walks_list r2
      exact ⟨a, rfl, ex, k _ H' _ A' (s'.to (fun _ h => .inl h) fun _ _ e _ => e) w2 (t'.trans t2) wk⟩
    | tup ds =>
      intro Q k
      refine .inr (.inl (q _ fun v H' F' A' B s' r w' t' => ?_))
      obtain ⟨a, rfl, ex, wk⟩ := walks_tup r
      exact ⟨a, rfl, ex, k _ H' _ A' s' w'.left (t'.less fun _ => List.mem_append_left _) wk⟩
    | str x =>
      intro Q k
      refine .inr (.inr (q _ fun v H' F' A' B s' r w' t' => ?_))
      obtain ⟨rfl, _⟩ := r.isStr
      exact ⟨x, rfl, k _ H' _ A' s' w'.left (t'.less fun _ => List.mem_append_left _) walks_str⟩
    | _ => trivial

/-! ### range -/
def rangeD (lo : Int) (n : Nat) : List D := (List.range n).map fun k => .int (lo + (k : Nat))
def mRng1 (m : MA) : MA := fun e => match m e with
  | .ok [.int j] e1 => if (decide (-(2 ^ 62) ≤ j) && decide (j < 2 ^ 62)) = true then .ok (rangeD 0 j.toNat) e1 else .bad
  | .ok _ _ => .bad
  | .er x e1 => .er x e1
  | .bad => .bad
def mRng2 (m : MA) : MA := fun e => match m e with
  | .ok [.int i, .int j] e1 => if (decide (-(2 ^ 62) ≤ i) && (decide (i < 2 ^ 62) && (decide (-(2 ^ 62) ≤ j) && decide (j < 2 ^ 62)))) = true then .ok (rangeD i (j - i).toNat) e1 else .bad
  | .ok _ _ => .bad
  | .er x e1 => .er x e1
  | .bad => .bad
theorem walks_rng {F : Addr → Prop} {H : Hp} {lo : Int} {n : Nat} : Walks K F H (Itr lo n) (rangeD lo n) := fun F' H' hF hp dom i => by
  refine ⟨fun d hd => ?_, fun h1 h2 => ?_⟩
  · unfold rangeD at hd
    rw [List.getElem?_map] at hd
    cases ec : (List.range n)[i]? with
    | none => rw [ec] at hd; cases hd
    | some c =>
      rw [ec] at hd
      have := Option.some.inj hd
      subst this
      obtain ⟨h1, h2⟩ := List.getElem?_eq_some_iff.mp ec
      rw [List.length_range] at h1
      rw [List.getElem_range] at h2
      subst h2
      refine ⟨h1, fun y H'' hy => ?_⟩
      obtain ⟨rfl, rfl⟩ := hy
      exact ⟨F', .refl dom, .int _⟩
  · show n ≤ i
    unfold rangeD at h1
    simpa using h1
theorem si_rng1 {m : MA} (hg : Gl X "range") (hm : X.mg "range" = none) (ha : SA X W [a] m) (hs : starEach [a] X.env = [(false, eval a X.env)] := by rfl) : SI X W tg (.Call (.Name "range" p) [a] [] pos) (mRng1 m) := by
  obtain ⟨t, pt, st⟩ := ha
  refine ⟨_, pi_range1 hg hm pt hs, fun σ H F A e s w => ?_⟩
  have q := st σ H F A e s w
  unfold mRng1
  cases em : m e with
  | bad => trivial
  | er x e1 => rw [em] at q; exact fun k Q => q k _
  | ok ds e1 =>
    rw [em] at q
    split
    · rename_i j e2 heq
      cases heq
      split
      · rename_i hc
        simp only [Bool.and_eq_true, decide_eq_true_eq] at hc
        intro Q k
        refine q _ fun vs H' F' A' B s' r0 w' t' => ?_
        obtain ⟨v, rfl, r⟩ := rps1 r0
        obtain ⟨rfl, _⟩ := r.isInt
        exact ⟨j, rfl, hc.1, hc.2, k _ H' F' A' s' w'.left (t'.less fun _ => List.mem_append_left _) walks_rng⟩
      · trivial
    · trivial
    · rename_i heq; cases heq
    · rename_i heq; cases heq
theorem si_rng2 {m : MA} (hg : Gl X "range") (hm : X.mg "range" = none) (ha : SA X W [a, b] m) (hs : starEach [a, b] X.env = [(false, eval a X.env), (false, eval b X.env)] := by rfl) (hs2 : starEach [b] X.env = [(false, eval b X.env)] := by rfl) :
    SI X W tg (.Call (.Name "range" p) [a, b] [] pos) (mRng2 m) := by
  obtain ⟨t, pt, st⟩ := ha
  refine ⟨_, pi_range2 hg hm pt hs hs2, fun σ H F A e s w => ?_⟩
  have q := st σ H F A e s w
  unfold mRng2
  cases em : m e with
  | bad => trivial
  | er x e1 => rw [em] at q; exact fun k Q => q k _
  | ok ds e1 =>
    rw [em] at q
    split
    · rename_i i j e2 heq
      cases heq
      split
      · rename_i hc
        simp only [Bool.and_eq_true, decide_eq_true_eq] at hc
        intro Q k
        refine q _ fun vs H' F' A' B s' r0 w' t' => ?_
        obtain ⟨v, v2, B1, B2, rfl, r1, r2⟩ := rps2 r0
        obtain ⟨rfl, _⟩ := r1.isInt
        obtain ⟨rfl, _⟩ := r2.isInt
        exact ⟨i, j, rfl, hc, k _ H' F' A' s' w'.left (t'.less fun _ => List.mem_append_left _) walks_rng⟩
      · trivial
    · trivial
    · rename_i heq; cases heq
    · rename_i heq; cases heq

/-! ### enumerate -/
def enumD (ds : List D) : List D := ds.zipIdx.map fun p => .tup [.int (p.2 : Nat), p.1]
def mEnum (m : MA) : MA := fun e => match m e with
  | .ok [.lst _ ds] e1 => .ok (enumD (frzs ds)) e1
  | .ok [.tup ds] e1 => .ok (enumD ds) e1
  | .ok _ _ => .bad
  | .er x e1 => .er x e1
  | .bad => .bad
theorem enumD_get {ds : List D} {i : Nat} {z : D} (h : (enumD ds)[i]? = some z) : ∃ d, ds[i]? = some d ∧ z = .tup [.int (i : Nat), d] := by
  unfold enumD at h
  rw [List.getElem?_map, List.getElem?_zipIdx] at h
  cases ed : ds[i]? with
  | none => rw [ed] at h; cases h
  | some d =>
    rw [ed] at h
    simp only [Option.map_some, Nat.zero_add] at h
    exact ⟨d, rfl, (Option.some.inj h).symm⟩
theorem walks_enum {F : Addr → Prop} {H : Hp} {v : V} {ds : List D} (r : Rp K F H v (.lst false ds) []) : ∃ a xs, v = .ref a ∧ SqL K H a xs ∧ Walks K F H (Ite K a) (enumD ds) := by
  obtain ⟨a, vs, C, rfl, q, rr, hC⟩ := r.seqL
  refine ⟨a, vs, rfl, q, fun F' H' hF hp dom i => ?_⟩
  have r' := r.to hF hp
  obtain ⟨a', ws, C', ea, q', rr', hC'⟩ := r'.seqL
  cases ea
  have eC : C' = [] := List.eq_nil_iff_forall_not_mem.mpr fun x z => nomatch hC' x z
  subst eC
  refine ⟨fun z hz => ?_, fun h1 h2 => ⟨ws, q', by rw [rr'.length]; simpa [enumD] using h1⟩⟩
  obtain ⟨d, hd, rfl⟩ := enumD_get hz
  obtain ⟨u, hu, ru⟩ := rr'.nil_get hd
  refine ⟨⟨ws, u, q', hu⟩, fun x H'' hy => ?_⟩
  obtain ⟨T, y, rfl, hT, rfl, hx⟩ := hy
  have := hx ws q'
  rw [hu] at this
  have := Option.some.inj this
  subst this
  have x2 : Ext F' H' F' (upd H' T (.tup [.int (i : Nat), u])) := .laid hT dom
  exact ⟨F', x2, .tup (SqT.of upd_same) (.cons (.int _) (.cons (x2.rp ru) .nil rfl) rfl)⟩
theorem walks_enumT {F : Addr → Prop} {H : Hp} {v : V} {ds : List D} {B : List Addr} (r : Rp K F H v (.tup ds) B) : ∃ a xs, v = .ref a ∧ SqT K H a xs ∧ Walks K F H (IteT K a) (enumD ds) := by
  obtain ⟨a, vs, rfl, q, rr, rfl⟩ := r.seqT
  refine ⟨a, vs, rfl, q, fun F' H' hF hp dom i => ?_⟩
  have r' := r.to hF hp
  obtain ⟨a', ws, ea, q', rr', _⟩ := r'.seqT
  cases ea
  refine ⟨fun z hz => ?_, fun h1 h2 => ⟨ws, q', by rw [rr'.length]; simp [enumD] at h1 h2; omega⟩⟩
  obtain ⟨d, hd, rfl⟩ := enumD_get hz
  obtain ⟨u, hu, ru⟩ := rr'.nil_get hd
  refine ⟨⟨ws, u, q', hu⟩, fun x H'' hy => ?_⟩
  obtain ⟨T, y, rfl, hT, rfl, hx⟩ := hy
  have := hx ws q'
  rw [hu] at this
  have := Option.some.inj this
  subst this
  have x2 : Ext F' H' F' (upd H' T (.tup [.int (i : Nat), u])) := .laid hT dom
  exact ⟨F', x2, .tup (SqT.of upd_same) (.cons (.int _) (.cons (x2.rp ru) .nil rfl) rfl)⟩
theorem si_enum {m : MA} {elts : List Expr} {kk : Nat} {tpos : Pos} (hg : Gl X "enumerate") (hm : X.mg "enumerate" = none) (ha : SA X W [a] m) (hs : starEach [a] X.env = [(false, eval a X.env)] := by rfl) :
    SI X W (.Tuple elts kk tpos) (.Call (.Name "enumerate" p) [a] [] pos) (mEnum m) := by
  obtain ⟨t, pt, st⟩ := ha
  refine ⟨_, PI.or (pi_enum hg hm pt hs) (pi_enumT hg hm pt hs), fun σ H F A e s w => ?_⟩
  have q := st σ H F A e s w
  unfold mEnum
  cases em : m e with
  | bad => trivial
  | er x e1 => rw [em] at q; exact fun k Q => .inl (q k _)
  | ok ds e1 =>
    rw [em] at q
    split
    · rename_i o ds1 e2 heq
      cases heq
      intro Q k
      refine .inl (q _ fun vs H' F' A' B s' r0 w' t' => ?_)
      obtain ⟨v, rfl, r⟩ := rps1 r0
      obtain ⟨w2, t2⟩ := freeze (F' := F') w'
      have r2 : Rp X.K (fun a => F' a ∨ a ∈ B) H' v (.lst false (frzs ds1)) [] := by
        have z := r.frz (F' := fun a => F' a ∨ a ∈ B) (fun _ h => .inl h) fun _ h => .inr h
        simpa [D.frz] using z
      obtain ⟨a, xs, rfl, ex, wk⟩ := walks_enum r2
      exact ⟨a, xs, rfl, ex, k _ H' _ A' (s'.to (fun _ h => .inl h) fun _ _ e _ => e) w2 (t'.trans t2) wk⟩
    · rename_i ds1 e2 heq
      cases heq
      intro Q k
      refine .inr (q _ fun vs H' F' A' B s' r0 w' t' => ?_)
      obtain ⟨v, rfl, r⟩ := rps1 r0
      obtain ⟨a, xs, rfl, ex, wk⟩ := walks_enumT r
      exact ⟨a, xs, rfl, ex, k _ H' _ A' s' w'.left (t'.less fun _ => List.mem_append_left _) wk⟩
    · trivial
    · rename_i heq; cases heq
    · rename_i heq; cases heq

/-! ### zip -/
def zipD (ds es : List D) : List D := (ds.zip es).map fun p => .tup [p.1, p.2]
def mZip (m : MA) : MA := fun e => match m e with
  | .ok [.lst _ ds, .lst _ es] e1 => .ok (zipD (frzs ds) (frzs es)) e1
  | .ok [.tup ds, .tup es] e1 => .ok (zipD ds es) e1
  | .ok _ _ => .bad
  | .er x e1 => .er x e1
  | .bad => .bad
theorem zipD_get {ds es : List D} {i : Nat} {z : D} (h : (zipD ds es)[i]? = some z) : ∃ d d2, ds[i]? = some d ∧ es[i]? = some d2 ∧ z = .tup [d, d2] := by
  unfold zipD at h
  rw [List.getElem?_map] at h
  cases ed : (ds.zip es)[i]? with
  | none => rw [ed] at h; cases h
  | some d =>
    rw [ed] at h
    rw [List.getElem?_zip_eq_some] at ed
    exact ⟨d.1, d.2, ed.1, ed.2, (Option.some.inj h).symm⟩
theorem rps2' {F : Addr → Prop} {H : Hp} {vs : List V} {d e : D} {A : List Addr} (r : Rps K F H vs [d, e] A) : ∃ v w A1 A2, vs = [v, w] ∧ Rp K F H v d A1 ∧ Rp K F H w e A2 ∧ A = A1 ++ A2 := by
  cases r with
  | cons a b c =>
    obtain ⟨w, rfl, r2⟩ := rps1 b
    exact ⟨_, w, _, _, rfl, a, r2, c⟩
theorem walks_zip {F : Addr → Prop} {H : Hp} {v v2 : V} {ds es : List D} (r : Rp K F H v (.lst false ds) []) (r2 : Rp K F H v2 (.lst false es) []) : ∃ a b xs ys, v = .ref a ∧ v2 = .ref b ∧ SqL K H a xs ∧ SqL K H b ys ∧ Walks K F H (Itz K a b) (zipD ds es) := by
  obtain ⟨a, vs, C, rfl, q, rr, hC⟩ := r.seqL
  obtain ⟨b, vs2, C2, rfl, q2, rr2, hC2⟩ := r2.seqL
  refine ⟨a, b, vs, vs2, rfl, rfl, q, q2, fun F' H' hF hp dom i => ?_⟩
  obtain ⟨a', ws, C', ea, q', rr', hC'⟩ := (r.to hF hp).seqL
  obtain ⟨b', ws2, C2', eb, q2', rr2', hC2'⟩ := (r2.to hF hp).seqL
  cases ea
  cases eb
  have eC : C' = [] := List.eq_nil_iff_forall_not_mem.mpr fun x z => nomatch hC' x z
  have eC2 : C2' = [] := List.eq_nil_iff_forall_not_mem.mpr fun x z => nomatch hC2' x z
  subst eC eC2
  refine ⟨fun z hz => ?_, fun h1 h2 => ⟨ws, ws2, q', q2', by rw [rr'.length, rr2'.length]; simp [zipD] at h1; omega⟩⟩
  obtain ⟨d, d2, hd, hd2, rfl⟩ := zipD_get hz
  obtain ⟨u, hu, ru⟩ := rr'.nil_get hd
  obtain ⟨u2, hu2, ru2⟩ := rr2'.nil_get hd2
  refine ⟨⟨ws, ws2, u, u2, q', q2', hu, hu2⟩, fun x H'' hy => ?_⟩
  obtain ⟨T, y, y2, rfl, hT, rfl, hx, hx2⟩ := hy
  have := hx ws q'
  rw [hu] at this
  have := Option.some.inj this
  subst this
  have := hx2 ws2 q2'
  rw [hu2] at this
  have := Option.some.inj this
  subst this
  have x2 : Ext F' H' F' (upd H' T (.tup [u, u2])) := .laid hT dom
  exact ⟨F', x2, .tup (SqT.of upd_same) (.cons (x2.rp ru) (.cons (x2.rp ru2) .nil rfl) rfl)⟩
theorem walks_zipT {F : Addr → Prop} {H : Hp} {v v2 : V} {ds es : List D} {B B2 : List Addr} (r : Rp K F H v (.tup ds) B) (r2 : Rp K F H v2 (.tup es) B2) : ∃ a b xs ys, v = .ref a ∧ v2 = .ref b ∧ SqT K H a xs ∧ SqT K H b ys ∧ Walks K F H (RZ.ItzT K a b) (zipD ds es) := by
  obtain ⟨a, vs, rfl, q, rr, rfl⟩ := r.seqT
  obtain ⟨b, vs2, rfl, q2, rr2, rfl⟩ := r2.seqT
  refine ⟨a, b, vs, vs2, rfl, rfl, q, q2, fun F' H' hF hp dom i => ?_⟩
  obtain ⟨a', ws, ea, q', rr', _⟩ := (r.to hF hp).seqT
  obtain ⟨b', ws2, eb, q2', rr2', _⟩ := (r2.to hF hp).seqT
  cases ea
  cases eb
  refine ⟨fun z hz => ?_, fun h1 h2 => ⟨ws, ws2, q', q2', by rw [rr'.length, rr2'.length]; simp [zipD] at h1; omega⟩⟩
  obtain ⟨d, d2, hd, hd2, rfl⟩ := zipD_get hz
  obtain ⟨u, hu, ru⟩ := rr'.nil_get hd
  obtain ⟨u2, hu2, ru2⟩ := rr2'.nil_get hd2
  refine ⟨⟨ws, ws2, u, u2, q', q2', hu, hu2⟩, fun x H'' hy => ?_⟩
  obtain ⟨T, y, y2, rfl, hT, rfl, hx, hx2⟩ := hy
  have := hx ws q'
  rw [hu] at this
  have := Option.some.inj this
  subst this
  have := hx2 ws2 q2'
  rw [hu2] at this
  have := Option.some.inj this
  subst this
  have x2 : Ext F' H' F' (upd H' T (.tup [u, u2])) := .laid hT dom
  exact ⟨F', x2, .tup (SqT.of upd_same) (.cons (x2.rp ru) (.cons (x2.rp ru2) .nil rfl) rfl)⟩
theorem si_zip {m : MA} {elts : List Expr} {kk : Nat} {tpos : Pos} (hg : Gl X "zip") (hm : X.mg "zip" = none) (ha : SA X W [a, b] m)
    (hs : starEach [a, b] X.env = (false, eval a X.env) :: starEach [b] X.env := by rfl) (hpl : (backTo pos (starEach [b] X.env)).any (·.1) = false := by rfl) :
    SI X W (.Tuple elts kk tpos) (.Call (.Name "zip" p) [a, b] [] pos) (mZip m) := by
  obtain ⟨t, pt, st⟩ := ha
  refine ⟨_, RZ.pi_zipA hg hm pt hs hpl, fun σ H F A e s w => ?_⟩
  have q := st σ H F A e s w
  unfold mZip
  cases em : m e with
  | bad => trivial
  | er x e1 => rw [em] at q; exact fun k Q => q k _
  | ok ds e1 =>
    rw [em] at q
    split
    · rename_i o1 ds1 o2 ds2 e2 heq
      cases heq
      intro Q k
      refine q _ fun vs H' F' A' B s' r w' t' => ?_
      obtain ⟨v, v2, B1, B2, rfl, r1, r2, rfl⟩ := rps2' r
      obtain ⟨w2, t2⟩ := freeze (F' := F') w'
      have r3 : Rp X.K (fun a => F' a ∨ a ∈ B1 ++ B2) H' v (.lst false (frzs ds1)) [] := by
        have z := r1.frz (F' := fun a => F' a ∨ a ∈ B1 ++ B2) (fun _ h => .inl h) fun _ h => .inr (List.mem_append_left _ h)
        simpa [D.frz] using z
      have r4 : Rp X.K (fun a => F' a ∨ a ∈ B1 ++ B2) H' v2 (.lst false (frzs ds2)) [] := by
        have z := r2.frz (F' := fun a => F' a ∨ a ∈ B1 ++ B2) (fun _ h => .inl h) fun _ h => .inr (List.mem_append_right _ h)
        simpa [D.frz] using z
      obtain ⟨a, b, xs, ys, rfl, rfl, ex, ey, wk⟩ := walks_zip r3 r4
      exact ⟨a, b, xs, ys, rfl, .inl ⟨ex, ey, k _ H' _ A' (s'.to (fun _ h => .inl h) fun _ _ e _ => e) w2 (t'.trans t2) wk⟩⟩
    · rename_i ds1 ds2 e2 heq
      cases heq
      intro Q k
      refine q _ fun vs H' F' A' B s' r w' t' => ?_
      obtain ⟨v, v2, B1, B2, rfl, r1, r2, rfl⟩ := rps2' r
      obtain ⟨a, b, xs, ys, rfl, rfl, ex, ey, wk⟩ := walks_zipT r1 r2
      exact ⟨a, b, xs, ys, rfl, .inr ⟨ex, ey, k _ H' _ A' s' w'.left (t'.less fun _ => List.mem_append_left _) wk⟩⟩
    · trivial
    · rename_i heq; cases heq
    · rename_i heq; cases heq
end
end G
set_option Elab.async false
set_option linter.all false
set_option maxRecDepth 100000
set_option maxHeartbeats 4000000
namespace G
open PySem L2
def wipeE (e : Env) : List Nat → Env
  | [] => e
  | v :: vs => (wipeE e vs).set v none
abbrev W0 : WX := fun _ _ _ _ => False
section
variable {K : Frag} {F : Addr → Prop} {H : Hp}
theorem Wf.sub {A B : List Addr} (w : Wf F H A) (h : B.Sublist A) : Wf F H B := ⟨h.nodup w.nd, fun a z => w.off a (h.subset z), fun a z => w.mu a (h.subset z), w.dom⟩
theorem Sls.wipe {σ : St} {e : Env} {A : List Addr} (s : Sls K F H σ e A) : ∀ vs : List Nat, ∃ A', Sls K F H (wipe σ vs) (wipeE e vs) A' ∧ A'.Sublist A
  | [] => ⟨A, s, List.Sublist.refl _⟩
  | v :: vs => by
    obtain ⟨A1, s1, h1⟩ := Sls.wipe s vs
    by_cases hv : v < (wipeE e vs).length
    · obtain ⟨L, B, R, e1, _, h3⟩ := s1.put v hv
      refine ⟨L ++ R, h3 F H none (fun _ h => h) fun _ _ e _ => e, ?_⟩
      refine List.Sublist.trans ?_ h1
      rw [e1, List.append_assoc]
      exact List.Sublist.append (List.Sublist.refl _) (List.sublist_append_right _ _)
    · refine ⟨A1, ?_, h1⟩
      have l1 := s1.length
      show Sls K F H ((L2.wipe σ vs).set v none) ((wipeE e vs).set v none) A1
      rw [List.set_eq_of_length_le (by omega), List.set_eq_of_length_le (by omega)]
      exact s1
end
/-- the wiped slots of a wiped frame -/
theorem wipe_wipe (σ : St) : ∀ vs : List Nat, ∀ ws : List Nat, (∀ i ∈ vs, i ∈ ws) → wipe (wipe σ ws) vs = wipe σ ws
  | [], ws, _ => rfl
  | v :: vs, ws, h => by
    have ih := wipe_wipe σ vs ws fun i z => h i (List.mem_cons_of_mem _ z)
    show (wipe (wipe σ ws) vs).set v none = wipe σ ws
    rw [ih]
    have hv : v ∈ ws := h v List.mem_cons_self
    refine List.ext_getElem? fun i => ?_
    by_cases e : v = i
    · subst e
      by_cases hl : v < (wipe σ ws).length
      · rw [List.getElem?_set_self hl]
        have e1 : ∀ x, (wipe σ ws)[v]? ≠ some (some x) := fun x z => (wipe_some z).2 hv
        cases q : (wipe σ ws)[v]? with
        | none => rw [List.getElem?_eq_none_iff] at q; omega
        | some o =>
          cases o with
          | none => rfl
          | some x => exact absurd q (e1 x)
      · rw [List.set_eq_of_length_le (by omega)]
    · rw [List.getElem?_set_ne e]

section
variable {X : Cx} {W : WX} {ps : List Nat} {a b c o elt tg iter : Expr} {es ifs : List Expr} {ma mb mc : MB} {na nb nc : ME} {pos p : Pos} {K : Frag} {scope : Scope}
/-- the contexts of a comprehension's block -/
abbrev Blk (X : Cx) (scope : Scope) (P : Cx → Prop) : Prop := ∀ (s : Shared) (H : Hp) (C : Addr) (cl : List (Str × Addr)) (fp : List Addr), P (X.blk s H scope (compEnvC scope cl C X.env) fp)
theorem blk_e {m : ME} (h : Blk X scope fun Y => SE Y W0 elt m) : ∃ t, (Blk X scope fun Y => PE Y elt t) ∧ SimE X.K W0 t m := by
  refine ⟨fun σ H Q => Blk X scope fun Y => ∃ t, PE Y elt t ∧ t σ H Q, fun s H C cl fp => ⟨fun pins s' σ H' Q I q => ?_⟩, fun σ H F A e sl w => ?_⟩
  · obtain ⟨t, pt, q⟩ := q s H C cl fp
    exact pt.run pins s' σ H' Q I q
  · cases em : m e with
    | bad => trivial
    | er x e1 =>
      intro k Q s H0 C cl fp
      obtain ⟨t, pt, st⟩ := h s H0 C cl fp
      have q := st σ H F A e sl w
      rw [em] at q
      exact ⟨t, pt, q k Q⟩
    | ok d e1 =>
      intro Q k s H0 C cl fp
      obtain ⟨t, pt, st⟩ := h s H0 C cl fp
      have q := st σ H F A e sl w
      rw [em] at q
      exact ⟨t, pt, q Q k⟩
def STs (X : Cx) (W : WX) (ifs : List Expr) (m : ME) : Prop := ∃ t, PTs X ifs t ∧ SimT X.K W t m
def mYes : ME := fun e => .ok (.bl true) e
theorem sts_nil : STs X W [] mYes := ⟨_, pts_nil, fun σ H F A e s w Q k => k H F A s w .refl⟩
theorem sts_one (h : ST X W c nc) : STs X W [c] nc := let ⟨t, p, s⟩ := h; ⟨t, pts_one p, s⟩
theorem blk_t {m : ME} (h : Blk X scope fun Y => STs Y W0 ifs m) : ∃ t, (Blk X scope fun Y => PTs Y ifs t) ∧ SimT X.K W0 t m := by
  refine ⟨fun σ H Q => Blk X scope fun Y => ∃ t, PTs Y ifs t ∧ t σ H Q, fun s H C cl fp => ⟨fun pins s' σ H' Q I q => ?_⟩, fun σ H F A e sl w => ?_⟩
  · obtain ⟨t, pt, q⟩ := q s H C cl fp
    exact pt.run pins s' σ H' Q I q
  · cases em : m e with
    | bad => trivial
    | er x e1 =>
      intro k Q s H0 C cl fp
      obtain ⟨t, pt, st⟩ := h s H0 C cl fp
      have q := st σ H F A e sl w
      rw [em] at q
      exact ⟨t, pt, q k Q⟩
    | ok d e1 =>
      cases d with
      | bl b =>
        intro Q k s H0 C cl fp
        obtain ⟨t, pt, st⟩ := h s H0 C cl fp
        have q := st σ H F A e sl w
        rw [em] at q
        exact ⟨t, pt, q Q k⟩
      | _ => trivial
/-- a target in a block: it stores the block's own slots alone -/
def SimGo (K : Frag) (own : List Nat) (g : TG) (m : MG) : Prop := ∀ σ H F A B e v d e', Sls K F H σ e A → Rp K F H v d B → Wf F H (A ++ B) → m d e = some e' → ∀ Q : St → Hp → Prop, (∀ σ' F' H' A', Ok K [] F H (A ++ B) σ e' F' H' A' σ' → wipe σ' own = wipe σ own → Q σ' H') → g v σ H Q
/-- a name of the block, a tuple of such -/
inductive Own1 (own : List Nat) (X : Cx) : Expr → TG → MG → Prop
  | name {x : Str} {pos : Pos} (i : Nat) (hm : i ∈ own) (h : PG X (.Name x pos) (gName i)) : Own1 own X (.Name x pos) (gName i) (gN i)
theorem wipe_set {σ : St} {i : Nat} {o : Option V} : ∀ {own : List Nat}, i ∈ own → wipe (σ.set i o) own = wipe σ own
  | [], h => nomatch h
  | v :: vs, h => by
    show (wipe (σ.set i o) vs).set v none = (wipe σ vs).set v none
    by_cases e : i ∈ vs
    · rw [wipe_set e]
    · have ev : i = v := by
        rcases List.mem_cons.mp h with h | h
        · exact h
        · exact absurd h e
      subst ev
      refine List.ext_getElem? fun j => ?_
      by_cases ej : i = j
      · subst ej
        by_cases hl : i < (wipe σ vs).length
        · have hl2 : i < (wipe (σ.set i o) vs).length := by rw [wipe_length, List.length_set]; rw [wipe_length] at hl; exact hl
          rw [List.getElem?_set_self hl, List.getElem?_set_self hl2]
        · rw [List.getElem?_eq_none_iff.mpr (by simp only [List.length_set, wipe_length] at hl ⊢; omega), List.getElem?_eq_none_iff.mpr (by simp only [List.length_set, wipe_length] at hl ⊢; omega)]
      · rw [List.getElem?_set_ne ej, List.getElem?_set_ne ej]
        have hw : ∀ (ws : List Nat) (τ ρ : St), τ.length = ρ.length → τ[j]? = ρ[j]? → (wipe τ ws)[j]? = (wipe ρ ws)[j]? := by
          intro ws
          induction ws with
          | nil => intro τ ρ _ h; exact h
          | cons w ws ih =>
            intro τ ρ hl h
            show ((wipe τ ws).set w none)[j]? = ((wipe ρ ws).set w none)[j]?
            by_cases ew : w = j
            · subst ew
              have l1 := wipe_length τ ws
              have l2 := wipe_length ρ ws
              by_cases hj : w < τ.length
              · rw [List.getElem?_set_self (by omega), List.getElem?_set_self (by omega)]
              · rw [List.set_eq_of_length_le (by omega), List.set_eq_of_length_le (by omega)]
                exact ih τ ρ hl h
            · rw [List.getElem?_set_ne ew, List.getElem?_set_ne ew]
              exact ih τ ρ hl h
        exact hw vs _ _ (by simp) (List.getElem?_set_ne ej)
/-- a target in a block: its reading with the promise that the rest of the frame stays -/
def SGo (X : Cx) (own : List Nat) (tg : Expr) (m : MG) : Prop := ∃ g, PG X tg g ∧ SimGo X.K own g m
def SimGso (K : Frag) (own : List Nat) (g : TGs) (m : MGs) : Prop := ∀ σ H F A B e vs ds e', Sls K F H σ e A → Rps K F H vs ds B → Wf F H (A ++ B) → m ds e = some e' → ∀ Q : St → Hp → Prop, (∀ σ' F' H' A', Ok K [] F H (A ++ B) σ e' F' H' A' σ' → wipe σ' own = wipe σ own → Q σ' H') → g vs σ H Q
def SGso (X : Cx) (own : List Nat) (ts : List Expr) (m : MGs) : Prop := ∃ g, PGs X ts g ∧ SimGso X.K own g m
theorem sim_gNo {own : List Nat} {i : Nat} (hm : i ∈ own) : SimGo K own (gName i) (gN i) := fun σ H F A B e v d e' s r w h Q k => by
  refine sim_gN (ps := []) (by simp) σ H F A B e v d e' s r w h (fun σ' H' => σ' = σ.set i (some v) → Q σ' H') (fun σ' F' H' A' o es => k σ' F' H' A' o (by rw [es]; exact wipe_set hm)) rfl
theorem sgo_name {own : List Nat} (i : Nat) {x : Str} {pos : Pos} (hN : X.N.Nodup) (hm : i ∈ own := by decide) (hi : X.N[i]? = some x := by rfl) (hx : Loc X.env.scope x := by first | exact Or.inl rfl | exact Or.inr rfl) (hf : X.fn x = true ∨ X.env.scope.names.lookup x = some .local := by first | exact .inl rfl | exact .inr rfl | assumption) :
    SGo X own (.Name x pos) (gN i) := ⟨_, pg_name hN hi hx hf, sim_gNo hm⟩
theorem sgso_nil {own : List Nat} : SGso X own [] gNil' := ⟨_, pgs_nil, fun σ H F A B e vs ds e' s r w h Q k => by
  unfold gNil' at h
  split at h
  · rename_i hl
    have q := Option.some.inj h; subst q
    have hd : ds = [] := List.length_eq_zero_iff.mp hl
    subst hd
    cases r
    exact ⟨rfl, k σ F H A ⟨s, w.left, Step.refl.mem (by simp) (fun _ => Iff.rfl), fun _ _ => rfl⟩ rfl⟩
  · cases h⟩
theorem sgso_cons {own : List Nat} {m : MG} {r : MGs} (h1 : SGo X own a m) (h2 : SGso X own es r) (hs : (assignEach (a :: es) X.env).map (·.2) = assign a X.env :: (assignEach es X.env).map (·.2) := by rfl) : SGso X own (a :: es) (gCons' m r) := by
  obtain ⟨g, pg, sg⟩ := h1
  obtain ⟨gs, pgs, sgs⟩ := h2
  refine ⟨_, pgs_cons pg pgs hs, fun σ H F A B e vs ds e' s rr w h Q k => ?_⟩
  unfold gCons' at h
  cases rr with
  | nil => cases h
  | @cons v d vs ds B1 B2 _ r1 r2 eB =>
    subst eB
    simp only at h
    cases e1 : m d e with
    | none => rw [e1] at h; cases h
    | some e2 =>
      rw [e1] at h
      refine ⟨v, vs, rfl, ?_⟩
      have w1 : Wf F H (A ++ B1) := Wf.left (B := B2) (by rw [List.append_assoc]; exact w)
      refine sg σ H F A B1 e v d e2 s r1 w1 e1 _ fun σ' F' H' A' o ew => ?_
      have w2 : Wf F H ((A ++ B1) ++ B2) := by rw [List.append_assoc]; exact w
      obtain ⟨w3, t3⟩ := o.st.beside w2 o.wf
      refine sgs σ' H' F' A' B2 e2 vs ds e' o.sl (r2.to o.st.mono (o.st.pres w1 fun a h z => w2.apart a z h)) w3 h Q fun σ2 F2 H2 A2 o2 ew2 => ?_
      refine k σ2 F2 H2 A2 ⟨o2.sl, o2.wf, ?_, fun i hi => (o2.kp i hi).trans (o.kp i hi)⟩ (ew2.trans ew)
      have := t3.trans o2.st
      rw [List.append_assoc] at this
      exact this
theorem sgo_tup {own : List Nat} {n k : Nat} {m : MGs} (hc : X.calm = true) (h : SGso X own es m) (hn : (assignEach es X.env).length = n := by rfl) (hst : (assignEach es X.env).findIdx? (·.1) = none := by rfl) : SGo X own (.Tuple es k pos) (gT n m) := by
  obtain ⟨g, pg, sg⟩ := h
  refine ⟨_, PG.or (pg_tup hc pg hn hst) (pg_lst hc pg hn hst), fun σ H F A B e v d e' s r w h Q k => ?_⟩
  unfold gT at h
  cases d with
  | tup ds =>
    simp only at h
    split at h
    · rename_i hl
      obtain ⟨a, vs, rfl, q, rr, rfl⟩ := r.seqT
      exact .inl ⟨a, vs, rfl, q, by rw [rr.length]; exact hl, sg σ H F A [] e vs ds e' s rr w h Q k⟩
    · cases h
  | lst o ds =>
    simp only at h
    split at h
    · rename_i hl
      cases r with
      | @lstF a vs _ f q rr => exact .inr ⟨a, vs, rfl, .inl q, by rw [rr.length]; exact hl, sg σ H F A [] e vs ds e' s rr w h Q k⟩
      | @lstK a vs _ q rr => exact .inr ⟨a, vs, rfl, q.sq, by rw [rr.length]; exact hl, sg σ H F A [] e vs ds e' s rr w h Q k⟩
      | @lstO a vs _ C q rr =>
        have sub : ∀ x ∈ A ++ C, x ∈ A ++ a :: C := fun x z => by
          simp only [List.mem_append, List.mem_cons] at z ⊢
          rcases z with z | z <;> simp [z]
        have w' : Wf F H (A ++ C) := by
          refine ⟨?_, fun x z => w.off x (sub x z), fun x z => w.mu x (sub x z), w.dom⟩
          have n2 : (a :: (A ++ C)).Nodup := (List.perm_middle (a := a) (l₁ := A) (l₂ := C)).nodup_iff.mp w.nd
          exact (List.nodup_cons.mp n2).2
        refine .inr ⟨a, vs, rfl, .inl (.inl q), by rw [rr.length]; exact hl, sg σ H F A C e vs ds e' s rr w' h Q fun σ' F' H' A' o ew => ?_⟩
        exact k σ' F' H' A' ⟨o.sl, o.wf, o.st.more sub, o.kp⟩ ew
    · cases h
  | _ => simp at h
theorem blk_g {own : List Nat} {m : MG} (h : Blk X scope fun Y => SGo Y own tg m) : ∃ g, (Blk X scope fun Y => PG Y tg g) ∧ SimGo X.K own g m := by
  refine ⟨fun v σ H Q => Blk X scope fun Y => ∃ g, PG Y tg g ∧ g v σ H Q, fun s H C cl fp => ⟨fun pins s' σ H' v u Q I r q => ?_⟩, fun σ H F A B e v d e' sl r w hm Q k s H0 C cl fp => ?_⟩
  · obtain ⟨g, pg, q⟩ := q s H C cl fp
    exact pg.run pins s' σ H' v u Q I r q
  · obtain ⟨g, pg, sg⟩ := h s H0 C cl fp
    exact ⟨g, pg, sg σ H F A B e v d e' sl r w hm Q k⟩

/-! ### [elt for tg in iter if ..] -/
def compN (own : List Nat) (g : MG) (mt me : ME) : List D → Env → List D → Ra
  | [], e, acc => .ok acc (wipeE e own)
  | d :: ds, e, acc => match g d (wipeE e own) with
    | none => .bad
    | some e1 => (match mt e1 with
      | .ok (.bl true) e2 => (match me e2 with
        | .ok z e3 => if acc.length < sizeLine then compN own g mt me ds e3 (acc ++ [z]) else .bad
        | _ => .bad)
      | .ok (.bl false) e2 => compN own g mt me ds e2 acc
      | _ => .bad)
def mLc (mi : MA) (own : List Nat) (g : MG) (mt me : ME) : ME := fun e => match mi e with
  | .ok ds e1 => (match compN own g mt me ds e1 [] with
    | .ok zs e2 => .ok (.lst true zs) e2
    | _ => .bad)
  | .er x e1 => .er x e1
  | .bad => .bad
theorem sim_lc {wi : TI} {g : TG} {tt : TT} {te : TE} {mi : MA} {own : List Nat} {mg : MG} {mt me : ME} (hi : SimI K W wi mi) (hg : SimGo K own g mg) (ht : SimT K W0 tt mt) (he : SimE K W0 te me) : SimE K W (tLc wi g tt te own) (mLc mi own mg mt me) := fun σ H F A e s w => by
  have q := hi σ H F A e s w
  unfold mLc
  cases em : mi e with
  | bad => trivial
  | er x e1 => rw [em] at q; exact fun k Q => q k _
  | ok ds e1 =>
    rw [em] at q
    show OutE K W σ F H A (match compN own mg mt me ds e1 [] with
      | .ok zs e2 => .ok (.lst true zs) e2
      | _ => .bad) _
    cases er : compN own mg mt me ds e1 [] with
    | bad => trivial
    | er x e2 => trivial
    | ok zs ef =>
      intro Q k
      refine q _ fun J H1 F1 A1 s1 w1 t1 wk D hD => ?_
      obtain ⟨A1', s1', sub1⟩ := s1.wipe own
      have nF : ¬ F1 D := notF w1.dom hD
      have x1 : Ext F1 H1 F1 (upd H1 D (.lst [])) := .laid hD w1.dom
      have inv0 : Wf F1 (upd H1 D (.lst [])) (A1' ++ [D]) := by
        refine Own.wf (Own.one hD nF) x1 (w1.sub sub1) (v := .ref D) (d := .lst true []) (K := K) ?_
        exact .lstO upd_same .nil
      refine ⟨fun i m H2 => ∃ F2 A2 e2 vs acc B, Sls K F2 H2 (wipe σ own) (wipeE e2 own) A2 ∧ H2 D = some (.lst vs) ∧ Rps K F2 H2 vs acc B ∧ Wf F2 H2 (A2 ++ D :: B) ∧ Step F1 H1 A1 F2 H2 (A2 ++ D :: B) ∧
        i + m = ds.length ∧ compN own mg mt me (ds.drop i) e2 acc = .ok zs ef, ⟨ds.length, F1, A1', e1, [], [], [], x1.sls s1', upd_same, .nil, inv0, ?_, by omega, er⟩, ?_⟩
      · refine ⟨fun _ h => h, fun b o h _ => x1.same b o h, fun b h => ?_, fun b h => .inl h⟩
        rcases List.mem_append.mp h with h | h
        · exact .inl (sub1.subset h)
        · rcases List.mem_cons.mp h with h | h
          · rw [h]; exact .inr hD
          · exact (nomatch h)
      rintro i m H2 ⟨F2, A2, e2, vs, acc, B, s2, hD2, r2, w2, t2, hm, ec⟩
      have w2l : Wf F2 H2 A2 := w2.left
      have pr : Pres F1 [] H1 H2 := t2.pres w1 fun _ z => nomatch z
      have wki := wk F2 H2 t2.mono pr w2.dom i
      cases m with
      | zero =>
        have hl : ds.length ≤ i := by omega
        refine .inl ⟨wki.2 hl (by omega), ?_⟩
        have : ds.drop i = [] := List.drop_eq_nil_of_le hl
        rw [this, compN] at ec
        cases ec
        -- the frame as it was: its own slots forgotten
        have s4 : Sls K F2 H2 σ (wipeE e2 own) A2 := by
          have gen : ∀ {τ : St} {e : Env} {A : List Addr}, Sls K F2 H2 τ e A → ∀ ρ : St, ρ.length = τ.length → (∀ (i : Nat) (v : V), τ[i]? = some (some v) → ρ[i]? = some (some v)) → Sls K F2 H2 ρ e A := by
            intro τ e A sl
            induction sl with
            | nil =>
              intro ρ hl _
              have : ρ = [] := List.length_eq_zero_iff.mp (by simpa using hl)
              subst this; exact .nil
            | no s ih =>
              intro ρ hl hv
              cases ρ with
              | nil => simp at hl
              | cons o ρ => exact .no (ih ρ (by simpa using hl) fun i v h => by simpa using hv (i + 1) v (by simpa using h))
            | so a b c ih =>
              intro ρ hl hv
              cases ρ with
              | nil => simp at hl
              | cons o ρ =>
                have h0 := hv 0 _ rfl
                simp at h0
                subst h0
                exact .so a (ih ρ (by simpa using hl) fun i v h => by simpa using hv (i + 1) v (by simpa using h)) c
          exact gen s2 σ (wipe_length σ own).symm fun i v h => (wipe_some h).1
        exact k (.ref D) H2 F2 A2 (D :: B) s4 (.lstO hD2 r2) w2 (t1.trans t2)
      | succ m =>
        have hl : i < ds.length := by omega
        have ed : ds.drop i = ds[i] :: ds.drop (i + 1) := List.drop_eq_getElem_cons hl
        obtain ⟨go, yl⟩ := wki.1 ds[i] (List.getElem?_eq_getElem hl)
        rw [ed, compN] at ec
        refine .inr ⟨go, fun H' => ∃ F2 A2 e2 vs acc B, Sls K F2 H' (wipe σ own) (wipeE e2 own) A2 ∧ H' D = some (.lst vs) ∧ Rps K F2 H' vs acc B ∧ Wf F2 H' (A2 ++ D :: B) ∧ Step F1 H1 A1 F2 H' (A2 ++ D :: B) ∧
          (i + 1) + m = ds.length ∧ compN own mg mt me (ds.drop (i + 1)) e2 acc = .ok zs ef, fun H' z => ⟨m, Nat.lt_succ_self m, z⟩, fun x H3 hy => ?_⟩
        obtain ⟨F3, x3, r3⟩ := yl x H3 hy
        cases eg : mg ds[i] (wipeE e2 own) with
        | none => rw [eg] at ec; cases ec
        | some e3 =>
          rw [eg] at ec
          simp only at ec
          have w3 : Wf F3 H3 (A2 ++ D :: B) := x3.wf w2
          have w3l := w3.left
          have t3 : Step F1 H1 A1 F3 H3 (A2 ++ D :: B) := t2.trans x3.step
          have rD3 : Rp K F3 H3 (.ref D) (.lst true acc) (D :: B) := x3.rp (.lstO hD2 r2)
          refine hg (wipe σ own) H3 F3 A2 [] (wipeE e2 own) x ds[i] e3 (x3.sls s2) r3 (by simpa using w3l) eg _ fun σ4 F4 H4 A4 o4 ew => ⟨ew.trans (wipe_wipe σ own own fun _ h => h), ?_⟩
          rw [List.append_nil] at o4
          obtain ⟨w4, t4⟩ := o4.st.beside w3 o4.wf
          have rD4 := rD3.to o4.st.mono (o4.st.pres w3l fun a h z => w3.apart a z h)
          have qt := ht σ4 H4 F4 A4 e3 o4.sl o4.wf
          cases et : mt e3 with
          | bad => rw [et] at ec; cases ec
          | er x e4 => rw [et] at ec; cases ec
          | ok db e4 =>
            rw [et] at ec qt
            cases db with
            | bl b =>
              refine qt _ fun H5 F5 A5 s5 w5 t5 => ?_
              obtain ⟨w6, t6⟩ := t5.beside w4 w5
              have rD5 := rD4.to t5.mono (t5.pres w4.left fun a h z => w4.apart a z h)
              have t15 : Step F1 H1 A1 F5 H5 (A5 ++ D :: B) := (t3.trans t4).trans t6
              cases b with
              | false =>
                refine iteF ?_
                simp only at ec
                obtain ⟨A6, s6, sub6⟩ := s5.wipe own
                have ew6 : wipe σ4 own = wipe σ own := by rw [ew]; exact wipe_wipe σ own own fun _ h => h
                rw [ew6] at s6
                cases rD5 with
                | lstO hD5 r5 =>
                  have sb : (A6 ++ D :: B).Sublist (A5 ++ D :: B) := List.Sublist.append sub6 (List.Sublist.refl _)
                  exact ⟨F5, A6, e4, _, acc, B, s6, hD5, r5, w6.sub sb, t15.less fun a h => sb.subset h, by omega, ec⟩
              | true =>
                refine iteT ?_
                simp only at ec
                have qe := he σ4 H5 F5 A5 e4 s5 w5
                cases ee : me e4 with
                | bad => rw [ee] at ec; cases ec
                | er x e5 => rw [ee] at ec; cases ec
                | ok z e5 =>
                  rw [ee] at ec qe
                  simp only at ec
                  split at ec
                  · rename_i hsz
                    refine qe _ fun y H6 F6 A7 B7 s7 r7 w7 t7 => ?_
                    obtain ⟨w8, t8⟩ := t7.beside w6 w7
                    have rD6 := rD5.to t7.mono (t7.pres w6.left fun a h z => w6.apart a z h)
                    cases rD6 with
                    | @lstO _ vs6 _ _ hD6 r6 =>
                      have hnD : D ∉ A7 ++ B7 := fun zz => w8.apart D zz List.mem_cons_self
                      have hnB : D ∉ B := fun zz => by
                        have n := (w8.right).nd
                        exact (List.nodup_cons.mp n).1 zz
                      have hFD : ¬ F6 D := w8.off D (List.mem_append_right _ List.mem_cons_self)
                      refine ⟨vs6, hD6, by rw [r6.length]; exact hsz, ?_⟩
                      have prD : ∀ C : List Addr, D ∉ C → Pres F6 C H6 (upd H6 D (.lst (vs6 ++ [y]))) := fun C hC a o e z => by
                        have : a ≠ D := fun q => by
                          subst q
                          rcases z with z | z | z
                          · exact hFD z
                          · exact hC z
                          · rw [hD6] at e
                            have := Option.some.inj e
                            subst this
                            exact z trivial
                        rw [upd_ne this]; exact e
                      obtain ⟨A8, s8, sub8⟩ := s7.wipe own
                      have ew6 : wipe σ4 own = wipe σ own := by rw [ew]; exact wipe_wipe σ own own fun _ h => h
                      rw [ew6] at s8
                      have hA8 : D ∉ A8 := fun zz => hnD (List.mem_append_left _ (sub8.subset zz))
                      have w9 : Wf F6 (upd H6 D (.lst (vs6 ++ [y]))) (A8 ++ D :: (B ++ B7)) := by
                        have pm : (A7 ++ B7 ++ D :: B).Perm (A7 ++ D :: (B ++ B7)) := by
                          refine List.perm_iff_count.mpr fun x => ?_
                          simp only [List.count_append, List.count_cons]; omega
                        have w10 := (w8.perm pm).sub (List.Sublist.append sub8 (List.Sublist.refl (D :: (B ++ B7))))
                        refine ⟨w10.nd, w10.off, fun a h => ?_, fun a h => ?_⟩
                        · by_cases ea : a = D
                          · rw [ea, upd_same]; trivial
                          · rw [upd_ne ea]; exact w10.mu a h
                        · by_cases ea : a = D
                          · exact ⟨_, by rw [ea, upd_same]⟩
                          · rw [upd_ne ea]; exact w10.dom a h
                      refine ⟨F6, A8, e5, vs6 ++ [y], acc ++ [z], B ++ B7, s8.to (fun _ h => h) (prD A8 hA8), upd_same, ?_, w9, ?_, by omega, ec⟩
                      · exact (r6.to (fun _ h => h) (prD B hnB)).append (.cons (r7.to (fun _ h => h) (prD B7 fun zz => hnD (List.mem_append_right _ zz))) .nil (by simp))
                      · have t9 := t15.trans t8
                        refine ⟨t9.mono, fun b o h hb => ?_, fun b h => ?_, t9.frz⟩
                        · have hbD : b ≠ D := fun q => by rw [q, hD] at h; cases h
                          rw [upd_ne hbD]; exact t9.frame b o h hb
                        · refine t9.own b ?_
                          simp only [List.mem_append, List.mem_cons] at h ⊢
                          rcases h with h | h | h | h
                          · exact .inl (.inl (sub8.subset h))
                          · exact .inr (.inl h)
                          · exact .inr (.inr h)
                          · exact .inl (.inr h)
                  · cases ec
            | _ => cases ec
theorem se_lc {mi : MA} {own : List (Str × Nat)} {mg : MG} {mt me : ME} (hc : X.calm = true) (hN : X.N.Nodup) (hi : SI X W tg iter mi) (ok : BlkOk X.N X.env.scope scope own) (hg : Blk X scope fun Y => SGo Y (own.map (·.2)) tg mg) (ht : Blk X scope fun Y => STs Y W0 ifs mt) (he : Blk X scope fun Y => SE Y W0 elt me)
    (hs : ∀ x, foldedSetIterable iter X.env x = pure x := by intro _; rfl) : SE X W (.ListComp elt [⟨tg, iter, ifs, 0⟩] scope pos) (mLc mi (own.map (·.2)) mg mt me) := by
  obtain ⟨wi, pi, si⟩ := hi
  obtain ⟨g, pg, sg⟩ := blk_g hg
  obtain ⟨tt, pt, st⟩ := blk_t ht
  obtain ⟨te, pe, se⟩ := blk_e he
  exact ⟨_, pe_lc hc hN pi ok pg pt pe hs, sim_lc si sg st se⟩
/-- y = [..] -/
theorem ss_setLc {i : Nat} {y : Str} {py spos : Pos} {mi : MA} {own : List (Str × Nat)} {mg : MG} {mt me : ME} (hc : X.calm = true) (hN : X.N.Nodup) (hi : SI X W tg iter mi) (ok : BlkOk X.N X.env.scope scope own) (hg : Blk X scope fun Y => SGo Y (own.map (·.2)) tg mg) (ht : Blk X scope fun Y => STs Y W0 ifs mt) (he : Blk X scope fun Y => SE Y W0 elt me)
    (hsw : swapsWith (.ListComp elt [⟨tg, iter, ifs, 0⟩] scope pos) (some (.Name y py)) spos.line X.env = pure true) (hy : X.N[i]? = some y := by rfl) (hyl : X.env.scope.names.lookup y = some .local := by rfl) (hp : i ∉ ps := by decide)
    (hs : ∀ x, foldedSetIterable iter X.env x = pure x := by intro _; rfl) : SS X W ps (.Assign [.Name y py] (.ListComp elt [⟨tg, iter, ifs, 0⟩] scope pos) spos) (sAsg (mLc mi (own.map (·.2)) mg mt me) (gN i)) := by
  obtain ⟨wi, pi, si⟩ := hi
  obtain ⟨g, pg, sg⟩ := blk_g hg
  obtain ⟨tt, pt, st⟩ := blk_t ht
  obtain ⟨te, pe, se⟩ := blk_e he
  refine ⟨_, ps_setLc hc hN hy hyl hsw pi ok pg pt pe hs, fun σ H F A e s w D h => ?_⟩
  have q := sim_lc (W := W) si sg st se σ H F A e s w
  unfold sAsg at h
  cases em : mLc mi (own.map (·.2)) mg mt me e with
  | bad => rw [em] at h; exact h.elim
  | er x e1 => rw [em] at h q; exact q (out_er h) _
  | ok d e1 =>
    rw [em] at h q
    simp only at h
    cases eg : gN i d e1 with
    | none => rw [eg] at h; exact h.elim
    | some e2 =>
      rw [eg] at h
      refine q _ fun v H' F' A' B s' r w' t' => ?_
      exact sim_gN (K := X.K) hp σ H' F' A' B e1 v d e2 s' r w' eg _ fun σ2 F2 H2 A2 o => h F2 H2 A2 σ2 ⟨o.sl, o.wf, t'.trans o.st, o.kp⟩
end
end G
set_option Elab.async false
set_option linter.all false
set_option maxRecDepth 100000
set_option maxHeartbeats 4000000
namespace G
open PySem L2
/-! ### an owned object is changed -/
section
variable {K : Frag} {F : Addr → Prop} {H : Hp} {a : Addr} {u : HO}
theorem pres_upd {C : List Addr} (hF : ¬ F a) (hm : Mut (H a)) (hC : a ∉ C) : Pres F C H (upd H a u) := fun b o e z => by
  have : b ≠ a := fun q => by
    subst q
    rcases z with z | z | z
    · exact hF z
    · exact hC z
    · rw [e] at hm; exact z hm
  rw [upd_ne this]; exact e
theorem Wf.upd {A : List Addr} (w : Wf F H A) (hu : Mut (Option.some u)) : Wf F (upd H a u) A := ⟨w.nd, w.off, fun b h => by
  by_cases e : b = a
  · rw [e, upd_same]; exact hu
  · rw [upd_ne e]; exact w.mu b h, fun b h => by
  by_cases e : b = a
  · exact ⟨u, by rw [e, upd_same]⟩
  · rw [upd_ne e]; exact w.dom b h⟩
theorem step_upd {A A' : List Addr} (ha : a ∈ A) (hs : ∀ b ∈ A', b ∈ A) : Step F H A F (upd H a u) A' := ⟨fun _ h => h, fun b o h n => by
  have : b ≠ a := fun q => n (q ▸ ha)
  rw [upd_ne this]; exact h, fun b h => .inl (hs b h), fun b h => .inl h⟩
theorem Rps.split {F : Addr → Prop} {H : Hp} : ∀ {vs : List V} {ds es : List D} {C : List Addr}, Rps K F H vs (ds ++ es) C → ∃ vs1 vs2 C1 C2, vs = vs1 ++ vs2 ∧ Rps K F H vs1 ds C1 ∧ Rps K F H vs2 es C2 ∧ C = C1 ++ C2
  | vs, [], es, C, r => ⟨[], vs, [], C, rfl, .nil, r, rfl⟩
  | _, d :: ds, es, C, .cons a b c => by
    obtain ⟨vs1, vs2, C1, C2, h1, h2, h3, h4⟩ := Rps.split b
    subst h1 h4
    exact ⟨_ :: vs1, vs2, _, C2, rfl, .cons a h2 rfl, h3, by rw [c, List.append_assoc]⟩
theorem Rps.set {F : Addr → Prop} {H : Hp} : ∀ {vs : List V} {ds : List D} {C : List Addr} (j : Nat), Rps K F H vs ds C → j < ds.length → ∃ L B R, C = L ++ B ++ R ∧ ∀ (v : V) (d : D) (B' : List Addr), Rp K F H v d B' → Rps K F H (vs.set j v) (ds.set j d) (L ++ B' ++ R)
  | _, _, _, _, .nil, h => by simp at h
  | _, _, _, 0, .cons (A := A1) (B := B1) a b c, h => ⟨[], A1, B1, by rw [c]; rfl, fun v d B' r => .cons r b rfl⟩
  | _, _, _, j + 1, .cons (A := A1) a b c, h => by
    obtain ⟨L, B, R, e, k⟩ := Rps.set j b (by simpa using h)
    exact ⟨A1 ++ L, B, R, by rw [c, e]; simp, fun v d B' r => .cons a (k v d B' r) (by simp)⟩
end
section
variable {X : Cx} {W : WX} {ps : List Nat} {a b c o : Expr} {es : List Expr} {ma mb mc : MB} {na nb nc : ME} {pos p apos cpos : Pos} {K : Frag}
/-- the slot's object, ready to be changed -/
theorem slot_upd {F : Addr → Prop} {H : Hp} {A B : List Addr} {σ : St} {e : Env} {i : Nat} {d : D} {v : V} (s : Sls K F H σ e A) (w : Wf F H (A ++ B)) (hv : σ[i]? = some (some v)) (h : e[i]? = some (some d)) : ∃ C, Rp K F H v d C ∧ (C ++ B).Nodup ∧ (∀ x ∈ C, ¬ F x ∧ Mut (H x)) ∧
    ∀ (a : Addr) (C0 : List Addr) (u : HO) (d' : D) (C' B' : List Addr), v = .ref a → C = a :: C0 → Mut (some u) → (∀ x, x ∈ C' ++ B' → x ∈ C ++ B) → (C' ++ B').Nodup → Rp K F (upd H a u) v d' C' →
      ∃ A', Sls K F (upd H a u) σ (e.set i (some d')) A' ∧ Wf F (upd H a u) (A' ++ B') ∧ Step F H (A ++ B) F (upd H a u) (A' ++ B') := by
  obtain ⟨v0, L, C, R, h1, r, rfl, h2, _⟩ := s.lens h
  rw [hv] at h1
  have := Option.some.inj (Option.some.inj h1)
  subst this
  have pm0 : (L ++ C ++ R ++ B).Perm ((C ++ B) ++ (L ++ R)) := by
    refine List.perm_iff_count.mpr fun x => ?_
    simp only [List.count_append]; omega
  refine ⟨C, r, (w.perm pm0).left.nd, fun x hx => ⟨w.off x (by simp [hx]), w.mu x (by simp [hx])⟩, fun a C0 u d' C' B' ea eC hu sub nd r' => ?_⟩
  subst eC
  have hmem : a ∈ L ++ (a :: C0) ++ R ++ B := by simp
  have hF : ¬ F a := w.off a hmem
  have hm : Mut (H a) := w.mu a hmem
  have pm : (L ++ (a :: C0) ++ R ++ B).Perm ((a :: C0 ++ B) ++ (L ++ R)) := by
    refine List.perm_iff_count.mpr fun x => ?_
    simp only [List.count_append, List.count_cons]; omega
  have wp := w.perm pm
  have nLR : a ∉ L ++ R := fun z => wp.apart a (by simp) z
  have s' := h2 F (upd H a u) d' C' (fun _ h => h) (pres_upd hF hm nLR) r'
  have sub2 : ∀ x ∈ L ++ C' ++ R ++ B', x ∈ L ++ (a :: C0) ++ R ++ B := fun x z => by
    simp only [List.mem_append, List.mem_cons] at z
    rcases z with ((z | z) | z) | z
    · simp [z]
    · have := sub x (List.mem_append_left _ z)
      simp only [List.mem_append, List.mem_cons] at this ⊢
      rcases this with (h | h) | h <;> simp [h]
    · simp [z]
    · have := sub x (List.mem_append_right _ z)
      simp only [List.mem_append, List.mem_cons] at this ⊢
      rcases this with (h | h) | h <;> simp [h]
  refine ⟨L ++ C' ++ R, s', ?_, step_upd hmem sub2⟩
  have pm2 : ((C' ++ B') ++ (L ++ R)).Perm (L ++ C' ++ R ++ B') := by
    refine List.perm_iff_count.mpr fun x => ?_
    simp only [List.count_append]; omega
  have nd2 : ((C' ++ B') ++ (L ++ R)).Nodup := by
    refine List.nodup_append.mpr ⟨nd, wp.right.nd, fun x hx y hy e => ?_⟩
    subst e
    exact wp.apart x (sub x hx) hy
  exact Wf.upd ⟨pm2.nodup_iff.mp nd2, fun x z => w.off x (sub2 x z), fun x z => w.mu x (sub2 x z), w.dom⟩ hu
/-- x.append(e), x in slot i -/
def mAppend (i : Nat) (m : ME) : ME := fun e => match e[i]? with
  | some (some (.lst _ _)) => (match m e with
    | .ok d e1 => (match e1[i]? with
      | some (some (.lst true ds)) => if ds.length < sizeLine then .ok .non (e1.set i (some (.lst true (ds ++ [d])))) else .bad
      | _ => .bad)
    | .er x e1 => .er x e1
    | .bad => .bad)
  | _ => .bad
theorem se_append (i : Nat) {x : Str} (ha : SE X W a na) (hN : X.N[i]? = some x := by rfl) (hv : Vis X.env.scope x := by first | exact Or.inl rfl | exact Or.inr (Or.inl rfl) | exact Or.inr (Or.inr rfl)) (hd : (x == ("__debug__" : Str)) = false := by decide) (hcd : (x == ("__classdict__" : Str)) = false := by decide)
    (hbase : attributeBase (.Name x p) "append" X.env (eval (.Name x p) X.env) = eval (.Name x p) X.env := by rfl)
    (hfew : ((backTo cpos (starEach [a] X.env)).all (fun x => !x.1) && (backToKw cpos (keywordEach [] X.env)).all (fun x => x.1.isSome) && decide ([a].length + ([] : List Keyword).length + (if ([] : List Keyword).isEmpty then 0 else 1) < 30)) = true := by rfl)
    (hline : (apos.endLine == cpos.line) = true := by rfl) (hs : starEach [a] X.env = (false, eval a X.env) :: starEach [] X.env := by rfl) (hplain : (backTo cpos (starEach [] X.env)).any (·.1) = false := by rfl) :
    SE X W (.Call (.Attribute (.Name x p) "append" apos) [a] [] cpos) (mAppend i na) := by
  obtain ⟨t, pt, st⟩ := ha
  refine ⟨_, pe_bm PySem.F.plainAttrs_list PySem.F.slot_list_append PySem.F.type_list_append mt_append (pe_var (i := i) hN hv hd hcd) (pa_cons pt pa_nil hs) hbase hfew hline hs hplain, fun σ H F A e s w => ?_⟩
  unfold mAppend
  split
  · rename_i o0 ds0 h0
    obtain ⟨v, B0, hv0, r0, _⟩ := s.at h0
    obtain ⟨a0, vs0, C0, ev, q0, _, _⟩ := r0.seqL
    subst ev
    have q := st σ H F A e s w
    cases em : na e with
    | bad => trivial
    | er x e1 =>
      rw [em] at q
      exact fun k Q => ⟨_, hv0, .inl ⟨rfl, vs0, q0⟩, q k _⟩
    | ok d e1 =>
      rw [em] at q
      show OutE X.K W σ F H A (match e1[i]? with
        | some (some (.lst true ds)) => if ds.length < sizeLine then .ok .non (e1.set i (some (.lst true (ds ++ [d])))) else .bad
        | _ => .bad) _
      split
      · rename_i ds h1
        split
        · rename_i hl
          intro Q k
          refine ⟨_, hv0, .inl ⟨rfl, vs0, q0⟩, q _ fun y H1 F1 A1 B1 s1 r1 w1 t1 => ?_⟩
          obtain ⟨C, rC, nd, fm, upd1⟩ := slot_upd s1 w1 hv0 h1
          cases rC with
          | @lstO _ vs _ Cs hH rr =>
            obtain ⟨hF, hm⟩ := fm a0 List.mem_cons_self
            have nd' : (a0 :: (Cs ++ B1)).Nodup := nd
            have na : a0 ∉ Cs ++ B1 := (List.nodup_cons.mp nd').1
            have rn : Rp X.K F1 (upd H1 a0 (.lst (vs ++ [y]))) (.ref a0) (.lst true (ds ++ [d])) (a0 :: (Cs ++ B1)) :=
              .lstO upd_same ((rr.to (fun _ h => h) (pres_upd hF hm fun z => na (List.mem_append_left _ z))).append (.cons (r1.to (fun _ h => h) (pres_upd hF hm fun z => na (List.mem_append_right _ z))) .nil (by simp)))
            obtain ⟨A', s', w', t'⟩ := upd1 a0 Cs (.lst (vs ++ [y])) (.lst true (ds ++ [d])) (a0 :: (Cs ++ B1)) [] rfl rfl trivial (fun x z => by simpa using z) (by simpa using nd') rn
            exact ⟨a0, vs, y, rfl, rfl, hH, by rw [rr.length]; exact hl, k _ _ F1 A' [] s' .non w' (t1.trans t')⟩
        · trivial
      · trivial
  · trivial
end
end G
set_option Elab.async false
set_option linter.all false
set_option maxRecDepth 100000
set_option maxHeartbeats 4000000
namespace G
open PySem L2
section
variable {X : Cx} {W : WX} {ps : List Nat} {a b c o : Expr} {es : List Expr} {ma mb mc : MB} {na nb nc : ME} {pos p apos cpos : Pos} {K : Frag}
theorem wf_nil {F : Addr → Prop} {H : Hp} {A : List Addr} (w : Wf F H A) : Wf F H (A ++ []) := by simpa using w
/-- x.pop(), x in slot i -/
def mPop (i : Nat) : ME := fun e => match e[i]? with
  | some (some (.lst true ds)) => (match ds.getLast? with
    | some d => .ok d (e.set i (some (.lst true ds.dropLast)))
    | none => .bad)
  | _ => .bad
theorem se_pop (i : Nat) {x : Str} (hN : X.N[i]? = some x := by rfl) (hv : Vis X.env.scope x := by first | exact Or.inl rfl | exact Or.inr (Or.inl rfl) | exact Or.inr (Or.inr rfl)) (hd : (x == ("__debug__" : Str)) = false := by decide) (hcd : (x == ("__classdict__" : Str)) = false := by decide)
    (hbase : attributeBase (.Name x p) "pop" X.env (eval (.Name x p) X.env) = eval (.Name x p) X.env := by rfl) (hline : (apos.endLine == cpos.line) = true := by rfl) :
    SE X W (.Call (.Attribute (.Name x p) "pop" apos) [] [] cpos) (mPop i) := by
  refine ⟨_, pe_bm0 PySem.F.plainAttrs_list PySem.F.slot_list_pop PySem.F.type_list_pop mt_pop (pe_var (i := i) hN hv hd hcd) hbase hline, fun σ H F A e s w => ?_⟩
  unfold mPop
  split
  · rename_i ds h0
    cases el : ds.getLast? with
    | none => trivial
    | some d =>
      intro Q k
      obtain ⟨v, B0, hv0, r0, _⟩ := s.at h0
      obtain ⟨a0, vs0, C0, ev, q0, _, _⟩ := r0.seqL
      subst ev
      obtain ⟨C, rC, nd, fm, upd1⟩ := slot_upd s (wf_nil w) hv0 h0
      cases rC with
      | @lstO _ vs _ Cs hH rr =>
        obtain ⟨hF, hm⟩ := fm a0 List.mem_cons_self
        have ed : ds = ds.dropLast ++ [d] := by
          obtain ⟨ys, rfl⟩ := List.getLast?_eq_some_iff.mp el
          simp
        rw [ed] at rr
        obtain ⟨vs1, vs2, C1, C2, ev, rr1, rr2, eC⟩ := rr.split
        obtain ⟨y, ey, ry⟩ := rps1 rr2
        subst ey eC
        have nd' : (a0 :: (C1 ++ C2)).Nodup := by simpa using nd
        have na : a0 ∉ C1 ++ C2 := (List.nodup_cons.mp nd').1
        have rn : Rp X.K F (upd H a0 (.lst vs1)) (.ref a0) (.lst true ds.dropLast) (a0 :: C1) := .lstO upd_same (rr1.to (fun _ h => h) (pres_upd hF hm fun z => na (List.mem_append_left _ z)))
        obtain ⟨A', s', w', t'⟩ := upd1 a0 (C1 ++ C2) (.lst vs1) (.lst true ds.dropLast) (a0 :: C1) C2 rfl rfl trivial (fun x z => by simpa using z) (by simpa using nd') rn
        refine ⟨_, hv0, .inl ⟨rfl, vs0, q0⟩, a0, vs, y, rfl, rfl, hH, ?_, ?_⟩
        · rw [ev]; simp
        · have e2 : vs.dropLast = vs1 := by rw [ev]; simp
          rw [e2]
          exact k y _ F A' C2 s' (ry.to (fun _ h => h) (pres_upd hF hm fun z => na (List.mem_append_right _ z))) w' (by simpa using t')
  · trivial
/-- x.pop(0) -/
def mPop0 (i : Nat) : ME := fun e => match e[i]? with
  | some (some (.lst true (d :: ds))) => .ok d (e.set i (some (.lst true ds)))
  | _ => .bad
theorem se_pop0 (i : Nat) {x : Str} {k0} {p0 : Pos} (hN : X.N[i]? = some x := by rfl) (hv : Vis X.env.scope x := by first | exact Or.inl rfl | exact Or.inr (Or.inl rfl) | exact Or.inr (Or.inr rfl)) (hd : (x == ("__debug__" : Str)) = false := by decide) (hcd : (x == ("__classdict__" : Str)) = false := by decide)
    (hbase : attributeBase (.Name x p) "pop" X.env (eval (.Name x p) X.env) = eval (.Name x p) X.env := by rfl)
    (hfew : ((backTo cpos (starEach [.Constant (.int 0) k0 p0] X.env)).all (fun x => !x.1) && (backToKw cpos (keywordEach [] X.env)).all (fun x => x.1.isSome) && decide ([Expr.Constant (.int 0) k0 p0].length + ([] : List Keyword).length + (if ([] : List Keyword).isEmpty then 0 else 1) < 30)) = true := by rfl)
    (hline : (apos.endLine == cpos.line) = true := by rfl) (hs : starEach [.Constant (.int 0) k0 p0] X.env = (false, eval (.Constant (.int 0) k0 p0) X.env) :: starEach [] X.env := by rfl) (hplain : (backTo cpos (starEach [] X.env)).any (·.1) = false := by rfl) :
    SE X W (.Call (.Attribute (.Name x p) "pop" apos) [.Constant (.int 0) k0 p0] [] cpos) (mPop0 i) := by
  refine ⟨_, pe_bm PySem.F.plainAttrs_list PySem.F.slot_list_pop PySem.F.type_list_pop mt_popAt (pe_var (i := i) hN hv hd hcd) (pa_cons pe_int pa_nil hs) hbase hfew hline hs hplain, fun σ H F A e s w => ?_⟩
  unfold mPop0
  split
  · rename_i d ds h0
    intro Q k
    obtain ⟨v, B0, hv0, r0, _⟩ := s.at h0
    obtain ⟨a0, vs0, C0, ev, q0, _, _⟩ := r0.seqL
    subst ev
    obtain ⟨C, rC, nd, fm, upd1⟩ := slot_upd s (wf_nil w) hv0 h0
    cases rC with
    | @lstO _ vs _ Cs hH rr =>
      obtain ⟨hF, hm⟩ := fm a0 List.mem_cons_self
      cases rr with
      | @cons y _ vs1 _ C2 C1 _ ry rr1 eC =>
        subst eC
        have nd' : (a0 :: (C2 ++ C1)).Nodup := by simpa using nd
        have na : a0 ∉ C2 ++ C1 := (List.nodup_cons.mp nd').1
        have rn : Rp X.K F (upd H a0 (.lst vs1)) (.ref a0) (.lst true ds) (a0 :: C1) := .lstO upd_same (rr1.to (fun _ h => h) (pres_upd hF hm fun z => na (List.mem_append_right _ z)))
        have pm : (a0 :: (C2 ++ C1)).Perm ((a0 :: C1) ++ C2) := by
          refine List.perm_iff_count.mpr fun x => ?_
          simp only [List.count_append, List.count_cons]; omega
        obtain ⟨A', s', w', t'⟩ := upd1 a0 (C2 ++ C1) (.lst vs1) (.lst true ds) (a0 :: C1) C2 rfl rfl trivial (fun x z => by
          have := pm.mem_iff.mpr z
          simpa using this) (pm.nodup_iff.mp nd') rn
        refine ⟨_, hv0, .inl ⟨rfl, vs0, q0⟩, a0, y :: vs1, 0, 0, y, rfl, rfl, hH, by decide, by decide, by simp [seqIndex?], rfl, ?_⟩
        exact k y _ F A' C2 s' (ry.to (fun _ h => h) (pres_upd hF hm fun z => na (List.mem_append_left _ z))) w' (by simpa using t')
  · trivial

/-! ### x[i] = e, x in a slot -/
def putD (kvs : List (Key × D)) (k : Key) (d : D) : List (Key × D) := if (kvs.any fun kv => decide (kv.1 = k)) = true then kvs.map (fun kv => if kv.1 = k then (kv.1, d) else kv) else kvs ++ [(k, d)]
def setD : D → D → D → Option D
  | .lst true ds, .int k, d => (ixN ds.length k).map fun j => .lst true (ds.set j d)
  | .dct true kvs, k, d => (keyOf k).bind fun k => if kvs.length < sizeLine then some (.dct true (putD kvs k d)) else none
  | _, _, _ => none
def rSetA : TSet := fun o i v H Q => rSetL o i v H Q ∨ rSetD o i v H Q
theorem set_all (hu : X.A.units + 1 < cLine) : PSet X rSetA := fun pins s σ H o i v ov iv u Q I r1 r2 r3 h => h.elim (set_list pins s σ H o i v ov iv u Q I r1 r2 r3) (set_dict hu pins s σ H o i v ov iv u Q I r1 r2 r3)
theorem any_keys {α β : Type} {k : Key} : ∀ {vs : List (Key × α)} {ds : List (Key × β)}, vs.map (·.1) = ds.map (·.1) → (vs.any fun kv => decide (kv.1 = k)) = (ds.any fun kv => decide (kv.1 = k))
  | [], [], _ => rfl
  | [], _ :: _, h => by simp at h
  | _ :: _, [], h => by simp at h
  | v :: vs, d :: ds, h => by
    simp only [List.map_cons, List.cons.injEq] at h
    rw [List.any_cons, List.any_cons, h.1, any_keys h.2]
/-- a key's value put anew, a frozen one: what it owned is let go -/
theorem put_rps {F : Addr → Prop} {H : Hp} {k : Key} {y : V} {d : D} (ry : Rp K F H y d []) {vs : List (Key × V)} {ds : List (Key × D)} {C : List Addr} (e : vs.map (·.1) = ds.map (·.1)) (r : Rps K F H (vs.map (·.2)) (ds.map (·.2)) C) :
    ∃ C', (putK vs k y).map (·.1) = (putD ds k d).map (·.1) ∧ Rps K F H ((putK vs k y).map (·.2)) ((putD ds k d).map (·.2)) C' ∧ C'.Sublist C := by
  have rep : ∀ {vs : List (Key × V)} {ds : List (Key × D)} {C : List Addr}, vs.map (·.1) = ds.map (·.1) → Rps K F H (vs.map (·.2)) (ds.map (·.2)) C →
      ∃ C', (vs.map fun kv => if kv.1 = k then (kv.1, y) else kv).map (·.1) = (ds.map fun kv => if kv.1 = k then (kv.1, d) else kv).map (·.1) ∧ Rps K F H ((vs.map fun kv => if kv.1 = k then (kv.1, y) else kv).map (·.2)) ((ds.map fun kv => if kv.1 = k then (kv.1, d) else kv).map (·.2)) C' ∧ C'.Sublist C := by
    intro vs
    induction vs with
    | nil =>
      intro ds C e r
      cases ds with
      | nil => exact ⟨C, rfl, r, List.Sublist.refl _⟩
      | cons _ _ => simp at e
    | cons v vs ih =>
      intro ds C e r
      cases ds with
      | nil => simp at e
      | cons d0 ds =>
        simp only [List.map_cons, List.cons.injEq] at e r
        obtain ⟨e1, e2⟩ := e
        cases r with
        | @cons _ _ _ _ C1 C2 _ r1 r2 eC =>
          subst eC
          obtain ⟨C', h1, h2, h3⟩ := ih e2 r2
          simp only [List.map_cons]
          by_cases hk : d0.1 = k
          · have hv : v.1 = k := e1.trans hk
            refine ⟨C', ?_, ?_, h3.trans (List.sublist_append_right _ _)⟩
            · rw [if_pos hv, if_pos hk, h1]
              show v.1 :: _ = d0.1 :: _
              rw [e1]
            · rw [if_pos hv, if_pos hk]
              exact .cons ry h2 rfl
          · have hv : ¬ v.1 = k := fun z => hk (e1.symm.trans z)
            refine ⟨C1 ++ C', ?_, ?_, List.Sublist.append (List.Sublist.refl _) h3⟩
            · rw [if_neg hv, if_neg hk, h1, e1]
            · rw [if_neg hv, if_neg hk]
              exact .cons r1 h2 rfl
  unfold putK putD
  rw [any_keys (ds := ds) e]
  by_cases ha : (ds.any fun kv => decide (kv.1 = k)) = true
  · rw [if_pos ha, if_pos ha]
    exact rep e r
  · rw [if_neg ha, if_neg ha]
    refine ⟨C, by simp [e], ?_, List.Sublist.refl _⟩
    simp only [List.map_append, List.map_cons, List.map_nil]
    have := r.append (.cons ry .nil rfl)
    simpa using this
/-- x[b] = a: the value, then x, then b -/
def sSet (i : Nat) (m : ME) (mi : MB) : MS := fun e => match m e with
  | .ok d e1 => (match mi e1 with
    | .ok k => (match e1[i]? with
      | some (some (.lst true ds)) => (match k with
        | .int k => (match ixN ds.length k with
          | some j => .nx (e1.set i (some (.lst true (ds.set j d))))
          | none => .bad)
        | _ => .bad)
      | some (some (.dct true kvs)) => (match keyOf k with
        | some k => if kvs.length < sizeLine then .nx (e1.set i (some (.dct true (putD kvs k d.frz)))) else .bad
        | none => .bad)
      | _ => .bad)
    | .er x => (match e1[i]? with
      | some (some _) => .er x e1
      | _ => .bad)
    | .bad => .bad)
  | .er x e1 => .er x e1
  | .bad => .bad
theorem ss_set (i : Nat) {x : Str} {mi : MB} {px tpos : Pos} (hu : X.A.units + 1 < cLine) (ha : SE X W a na) (hb : SB X W b mi) (hN : X.N[i]? = some x := by rfl) (hv : Vis X.env.scope x := by first | exact Or.inl rfl | exact Or.inr (Or.inl rfl) | exact Or.inr (Or.inr rfl)) (hd : (x == ("__debug__" : Str)) = false := by decide) (hcd : (x == ("__classdict__" : Str)) = false := by decide)
    (has : ∀ v, assign (.Subscript (.Name x px) b tpos) X.env v = (do
      let ov ← holding [v] (eval (.Name x px) X.env)
      let iv ← holding [v, ov] (eval b X.env)
      standAt tpos
      holding [v, ov, iv] (setItem ov iv v)
      release [v, ov, iv] []) := by intro _; rfl)
    (hs : swapsWithSole [.Subscript (.Name x px) b tpos] a pos.line X.env = pure false := by rfl) (hw : swappedStores [.Subscript (.Name x px) b tpos] a X.env = pure none := by rfl)
    (h1 : (assignEach [.Subscript (.Name x px) b tpos] X.env).map (·.2) = [assign (.Subscript (.Name x px) b tpos) X.env] := by rfl) :
    SS X W ps (.Assign [.Subscript (.Name x px) b tpos] a pos) (sSet i na mi) := by
  obtain ⟨t, pt, st⟩ := ha
  obtain ⟨ti, pti, sti⟩ := hb
  refine ⟨_, ps_asg pt (pg_sub (pe_var (i := i) hN hv hd hcd) pti (set_all hu) has) hs hw h1, fun σ H F A e s w D h => ?_⟩
  have q := st σ H F A e s w
  unfold sSet at h
  cases em : na e with
  | bad => rw [em] at h; exact h.elim
  | er x e1 => rw [em] at h q; exact q (out_er h) _
  | ok d e1 =>
    rw [em] at h q
    simp only at h
    cases ei : mi e1 with
    | bad => rw [ei] at h; exact h.elim
    | er x =>
      rw [ei] at h
      simp only at h
      split at h
      · rename_i d1 hd1
        refine q _ fun y H1 F1 A1 B1 s1 r1 w1 t1 => ?_
        obtain ⟨v, B0, hv0, r0, _⟩ := s1.at hd1
        have qi := sti σ H1 F1 A1 e1 s1 w1.left
        rw [ei] at qi
        exact ⟨v, hv0, qi (fun cls dx H' F' x' r => out_er h cls dx H' F' A1 (x'.sls s1) (x'.wf w1.left) ((t1.less fun _ => List.mem_append_left _).trans x'.step) r) _⟩
      · exact h.elim
    | ok k =>
      rw [ei] at h
      simp only at h
      cases es : e1[i]? with
      | none => rw [es] at h; exact h.elim
      | some od =>
        cases od with
        | none => rw [es] at h; exact h.elim
        | some dx =>
          rw [es] at h
          refine q _ fun y H1 F1 A1 B1 s1 r1 w1 t1 => ?_
          obtain ⟨v, B0, hv0, r0, _⟩ := s1.at es
          refine ⟨v, hv0, ?_⟩
          have qi := sti σ H1 F1 A1 e1 s1 w1.left
          rw [ei] at qi
          refine qi _ fun kv H2 F2 B2 x2 r2 => ?_
          have s2 := x2.sls s1
          have w2 := x2.wf w1
          have r1' := x2.rp r1
          have t2 : Step F H A F2 H2 (A1 ++ B1) := t1.trans x2.step
          cases dx with
          | lst o ds =>
            cases o with
            | false => exact h.elim
            | true =>
              simp only at h
              cases k with
              | int k =>
                simp only at h
                obtain ⟨rfl, _⟩ := r2.isInt
                cases ej : ixN ds.length k with
                | none => rw [ej] at h; exact h.elim
                | some j =>
                  rw [ej] at h
                  obtain ⟨C, rC, nd, fm, upd1⟩ := slot_upd s2 w2 hv0 es
                  cases rC with
                  | @lstO a0 vs _ Cs hH rr =>
                    obtain ⟨hF, hm⟩ := fm a0 List.mem_cons_self
                    have nd' : (a0 :: (Cs ++ B1)).Nodup := nd
                    have na0 : a0 ∉ Cs ++ B1 := (List.nodup_cons.mp nd').1
                    have hj : j < ds.length := (ixN_seq ej).2.1
                    have rr' := rr.to (fun _ h => h) (pres_upd (u := .lst (vs.set j y)) hF hm fun z => na0 (List.mem_append_left _ z))
                    obtain ⟨L, Bo, R, eC, kk⟩ := rr'.set j hj
                    have rn : Rp X.K F2 (upd H2 a0 (.lst (vs.set j y))) (.ref a0) (.lst true (ds.set j d)) (a0 :: (L ++ B1 ++ R)) :=
                      .lstO upd_same (kk y d B1 (r1'.to (fun _ h => h) (pres_upd hF hm fun z => na0 (List.mem_append_right _ z))))
                    have pm : (a0 :: (Cs ++ B1)).Perm (Bo ++ (a0 :: (L ++ B1 ++ R))) := by
                      rw [eC]
                      refine List.perm_iff_count.mpr fun x => ?_
                      simp only [List.count_append, List.count_cons]; omega
                    obtain ⟨A', s', w', t'⟩ := upd1 a0 Cs (.lst (vs.set j y)) (.lst true (ds.set j d)) (a0 :: (L ++ B1 ++ R)) [] rfl rfl trivial (fun x z => by
                      have := pm.mem_iff.mpr (List.mem_append_right _ (by simpa using z))
                      simpa using this) (by simpa using (List.nodup_append.mp (pm.nodup_iff.mp nd')).2.1) rn
                    refine .inl ⟨a0, vs, k, j, rfl, rfl, hH, by rw [rr.length]; exact ej, ?_⟩
                    exact h F2 _ A' σ ⟨s', by simpa using w', by simpa using t2.trans t', fun _ _ => rfl⟩
              | _ => exact h.elim
          | dct o kvs =>
            cases o with
            | false => exact h.elim
            | true =>
              simp only at h
              cases ek : keyOf k with
              | none => rw [ek] at h; exact h.elim
              | some key =>
                rw [ek] at h
                simp only at h
                split at h
                · rename_i hl
                  have ekv := keyOf_v r2 ek
                  subst ekv
                  -- the value is frozen
                  obtain ⟨w3, t3⟩ := freeze (F' := F2) w2
                  have s3 : Sls X.K (fun a => F2 a ∨ a ∈ B1) H2 σ e1 A1 := s2.to (fun _ h => .inl h) fun _ _ e _ => e
                  have r3 : Rp X.K (fun a => F2 a ∨ a ∈ B1) H2 y d.frz [] := r1'.frz (fun _ h => .inl h) fun _ h => .inr h
                  obtain ⟨C, rC, nd, fm, upd1⟩ := slot_upd s3 (wf_nil w3) hv0 es
                  cases rC with
                  | @dctO a0 vs _ Cs hH ee rr =>
                    obtain ⟨hF, hm⟩ := fm a0 List.mem_cons_self
                    have nd' : (a0 :: Cs).Nodup := by simpa using nd
                    have na0 : a0 ∉ Cs := (List.nodup_cons.mp nd').1
                    have rr' := rr.to (fun _ h => h) (pres_upd (u := .dK (putK vs key y)) hF hm na0)
                    obtain ⟨C', e4, r4, sb⟩ := put_rps (k := key) (r3.to (fun _ h => h) (pres_upd (u := .dK (putK vs key y)) hF hm (C := []) (by simp))) ee rr'
                    have rn : Rp X.K (fun a => F2 a ∨ a ∈ B1) (upd H2 a0 (.dK (putK vs key y))) (.ref a0) (.dct true (putD kvs key d.frz)) (a0 :: C') := .dctO upd_same e4 r4
                    obtain ⟨A', s', w', t'⟩ := upd1 a0 Cs (.dK (putK vs key y)) (.dct true (putD kvs key d.frz)) (a0 :: C') [] rfl rfl trivial (fun x z => by
                      have z' : x ∈ a0 :: C' := by simpa using z
                      have := (List.Sublist.cons₂ a0 sb).subset z'
                      simpa using this) (by simpa using (List.Sublist.cons₂ a0 sb).nodup nd') rn
                    have el : vs.length = kvs.length := by
                      have := congrArg List.length ee
                      simpa using this
                    refine .inr ⟨a0, _, rfl, DPut.k hH (by rw [el]; exact hl), ?_⟩
                    exact h _ _ A' σ ⟨s', by simpa using w', by simpa using (t2.trans t3).trans (by simpa using t'), fun _ _ => rfl⟩
                · exact h.elim
          | _ => exact h.elim

/-! ### x.f = e, x in a slot -/
def putFD (f : Str) (d : D) : List (Str × D) → List (Str × D)
  | [] => [(f, d)]
  | (g, x) :: r => if g = f then (g, d) :: r else (g, x) :: putFD f d r
theorem putF_rps {F : Addr → Prop} {H : Hp} {f : Str} {y : V} {d : D} {B' : List Addr} (ry : Rp K F H y d B') : ∀ {vs : List (Str × V)} {ds : List (Str × D)} {C : List Addr}, vs.map (·.1) = ds.map (·.1) → Rps K F H (vs.map (·.2)) (ds.map (·.2)) C →
    ∃ L Bo R, C = L ++ Bo ++ R ∧ (putF f y vs).map (·.1) = (putFD f d ds).map (·.1) ∧ Rps K F H ((putF f y vs).map (·.2)) ((putFD f d ds).map (·.2)) (L ++ B' ++ R)
  | [], [], C, e, r => by
    cases r
    exact ⟨[], [], [], rfl, rfl, .cons ry .nil (by simp)⟩
  | [], _ :: _, _, e, _ => by simp at e
  | _ :: _, [], _, e, _ => by simp at e
  | (g, x) :: vs, (g', x') :: ds, C, e, r => by
    simp only [List.map_cons, List.cons.injEq] at e r
    obtain ⟨e1, e2⟩ := e
    subst e1
    cases r with
    | @cons _ _ _ _ C1 C2 _ r1 r2 eC =>
      subst eC
      unfold putF putFD
      by_cases hg : g = f
      · rw [if_pos hg, if_pos hg]
        exact ⟨[], C1, C2, rfl, by simp [e2], .cons ry r2 rfl⟩
      · rw [if_neg hg, if_neg hg]
        obtain ⟨L, Bo, R, h1, h2, h3⟩ := putF_rps ry e2 r2
        exact ⟨C1 ++ L, Bo, R, by rw [h1]; simp, by simp [h2], .cons r1 h3 (by simp)⟩
def sFldm (i : Nat) (Cs : List Addr) (f : Str) (m : ME) : MS := fun e => match m e with
  | .ok d e1 => (match e1[i]? with
    | some (some (.ins true C fs)) => if C ∈ Cs then (if fs.length < 1000 then .nx (e1.set i (some (.ins true C (putFD f d fs)))) else .bad) else .bad
    | _ => .bad)
  | .er x e1 => .er x e1
  | .bad => .bad
theorem ss_fld (i : Nat) {x f : Str} {Cs : List Addr} {px tpos : Pos} (hC : ∀ C ∈ Cs, Cls X.K C ∧ NoAttr X.K C f) (ha : SE X W a na) (hN : X.N[i]? = some x := by rfl) (hv : Vis X.env.scope x := by first | exact Or.inl rfl | exact Or.inr (Or.inl rfl) | exact Or.inr (Or.inr rfl)) (hd : (x == ("__debug__" : Str)) = false := by decide) (hcd : (x == ("__classdict__" : Str)) = false := by decide)
    (hs : swapsWith a (some (.Attribute (.Name x px) f tpos)) pos.line X.env = pure false := by rfl) : SS X W ps (.Assign [.Attribute (.Name x px) f tpos] a pos) (sFldm i Cs f na) := by
  obtain ⟨t, pt, st⟩ := ha
  refine ⟨_, ps_fld (pe_var (i := i) hN hv hd hcd) pt hs, fun σ H F A e s w D h => ?_⟩
  have q := st σ H F A e s w
  unfold sFldm at h
  cases em : na e with
  | bad => rw [em] at h; exact h.elim
  | er x e1 => rw [em] at h q; exact q (out_er h) _
  | ok d e1 =>
    rw [em] at h q
    simp only at h
    split at h
    · rename_i C fs es
      split at h
      · rename_i hCs
        split at h
        · rename_i hl
          refine q _ fun y H1 F1 A1 B1 s1 r1 w1 t1 => ?_
          obtain ⟨v, B0, hv0, r0, _⟩ := s1.at es
          refine ⟨v, hv0, ?_⟩
          obtain ⟨Cl, rC, nd, fm, upd1⟩ := slot_upd s1 w1 hv0 es
          cases rC with
          | @insO a0 _ dx vs _ Cs2 hH ee rr =>
            obtain ⟨hF, hm⟩ := fm a0 List.mem_cons_self
            have nd' : (a0 :: (Cs2 ++ B1)).Nodup := nd
            have na0 : a0 ∉ Cs2 ++ B1 := (List.nodup_cons.mp nd').1
            have rr' := rr.to (fun _ h => h) (pres_upd (u := .ins C dx (putF f y vs)) hF hm fun z => na0 (List.mem_append_left _ z))
            obtain ⟨L, Bo, R, eC, e4, r4⟩ := putF_rps (f := f) (r1.to (fun _ h => h) (pres_upd (u := .ins C dx (putF f y vs)) hF hm fun z => na0 (List.mem_append_right _ z))) ee rr'
            have rn : Rp X.K F1 (upd H1 a0 (.ins C dx (putF f y vs))) (.ref a0) (.ins true C (putFD f d fs)) (a0 :: (L ++ B1 ++ R)) := .insO upd_same e4 r4
            have pm : (a0 :: (Cs2 ++ B1)).Perm (Bo ++ (a0 :: (L ++ B1 ++ R))) := by
              rw [eC]
              refine List.perm_iff_count.mpr fun x => ?_
              simp only [List.count_append, List.count_cons]; omega
            obtain ⟨A', s', w', t'⟩ := upd1 a0 Cs2 (.ins C dx (putF f y vs)) (.ins true C (putFD f d fs)) (a0 :: (L ++ B1 ++ R)) [] rfl rfl trivial (fun x z => by
              have := pm.mem_iff.mpr (List.mem_append_right _ (by simpa using z))
              simpa using this) (by simpa using (List.nodup_append.mp (pm.nodup_iff.mp nd')).2.1) rn
            have el : vs.length = fs.length := by
              have := congrArg List.length ee
              simpa using this
            exact ⟨a0, C, dx, vs, rfl, hH, (hC C hCs).1, (hC C hCs).2, by rw [el]; exact hl, h F1 _ A' σ ⟨s', by simpa using w', by simpa using t1.trans (by simpa using t'), fun _ _ => rfl⟩⟩
        · exact h.elim
      · exact h.elim
    · exact h.elim

/-! ### x op= e: ints and texts -/
def gAug (op : Operator) : D → D → Option D := match op with
  | .Add => fun d e => match d, e with
    | .int i, .int j => some (.int (i + j))
    | .str i, .str j => if i.length + j.length ≤ sizeLine then some (.str (i ++ j)) else none
    | _, _ => none
  | .Sub => gSub
  | .Mult => fun d e => match d, e with
    | .int i, .int j => if (decide (i.natAbs < 2 ^ 64) || decide (j.natAbs < 2 ^ 64)) = true then some (.int (i * j)) else none
    | _, _ => none
  | _ => fun _ _ => none
def rAugA : R2 := fun x y H Q => rI0 (fun i j => .int (i + j)) x y H Q ∨ ∃ i j, x = .str i ∧ y = .str j ∧ i.length + j.length ≤ sizeLine ∧ Q (.str (i ++ j)) H
theorem v_augAdd : OpV2 K rAugA (gAug .Add) := fun F H v w d e z A B dom r1 r2 hg Q k => by
  cases d with
  | int i =>
    cases e <;> simp [gAug] at hg
    obtain ⟨rfl, _⟩ := r1.isInt
    obtain ⟨rfl, _⟩ := r2.isInt
    subst hg
    exact .inl ⟨_, _, rfl, rfl, k _ H F [] (.refl dom) (.int _) .nil⟩
  | str i =>
    cases e <;> simp [gAug] at hg
    obtain ⟨rfl, _⟩ := r1.isStr
    obtain ⟨rfl, _⟩ := r2.isStr
    obtain ⟨hl, hz⟩ := hg
    subst hz
    exact .inr ⟨_, _, rfl, rfl, hl, k _ H F [] (.refl dom) (.str _) .nil⟩
  | _ => simp [gAug] at hg
def sAug (i : Nat) (g : D → D → Option D) (m : ME) : MS := fun e => match e[i]? with
  | some (some d) => if (flatD d).isSome = true then (match m e with
    | .ok d2 e1 => (match g d d2 with
      | some z => if i < e1.length then .nx (e1.set i (some z)) else .bad
      | none => .bad)
    | .er x e1 => .er x e1
    | .bad => .bad) else .bad
  | _ => .bad
theorem ss_aug (i : Nat) {x : Str} {op : Operator} {r : R2} {g : D → D → Option D} {px : Pos} (hN : X.N.Nodup) (ha : SE X W a na) (ho : PIp X op r) (hg : OpV2 X.K r g) (hi : X.N[i]? = some x := by rfl) (hx : Loc X.env.scope x := by first | exact Or.inl rfl | exact Or.inr rfl) (hp : i ∉ ps := by decide)
    (hf : X.fn x = true ∨ X.env.scope.names.lookup x = some .local := by first | exact .inl rfl | exact .inr rfl | assumption) : SS X W ps (.AugAssign (.Name x px) op a pos) (sAug i g na) := by
  obtain ⟨t, pt, st⟩ := ha
  refine ⟨_, ps_aug hN hi hx pt ho hf, fun σ H F A e s w D h => ?_⟩
  unfold sAug at h
  split at h
  · rename_i d hd
    split at h
    · rename_i hfl
      obtain ⟨v, B0, hv0, r0, _⟩ := s.at hd
      refine ⟨v, hv0, ?_⟩
      have q := st σ H F A e s w
      cases em : na e with
      | bad => rw [em] at h; exact h.elim
      | er x e1 => rw [em] at h q; exact q (out_er h) _
      | ok d2 e1 =>
        rw [em] at h q
        simp only at h
        cases eg : g d d2 with
        | none => rw [eg] at h; exact h.elim
        | some z =>
          rw [eg] at h
          simp only at h
          split at h
          · rename_i hl
            refine q _ fun y H1 F1 A1 B1 s1 r1 w1 t1 => ?_
            have rv : Rp X.K F1 H1 v d [] := by
              cases r0 <;> simp [flatD] at hfl <;> first | exact .non | exact .bl _ | exact .int _ | exact .str _
            refine hg F1 H1 v y d d2 z [] B1 w1.dom rv r1 eg _ fun u H2 F2 C x2 r2 o => ?_
            have s2 := x2.sls s1
            have w2 := o.wf x2 w1.left r2
            refine sim_gN (K := X.K) hp σ H2 F2 A1 C e1 u z _ s2 r2 w2 (if_pos hl) D.nx fun σ3 F3 H3 A3 o3 => ?_
            exact h F3 H3 A3 σ3 ⟨o3.sl, o3.wf, ((t1.less fun _ => List.mem_append_left _).trans (o.step x2)).trans o3.st, o3.kp⟩
          · exact h.elim
    · exact h.elim
  · exact h.elim
end
end G
set_option Elab.async false
set_option linter.all false
set_option maxRecDepth 100000
set_option maxHeartbeats 4000000
namespace G
open PySem L2
/-! ### what a def does: its value, and what its arguments are behind it -/
inductive Rc where
  | ok (d : D) (ds : List D) | er (x : XD) (ds : List D) | bad
abbrev Fn := List D → Rc
def spOf (K : Frag) (n : Nat) (f : Fn) : Sp := fun vs H Q E => vs.length = n ∧ ∃ (F : Addr → Prop) (A : List Addr) (ds : List D), Rps K F H vs ds A ∧ Wf F H A ∧ match f ds with
  | .ok d ds' => ∀ v H' F' A' B, Rps K F' H' vs ds' A' → Rp K F' H' v d B → Wf F' H' (A' ++ B) → Step F H A F' H' (A' ++ B) → Q v H'
  | .er x ds' => ∀ cls dx H' F' A', Rps K F' H' vs ds' A' → Wf F' H' A' → Step F H A F' H' A' → Xr K F' H' x cls dx → E cls dx H'
  | .bad => False
abbrev FnS (P : Program) (w : World) (K : Frag) (mg : Str → Option Value) (base : Heap) (k : Nat) (f : Addr) (fd : FuncData) (ps : List Str) (spec : Fn) : Prop := FnOk P w K mg base (L2.CX P w) k f fd ps (spOf K ps.length spec)
theorem FnS.imp {P : Program} {w : World} {K : Frag} {mg : Str → Option Value} {base : Heap} {k : Nat} {f : Addr} {fd : FuncData} {ps : List Str} {s s' : Fn} (F : FnS P w K mg base k f fd ps s) (h : ∀ ds, ds.length = ps.length → s' ds ≠ .bad → s ds = s' ds) : FnS P w K mg base k f fd ps s' :=
  FnOk.imp F fun vs H Q E ⟨hl, F, A, ds, r, w, q⟩ => ⟨hl, F, A, ds, r, w, by
    have e := h ds (by rw [← r.length]; exact hl) fun z => by rw [z] at q; exact q
    rw [e]; exact q⟩

/-! ### a def by its body: modes tell which arguments it may change -/
def startE (n : Nat) (ds : List D) : Env := ds.map some ++ List.replicate (n - ds.length) none
def fin : List Bool → List D → Env → Option (List D)
  | [], [], _ => some []
  | true :: ms, _ :: ds, some d' :: e => (fin ms ds e).map (d' :: ·)
  | false :: ms, d :: ds, _ :: e => if d.cold = true then (fin ms ds e).map (d :: ·) else none
  | _, _, _ => none
def specOf (n : Nat) (modes : List Bool) (mb : MS) : Fn := fun ds => match mb (startE n ds) with
  | .rt d e => (match fin modes ds e with
    | some ds' => .ok d ds'
    | none => .bad)
  | .nx e => (match fin modes ds e with
    | some ds' => .ok .non ds'
    | none => .bad)
  | .er x e => (match fin modes ds e with
    | some ds' => .er x ds'
    | none => .bad)
  | _ => .bad
def keepOf (modes : List Bool) : List Nat := (List.range modes.length).filter fun i => modes.getD i false
section
variable {K : Frag} {F F' : Addr → Prop} {H H' : Hp}
theorem sls_start : ∀ {vs : List V} {ds : List D} {A : List Addr} (n : Nat), Rps K F H vs ds A → Sls K F H (vs.map some ++ List.replicate n none) (ds.map some ++ List.replicate n none) A
  | _, _, _, 0, .nil => .nil
  | _, _, _, n + 1, .nil => by
    have := sls_start n (.nil (K := K) (F := F) (H := H))
    simp only [List.map_nil, List.nil_append] at this ⊢
    exact .no this
  | _, _, _, n, .cons a b c => .so a (sls_start n b) c
theorem fin_rps : ∀ {modes : List Bool} {vs : List V} {ds ds' : List D} {σ : St} {e : Env} {A0 A : List Addr}, Rps K F H vs ds A0 → (∀ a, F a → F' a) → Pres F [] H H' → Sls K F' H' σ e A → (∀ (i : Nat), modes.getD i false = true → σ[i]? = (vs.map some)[i]?) → fin modes ds e = some ds' → ∃ A', Rps K F' H' vs ds' A' ∧ A'.Sublist A
  | [], _, _, _, σ, e, _, A, .nil, _, _, s, _, h => by
    have := Option.some.inj h
    subst this
    exact ⟨[], .nil, List.nil_sublist _⟩
  | [], _, _, _, σ, e, _, A, .cons _ _ _, _, _, s, _, h => by simp [fin] at h
  | true :: ms, _, _, _, _, _, _, _, .cons r1 r2 eC, hF, hp, s, hk, h => by
    cases s with
    | nil => simp [fin] at h
    | no s => simp [fin] at h
    | @so v d' σ e A1 A2 _ a b c =>
      simp only [fin] at h
      cases ef : fin ms _ e with
      | none => rw [ef] at h; cases h
      | some ds2 =>
        rw [ef] at h
        have := Option.some.inj h
        subst this
        have ev := hk 0 rfl
        simp at ev
        subst ev
        obtain ⟨A', h1, h2⟩ := fin_rps r2 hF hp b (fun i hi => by simpa using hk (i + 1) (by simpa using hi)) ef
        exact ⟨A1 ++ A', .cons a h1 rfl, by rw [c]; exact List.Sublist.append (List.Sublist.refl _) h2⟩
  | false :: ms, _, _, _, _, _, _, _, .cons (d := d) r1 r2 eC, hF, hp, s, hk, h => by
    cases s with
    | nil => simp [fin] at h
    | @no o σ e A s =>
      simp only [fin] at h
      split at h
      · rename_i hc
        cases ef : fin ms _ e with
        | none => rw [ef] at h; cases h
        | some ds2 =>
          rw [ef] at h
          have := Option.some.inj h
          subst this
          obtain ⟨A', h1, h2⟩ := fin_rps r2 hF hp s (fun i hi => by simpa using hk (i + 1) (by simpa using hi)) ef
          have e1 := r1.cold hc
          subst e1
          exact ⟨A', .cons (r1.to hF hp) h1 rfl, h2⟩
      · cases h
    | @so v d' σ e A1 A2 _ a b c =>
      simp only [fin] at h
      split at h
      · rename_i hc
        cases ef : fin ms _ e with
        | none => rw [ef] at h; cases h
        | some ds2 =>
          rw [ef] at h
          have := Option.some.inj h
          subst this
          obtain ⟨A', h1, h2⟩ := fin_rps r2 hF hp b (fun i hi => by simpa using hk (i + 1) (by simpa using hi)) ef
          have e1 := r1.cold hc
          subst e1
          exact ⟨A', .cons (r1.to hF hp) h1 rfl, by rw [c]; exact h2.trans (List.sublist_append_right _ _)⟩
      · cases h
end
section
variable {P : Program} {w : World} {K : Frag} {mg : Str → Option Value} {base : Heap} {x qual : Str} {params : Arguments} {body : List Stmt} {scope : Scope} {dvs : List V} {kws : List (Str × V)} {f : Addr} {fd : FuncData}
theorem fn_sim {N ps : List Str} {k : Nat} {mb : MS} (modes : List Bool) (Fu : FunD K x qual params body scope dvs kws f fd) (S : FnScope N ps scope) (hm : modes.length = ps.length)
    (hb : ∀ (cdv : Value) (A : Around) (outer : List PySem.Env) (s : Shared) (H : Hp) (E : XK), Room k (A.deeper (PyProof.Rows.envOfC qual scope s.heap.objs.size f cdv)) →
      Takes (cxOf (L2.CX P w) P w K mg base N qual scope f cdv A outer s H E) (fun cls d _ H => E cls d H) →
      PassesOwn (model P w) (cxOf (L2.CX P w) P w K mg base N qual scope f cdv A outer s H E).A (cxOf (L2.CX P w) P w K mg base N qual scope f cdv A outer s H E).env (cxOf (L2.CX P w) P w K mg base N qual scope f cdv A outer s H E).xe →
      SSs (cxOf (L2.CX P w) P w K mg base N qual scope f cdv A outer s H E) (fun cls d _ H => E cls d H) (keepOf modes) body mb) : FnS P w K mg base (k + 1) f fd ps (specOf N.length modes mb) := by
  refine FunD.ok Fu S (fun vs H Q E h => h.1) fun cdv A outer s H vs Q E hr h => ?_
  obtain ⟨t, pt, st⟩ := hb cdv A outer s H E hr (takes_of rfl rfl rfl rfl) (passes_of rfl)
  refine ⟨t, pt, ?_⟩
  obtain ⟨hl, F, A0, ds, r, wf, q⟩ := h
  have el := r.length
  have sl : Sls K F H (L2.start N vs) (startE N.length ds) A0 := by
    unfold L2.start startE
    rw [el]
    exact sls_start _ r
  refine st (L2.start N vs) H F A0 (startE N.length ds) sl wf _ ?_
  unfold specOf at q
  have kept : ∀ {σ' : St}, (∀ i ∈ keepOf modes, σ'[i]? = (L2.start N vs)[i]?) → ∀ (i : Nat), modes.getD i false = true → σ'[i]? = (vs.map some)[i]? := fun {σ'} kp i hi => by
    have hlt : i < modes.length := by
      by_cases z : i < modes.length
      · exact z
      · rw [List.getD_eq_getElem?_getD, List.getElem?_eq_none (by omega)] at hi
        cases hi
    have hmem : i ∈ keepOf modes := List.mem_filter.mpr ⟨List.mem_range.mpr hlt, hi⟩
    rw [kp i hmem]
    unfold L2.start
    rw [List.getElem?_append_left (by rw [List.length_map]; omega)]
  cases em : mb (startE N.length ds) with
  | bad => rw [em] at q; exact q
  | bk e => rw [em] at q; exact q.elim
  | ct e => rw [em] at q; exact q.elim
  | rt d e =>
    rw [em] at q
    simp only at q
    cases ef : fin modes ds e with
    | none => rw [ef] at q; exact q.elim
    | some ds' =>
      rw [ef] at q
      intro F' H' A' σ' v B o rv wf' st'
      obtain ⟨A2, r2, sb⟩ := fin_rps r o.st.mono (o.st.pres wf fun _ z => nomatch z) o.sl (kept o.kp) ef
      have sb2 : (A2 ++ B).Sublist (A' ++ B) := List.Sublist.append sb (List.Sublist.refl _)
      exact q v H' F' A2 B r2 rv (wf'.sub sb2) (st'.less fun a z => sb2.subset z)
  | nx e =>
    rw [em] at q
    simp only at q
    cases ef : fin modes ds e with
    | none => rw [ef] at q; exact q.elim
    | some ds' =>
      rw [ef] at q
      intro F' H' A' σ' o
      obtain ⟨A2, r2, sb⟩ := fin_rps r o.st.mono (o.st.pres wf fun _ z => nomatch z) o.sl (kept o.kp) ef
      exact q .non H' F' A2 [] r2 .non (by simpa using o.wf.sub sb) (by simpa using o.st.less fun a z => sb.subset z)
  | er x e =>
    rw [em] at q
    simp only at q
    cases ef : fin modes ds e with
    | none => rw [ef] at q; exact q.elim
    | some ds' =>
      rw [ef] at q
      intro F' H' A' σ' cls dx o rx
      obtain ⟨A2, r2, sb⟩ := fin_rps r o.st.mono (o.st.pres wf fun _ z => nomatch z) o.sl (kept o.kp) ef
      exact q cls dx H' F' A2 r2 (o.wf.sub sb) (o.st.less fun a z => sb.subset z) rx
end

/-! ### calls, by values -/
section
variable {K : Frag} {F1 : Addr → Prop} {H1 : Hp} {A1 B1 : List Addr} {σ : St} {e1 : Env} {vs : List V} {ds : List D} {n : Nat} {f : Fn}
/-- all arguments frozen -/
theorem call_F (s1 : Sls K F1 H1 σ e1 A1) (r1 : Rps K F1 H1 vs ds B1) (w1 : Wf F1 H1 (A1 ++ B1)) (hn : ds.length = n) : match f (frzs ds) with
    | .ok d _ => ∀ Q E, (∀ v H' F' A' B, Sls K F' H' σ e1 A' → Rp K F' H' v d B → Wf F' H' (A' ++ B) → Step F1 H1 (A1 ++ B1) F' H' (A' ++ B) → Q v H') → spOf K n f vs H1 Q E
    | .er x _ => ∀ Q E, (∀ cls dx H' F' A', Sls K F' H' σ e1 A' → Wf F' H' A' → Step F1 H1 (A1 ++ B1) F' H' A' → Xr K F' H' x cls dx → E cls dx H') → spOf K n f vs H1 Q E
    | .bad => True := by
  obtain ⟨w2, t2⟩ := freeze (F' := F1) w1
  have s2 : Sls K (fun a => F1 a ∨ a ∈ B1) H1 σ e1 A1 := s1.to (fun _ h => .inl h) fun _ _ e _ => e
  have r2 : Rps K (fun a => F1 a ∨ a ∈ B1) H1 vs (frzs ds) [] := r1.frz (fun _ h => .inl h) fun _ h => .inr h
  have hl : vs.length = n := by rw [r1.length]; exact hn
  have w0 : Wf (fun a => F1 a ∨ a ∈ B1) H1 [] := w2.sub (List.nil_sublist _)
  cases ef : f (frzs ds) with
  | bad => trivial
  | ok d ds' =>
    intro Q E k
    refine ⟨hl, _, [], frzs ds, r2, w0, ?_⟩
    rw [ef]
    intro v H' F' A' B ra rv wf st
    obtain ⟨w3, t3⟩ := st.beside (B := A1) (by simpa using w2) wf
    have pm : (A' ++ B ++ A1).Perm (A' ++ (A1 ++ B)) := by
      rw [List.append_assoc]; exact List.Perm.append_left _ List.perm_append_comm
    have w4 : Wf F' H' (A1 ++ B) := (w3.perm pm).right
    refine k v H' F' A1 B (s2.to st.mono (st.pres w0 fun a _ z => nomatch z)) rv w4 (t2.trans ?_)
    have t4 : Step (fun a => F1 a ∨ a ∈ B1) H1 A1 F' H' (A' ++ B ++ A1) := by simpa using t3
    exact t4.less fun a z => by
      simp only [List.mem_append] at z ⊢
      rcases z with z | z <;> simp [z]
  | er x ds' =>
    intro Q E k
    refine ⟨hl, _, [], frzs ds, r2, w0, ?_⟩
    rw [ef]
    intro cls dx H' F' A' ra wf st rx
    obtain ⟨w3, t3⟩ := st.beside (B := A1) (by simpa using w2) wf
    refine k cls dx H' F' A1 (s2.to st.mono (st.pres w0 fun a _ z => nomatch z)) w3.right (t2.trans ?_) rx
    have t4 : Step (fun a => F1 a ∨ a ∈ B1) H1 A1 F' H' (A' ++ A1) := by simpa using t3
    exact t4.less fun a z => List.mem_append_right _ z
/-- what a call that only looked at its arguments hands back may be kept -/
def keepR (ds : List D) (d : D) : Bool := d.free || colds ds
def keepX (ds : List D) (x : XD) : Bool := x.fs.all (fun p => p.2.free) || colds ds
theorem call_P (w1 : Wf F1 H1 A1) (r1 : Rps K F1 H1 vs ds B1) (hB : ∀ a ∈ B1, ∃ o, H1 a = some o) (hn : ds.length = n) : match f (frzs ds) with
    | .ok d _ => keepR ds d = true → ∀ Q E, (∀ v H' F' B, Ext F1 H1 F' H' → Rp K F' H' v d B → Own H1 F' B → Q v H') → spOf K n f vs H1 Q E
    | .er x _ => keepX ds x = true → ∀ Q E, (∀ cls dx H' F', Ext F1 H1 F' H' → Xr K F' H' x cls dx → E cls dx H') → spOf K n f vs H1 Q E
    | .bad => True := by
  have r2 : Rps K (fun a => F1 a ∨ a ∈ B1) H1 vs (frzs ds) [] := r1.frz (fun _ h => .inl h) fun _ h => .inr h
  have hl : vs.length = n := by rw [r1.length]; exact hn
  have w0 : Wf (fun a => F1 a ∨ a ∈ B1) H1 [] := ⟨List.nodup_nil, fun _ z => (nomatch z), fun _ z => (nomatch z), fun a h => h.elim (w1.dom a) (hB a)⟩
  have ext : ∀ {H' : Hp} {F' : Addr → Prop} {A' : List Addr}, Wf F' H' A' → Step (fun a => F1 a ∨ a ∈ B1) H1 [] F' H' A' → Ext F1 H1 (fun a => F1 a ∨ (F' a ∧ H1 a = none)) H' := fun {H' F' A'} wf st =>
    ⟨fun b o h => st.frame b o h (by simp), fun _ h => .inl h, fun a h => h.imp id fun z => z.2, fun a h => wf.dom a (h.elim (fun z => st.mono a (.inl z)) fun z => z.1)⟩
  have same : ∀ {H' : Hp} {F' : Addr → Prop} {A' : List Addr}, colds ds = true → Step (fun a => F1 a ∨ a ∈ B1) H1 [] F' H' A' → ∀ a, F' a → F1 a ∨ (F' a ∧ H1 a = none) := fun {H' F' A'} hc st a h => by
    have eB := r1.cold hc
    rcases st.frz a h with z | z | z
    · exact .inl (z.elim id fun q => by rw [eB] at q; exact (nomatch q))
    · exact (nomatch z)
    · exact .inr ⟨h, z⟩
  cases ef : f (frzs ds) with
  | bad => trivial
  | ok d ds' =>
    intro hk Q E k
    refine ⟨hl, _, [], frzs ds, r2, w0, ?_⟩
    rw [ef]
    intro v H' F' A' B ra rv wf st
    have x := ext wf st
    have ob : Own H1 (fun a => F1 a ∨ (F' a ∧ H1 a = none)) B := ⟨wf.right.nd, fun c hc => by
      have hn : H1 c = none := (st.own c (List.mem_append_right _ hc)).elim (fun z => (nomatch z)) id
      refine ⟨hn, fun z => ?_⟩
      rcases z with z | z
      · obtain ⟨o, e⟩ := w1.dom c z
        rw [hn] at e; cases e
      · exact wf.right.off c hc z.1⟩
    unfold keepR at hk
    by_cases hf : d.free = true
    · exact k v H' _ B x (rv.free hf) ob
    · have hc : colds ds = true := by simpa [hf] using hk
      exact k v H' _ B x (rv.to (same hc st) fun _ _ e _ => e) ob
  | er y ds' =>
    intro hk Q E k
    refine ⟨hl, _, [], frzs ds, r2, w0, ?_⟩
    rw [ef]
    intro cls dx H' F' A' ra wf st rx
    have x := ext wf st
    unfold keepX at hk
    by_cases hf : (y.fs.all fun p => p.2.free) = true
    · refine k cls dx H' _ x ?_
      obtain ⟨h1, h2⟩ := rx
      refine ⟨h1, h2.imp id ?_⟩
      rintro ⟨d, us, e1, e2, e3, e4⟩
      exact ⟨d, us, e1, e2, e3, e4.free (by rw [frees_eq, List.all_map]; exact hf)⟩
    · have hc : colds ds = true := by simpa [hf] using hk
      exact k cls dx H' _ x (rx.to (same hc st) fun _ _ e _ => e)
end
end G
set_option Elab.async false
set_option linter.all false
set_option maxRecDepth 100000
set_option maxHeartbeats 4000000
namespace G
open PySem L2 PySem.Spec PyProof.Rows
/-! ### calls as expressions, what is raised wished for at the caller's slots -/
section
variable {X : Cx} {CX : CXT} {k : Nat} {f C : Addr} {fd : FuncData} {ps : List Str} {sp : Sp} {E : L2.St → XK} {x m : Str} {p pos apos : Pos} {e o : Expr} {es : List Expr} {ta : TE} {t : TA}
theorem pe_callS0 (F : FnOk X.prog X.w X.K X.mg X.base CX k f fd ps sp) (hr : Room k X.A) (hg : Gl X x) (hm : X.mg x = some (.ref f)) (hk : PySem.W.keepIn X.K (.ref f) = true) (hb : Binds X.K fd ps []) (hx : ∀ σ, PassesAt CX X σ (E σ)) (hdb : (x == ("__debug__" : Str)) = false := by decide) :
    PE X (.Call (.Name x p) [] [] pos) (tCallS sp E tNil) := by
  refine ⟨fun pins s σ H Q I h => ?_⟩
  refine wpAny_Call_Name_kw (ld_glob I hg hm ?_ hdb)
  exact PySem.W.callWith_K0 I.kIn hk (run_fnS (us := []) F hr hb (hx σ) I .nil h)
def tMethX (C : Addr) (m : Str) (sp : Sp) (E : L2.St → XK) (ta : TE) (t : TA) : TE := fun σ H Q => ta σ H fun x H1 => (∃ a dx fs, x = .ref a ∧ H1 a = some (.ins C dx fs) ∧ fs.lookup m = none) ∧ t σ H1 fun vs H2 => sp (x :: vs) H2 Q (E σ)
theorem pe_methX {pl : Sem Bool} (he : PE X o ta) (c : Cls X.K C) (hm : Meth X.K C m f) (F : FnOk X.prog X.w X.K X.mg X.base CX k f fd ps sp) (hr : Room k X.A) (hb : Binds X.K fd ps []) (hx : ∀ σ, PassesAt CX X σ (E σ)) (ha : PA X (e :: es) t)
    (hst : starEach (e :: es) X.env = (false, eval e X.env) :: starEach es X.env := by rfl) (hpl : (backTo pos (starEach es X.env)).any (·.1) = false := by rfl)
    (ht : eval (.Call (.Attribute o m apos) (e :: es) [] pos) X.env = (do
      let ov ← eval o X.env
      standAt apos.atName
      let (f, first) ← holding [ov] (getMethod ov m pl)
      callWith pos f first (backTo pos (starEach (e :: es) X.env)) (backToKw pos (keywordEach [] X.env))) := by rfl) :
    PE X (.Call (.Attribute o m apos) (e :: es) [] pos) (tMethX C m sp E ta t) := by
  refine ⟨fun pins s σ H Q I h => ?_⟩
  refine PySem.W.methodCall_KW (pl := pl) (thn (he.run pins s σ H _ I h) fun u s1 ⟨x, H1, I1, rx, ⟨a, dx, fs, ex, ea, l⟩, q⟩ => ?_) ht
  subst ex
  obtain rfl : u = Value.ref a := rx
  refine getmeth_ok I1 ea c hm l ?_
  refine PySem.W.callWith_K (first := [.ref a]) (h₀ := X.base) I.ok.mod.kin hm.kp (thn (ha.run pos pins s1 σ H1 _ I1 q) fun us s2 ⟨vs, H2, I2, r, q2⟩ => ⟨I2.kIn, ?_⟩) hst hpl
  exact run_fnS (us := .ref a :: us) (vs := .ref a :: vs) F hr hb (hx σ) I2 (.cons rfl r) q2
theorem pe_methX0 {pl : Sem Bool} (he : PE X o ta) (c : Cls X.K C) (hm : Meth X.K C m f) (F : FnOk X.prog X.w X.K X.mg X.base CX k f fd ps sp) (hr : Room k X.A) (hb : Binds X.K fd ps []) (hx : ∀ σ, PassesAt CX X σ (E σ))
    (ht : eval (.Call (.Attribute o m apos) [] [] pos) X.env = (do
      let ov ← eval o X.env
      standAt apos.atName
      let (f, first) ← holding [ov] (getMethod ov m pl)
      callWith pos f first (backTo pos (starEach [] X.env)) (backToKw pos (keywordEach [] X.env))) := by rfl) :
    PE X (.Call (.Attribute o m apos) [] [] pos) (tMethX C m sp E ta tNil) := by
  refine ⟨fun pins s σ H Q I h => ?_⟩
  refine PySem.W.methodCall_KW (pl := pl) (thn (he.run pins s σ H _ I h) fun u s1 ⟨x, H1, I1, rx, ⟨a, dx, fs, ex, ea, l⟩, q⟩ => ?_) ht
  subst ex
  obtain rfl : u = Value.ref a := rx
  refine getmeth_ok I1 ea c hm l ?_
  exact PySem.W.callWith_K0 (first := [.ref a]) I1.kIn hm.kp (run_fnS (us := [.ref a]) (vs := [.ref a]) F hr hb (hx σ) I1 (.cons rfl .nil) q)
theorem run_makeS {pins : List (Addr × Obj)} {σ : L2.St} {H : Hp} {s : Shared} {Q : VK} {us : List Value} {vs : List V} (M : Mk X.K C f) (F : FnOk X.prog X.w X.K X.mg X.base CX k f fd ps sp) (hr : Room (k + 1) X.A) (hb : Binds X.K fd ps [])
    (hx : PassesAt CX X σ (E σ)) (I : Inv X pins σ H s) (r : Vals vs us)
    (h : ∀ x dx, H x = none → H dx = none → dx ≠ x → sp (.ref x :: vs) (upd (upd H dx (.own x)) x (.ins C dx [])) (fun v H2 => v = .non ∧ Q (.ref x) H2) (E σ)) :
    wpAny (model X.prog X.w) X.A (call (.ref C) us) (EP X pins σ Q) X.xe s := by
  have hq := h (s.heap.objs.size + 1) s.heap.objs.size (I.hok.fresh (Nat.le_succ _)) (I.hok.fresh (Nat.le_refl _)) (Nat.ne_of_lt (Nat.lt_succ_self _))
  have I2 := Inv.made (C := C) I
  have r2 : Vals (V.ref (s.heap.objs.size + 1) :: vs) (Value.ref (s.heap.objs.size + 1) :: us) := .cons rfl r
  have hl : (Value.ref (s.heap.objs.size + 1) :: us).length = ps.length := by
    have e := r2.length
    rw [F.len _ _ _ _ hq] at e
    exact e.symm
  have b := hb _ (Value.ref (s.heap.objs.size + 1) :: us) I2.kIn (by rw [List.append_nil]; exact hl)
  rw [List.append_nil] at b
  refine wpAny_call (make_map (f := f) I.kIn M.makes M.init (beq_iff_eq.mp M.fn) (codeAny_mono (F.run _ X.stack _ _ ⟨Value.ref (s.heap.objs.size + 1) :: us, []⟩ (Value.ref (s.heap.objs.size + 1) :: us) _ _ (E σ) (hr.make C us [])
    (I2.env0.make C us []) b r2 hq) fun r s' hq' => ?_))
  cases r with
  | error e => exact hx pins _ _ e s' I2 hq'
  | ok fl =>
    cases fl with
    | ret u =>
      obtain ⟨v, H', I3, rv, ev, q3⟩ := I2.after hq'
      subst ev
      exact ⟨rv, ⟨V.ref (s.heap.objs.size + 1), H', I3, rfl, q3⟩⟩
    | next => exact False.elim hq'
    | brk => exact False.elim hq'
    | cont => exact False.elim hq'
def tMakeX (C : Addr) (sp : Sp) (E : L2.St → XK) (t : TA) : TE := fun σ H Q => t σ H fun vs H1 => ∀ x dx, H1 x = none → H1 dx = none → dx ≠ x → sp (.ref x :: vs) (upd (upd H1 dx (.own x)) x (.ins C dx [])) (fun v H2 => v = .non ∧ Q (.ref x) H2) (E σ)
theorem pe_makeX (M : Mk X.K C f) (F : FnOk X.prog X.w X.K X.mg X.base CX k f fd ps sp) (hr : Room (k + 1) X.A) (hg : Gl X x) (hm : X.mg x = some (.ref C)) (hb : Binds X.K fd ps []) (hx : ∀ σ, PassesAt CX X σ (E σ))
    (ha : PA X (e :: es) t) (hdb : (x == ("__debug__" : Str)) = false := by decide) (he : starEach (e :: es) X.env = (false, eval e X.env) :: starEach es X.env := by rfl) (hpl : (backTo pos (starEach es X.env)).any (·.1) = false := by rfl) :
    PE X (.Call (.Name x p) (e :: es) [] pos) (tMakeX C sp E t) := by
  refine ⟨fun pins s σ H Q I h => ?_⟩
  refine wpAny_Call_Name_kw (ld_glob I hg hm ?_ hdb)
  refine PySem.W.callWith_K (h₀ := X.base) I.ok.mod.kin M.kp (thn (ha.run pos pins s σ H _ I h) fun us s1 ⟨vs, H1, I1, r, q⟩ => ⟨I1.kIn, ?_⟩) he hpl
  exact run_makeS M F hr hb (hx σ) I1 r q
/-- an operator of one's own class, x + y (both of the class) -/
def rBinOwn (K : Frag) (C : Addr) (sp : Sp) (E : XK) : R2 := fun x y H Q => ∃ a dx fs b dx2 fs2, x = .ref a ∧ H a = some (.ins C dx fs) ∧ y = .ref b ∧ H b = some (.ins C dx2 fs2) ∧ sp [x, y] H Q E
/-- x == y by an own __eq__ (y of any kind) -/
def rCmpOwn (K : Frag) (C : Addr) (sp : Sp) (E : XK) : R2 := fun x y H Q => ∃ a dx fs t, x = .ref a ∧ H a = some (.ins C dx fs) ∧ TyX K H y t ∧ PySem.W.notFirst K C t = true ∧ sp [x, y] H Q E
end
end G
set_option Elab.async false
set_option linter.all false
set_option maxRecDepth 100000
set_option maxHeartbeats 4000000
namespace G
open PySem L2
def mCallF (n : Nat) (f : Fn) (m : MA) : ME := fun e => match m e with
  | .ok ds e1 => if ds.length = n then (match f (frzs ds) with
    | .ok d _ => .ok d e1
    | .er x _ => .er x e1
    | .bad => .bad) else .bad
  | .er x e1 => .er x e1
  | .bad => .bad
def mCallP (n : Nat) (f : Fn) (m : ML) : MB := fun e => match m e with
  | .ok ds => if ds.length = n then (match f (frzs ds) with
    | .ok d _ => if keepR ds d = true then .ok d else .bad
    | .er x _ => if keepX ds x = true then .er x else .bad
    | .bad => .bad) else .bad
  | .er x => .er x
  | .bad => .bad
/-- a value of its own from one that changes nothing -/
def mUp (m : MB) : ME := fun e => match m e with
  | .ok d => .ok d e
  | .er x => .er x e
  | .bad => .bad
section
variable {X : Cx} {W : WX} {a b c o : Expr} {es : List Expr} {ma mb mc : MB} {na nb nc : ME} {pos p apos cpos : Pos} {K : Frag} {k : Nat} {f C : Addr} {fd : FuncData} {ps : List Str} {spec : Fn} {x mn : Str}
theorem passE (tk : Takes X W) : ∀ σ, PassesAt (L2.CX X.prog X.w) X σ (WE W σ) := fun σ => passAt tk σ
/-- arguments frozen, then a call by values -/
theorem sim_callF {t : TA} {m : MA} (n : Nat) (h : SimA K W t m) : SimE K W (fun σ H Q => t σ H fun vs H1 => spOf K n spec vs H1 Q (WE W σ)) (mCallF n spec m) := fun σ H F A e s w => by
  have q := h σ H F A e s w
  unfold mCallF
  cases em : m e with
  | bad => trivial
  | er x e1 => rw [em] at q; exact fun k Q => q k _
  | ok ds e1 =>
    rw [em] at q
    simp only
    split
    · rename_i hn
      cases ef : spec (frzs ds) with
      | bad => trivial
      | ok d ds' =>
        intro Q k
        refine q _ fun vs H1 F1 A1 B1 s1 r1 w1 t1 => ?_
        have z := call_F (f := spec) s1 r1 w1 hn
        rw [ef] at z
        exact z Q _ fun v H' F' A' B s' rv w' t' => k v H' F' A' B s' rv w' (t1.trans t')
      | er x ds' =>
        intro k Q
        refine q _ fun vs H1 F1 A1 B1 s1 r1 w1 t1 => ?_
        have z := call_F (f := spec) s1 r1 w1 hn
        rw [ef] at z
        exact z Q _ fun cls dx H' F' A' s' w' t' rx => k cls dx H' F' A' s' w' (t1.trans t') rx
    · trivial
/-- the owned things of a value that is looked at stand in the heap -/
theorem rps_there {F : Addr → Prop} {H : Hp} {vs : List V} {ds : List D} {B : List Addr} (r : Rps K F H vs ds B) : ∀ a ∈ B, ∃ o, H a = some o := fun a h => by
  have m := r.mut a h
  cases e : H a with
  | none => rw [e] at m; exact m.elim
  | some o => exact ⟨o, rfl⟩
theorem sim_callP {t : TA} {m : ML} (n : Nat) (h : SimL K W t m) : SimB K W (fun σ H Q => t σ H fun vs H1 => spOf K n spec vs H1 Q (WE W σ)) (mCallP n spec m) ∧ SimE K W (fun σ H Q => t σ H fun vs H1 => spOf K n spec vs H1 Q (WE W σ)) (mUp (mCallP n spec m)) := by
  have core : ∀ σ H F A e, Sls K F H σ e A → Wf F H A → match mCallP n spec m e with
      | .ok d => ∀ Q : VK, (∀ v H' F' B, Ext F H F' H' → Rp K F' H' v d B → (∀ c ∈ B, c ∉ A) → B.Nodup → (∀ c ∈ B, ¬ F' c) → (∀ c ∈ B, H c = none) → Q v H') → t σ H fun vs H1 => spOf K n spec vs H1 Q (WE W σ)
      | .er x => (∀ cls dx H' F', Ext F H F' H' → Xr K F' H' x cls dx → W cls dx σ H') → ∀ Q, t σ H fun vs H1 => spOf K n spec vs H1 Q (WE W σ)
      | .bad => True := fun σ H F A e s w => by
    have q := h σ H F A e s w
    unfold mCallP
    cases em : m e with
    | bad => trivial
    | er x => rw [em] at q; exact fun k Q => q k _
    | ok ds =>
      rw [em] at q
      simp only
      by_cases hn : ds.length = n
      · rw [if_pos hn]
        cases ef : spec (frzs ds) with
        | bad => trivial
        | ok d ds' =>
          dsimp only
          by_cases hk : keepR ds d = true
          · rw [if_pos hk]
            intro Q k
            refine q _ fun vs H1 F1 B1 x1 r1 => ?_
            have z := call_P (f := spec) (x1.wf w) r1 (rps_there r1) hn
            rw [ef] at z
            refine z hk Q _ fun v H' F' B x2 rv ob => k v H' F' B (x1.trans x2) rv (fun c hc hA => ?_) ob.1 (fun c hc => (ob.2 c hc).2) fun c hc => ?_
            · obtain ⟨u, eu⟩ := w.some hA
              have := x1.same c u eu
              rw [(ob.2 c hc).1] at this; cases this
            · cases eH : H c with
              | none => rfl
              | some u =>
                have := x1.same c u eH
                rw [(ob.2 c hc).1] at this; cases this
          · rw [if_neg hk]; trivial
        | er x ds' =>
          dsimp only
          by_cases hk : keepX ds x = true
          · rw [if_pos hk]
            intro k Q
            refine q _ fun vs H1 F1 B1 x1 r1 => ?_
            have z := call_P (f := spec) (x1.wf w) r1 (rps_there r1) hn
            rw [ef] at z
            exact z hk Q _ fun cls dx H' F' x2 rx => k cls dx H' F' (x1.trans x2) rx
          · rw [if_neg hk]; trivial
      · rw [if_neg hn]; trivial
  refine ⟨fun σ H F A e s w => ?_, fun σ H F A e s w => ?_⟩
  · have z := core σ H F A e s w
    cases em : mCallP n spec m e with
    | bad => trivial
    | er x => rw [em] at z; exact z
    | ok d => rw [em] at z; exact fun Q kk => z Q fun v H' F' B x r _ _ _ _ => kk v H' F' B x r
  · have z := core σ H F A e s w
    unfold mUp
    cases em : mCallP n spec m e with
    | bad => trivial
    | er x => rw [em] at z; exact fun k Q => z (fun cls dx H' F' x' r => k cls dx H' F' A (x'.sls s) (x'.wf w) x'.step r) Q
    | ok d =>
      rw [em] at z
      intro Q kk
      refine z Q fun v H' F' B x r h1 h2 h3 h4 => kk v H' F' A B (x.sls s) r ?_ ?_
      · exact (x.wf w).app ⟨h2, h3, r.mut, x.dom⟩ fun a ha hb => h1 a hb ha
      · refine ⟨x.mono, fun b o h _ => x.same b o h, fun b h => ?_, fun b h => (x.new b h).imp id .inr⟩
        rcases List.mem_append.mp h with h | h
        · exact .inl h
        · exact .inr (h4 b h)
section
variable (F : FnS X.prog X.w X.K X.mg X.base k f fd ps spec) (hr : Room k X.A) (hg : Gl X x) (hm : X.mg x = some (.ref f)) (hk : PySem.W.keepIn X.K (.ref f) = true) (hb : Binds X.K fd ps []) (tk : Takes X W)
include F hr hg hm hk hb tk
theorem se_callF {m : MA} (ha : SA X W (a :: es) m) (hdb : (x == ("__debug__" : Str)) = false := by decide) (he : starEach (a :: es) X.env = (false, eval a X.env) :: starEach es X.env := by rfl) (hpl : (backTo pos (starEach es X.env)).any (·.1) = false := by rfl) :
    SE X W (.Call (.Name x p) (a :: es) [] pos) (mCallF ps.length spec m) := let ⟨t, pt, st⟩ := ha; ⟨_, pe_callS F hr hg hm hk hb (passE tk) pt hdb he hpl, sim_callF ps.length st⟩
theorem sb_callP {m : ML} (ha : SL X W (a :: es) m) (hdb : (x == ("__debug__" : Str)) = false := by decide) (he : starEach (a :: es) X.env = (false, eval a X.env) :: starEach es X.env := by rfl) (hpl : (backTo pos (starEach es X.env)).any (·.1) = false := by rfl) :
    SB X W (.Call (.Name x p) (a :: es) [] pos) (mCallP ps.length spec m) := let ⟨t, pt, st⟩ := ha; ⟨_, pe_callS F hr hg hm hk hb (passE tk) pt hdb he hpl, (sim_callP ps.length st).1⟩
theorem se_callP {m : ML} (ha : SL X W (a :: es) m) (hdb : (x == ("__debug__" : Str)) = false := by decide) (he : starEach (a :: es) X.env = (false, eval a X.env) :: starEach es X.env := by rfl) (hpl : (backTo pos (starEach es X.env)).any (·.1) = false := by rfl) :
    SE X W (.Call (.Name x p) (a :: es) [] pos) (mUp (mCallP ps.length spec m)) := let ⟨t, pt, st⟩ := ha; ⟨_, pe_callS F hr hg hm hk hb (passE tk) pt hdb he hpl, (sim_callP ps.length st).2⟩
end
/-- the first argument lent: a slot whose object the callee may change -/
def mCallM (P : D → Bool) (n : Nat) (f : Fn) (i : Nat) (m : MA) : ME := fun e => match e[i]? with
  | some (some dz) => if P dz = true then (match m e with
    | .ok ds e1 => if ds.length + 1 = n then (match e1[i]? with
      | some (some d0) => (match f (d0 :: frzs ds) with
        | .ok d (d0' :: _) => .ok d (e1.set i (some d0'))
        | .er x (d0' :: _) => .er x (e1.set i (some d0'))
        | _ => .bad)
      | _ => .bad) else .bad
    | .er x e1 => .er x e1
    | .bad => .bad) else .bad
  | _ => .bad
theorem call_M {F1 : Addr → Prop} {H1 : Hp} {A1 B1 : List Addr} {σ : L2.St} {e1 : Env} {vs : List V} {ds : List D} {n i : Nat} {f : Fn} {v0 : V} {d0 : D} (s1 : Sls K F1 H1 σ e1 A1) (r1 : Rps K F1 H1 vs ds B1) (w1 : Wf F1 H1 (A1 ++ B1)) (hn : ds.length + 1 = n) (hv : σ[i]? = some (some v0)) (h : e1[i]? = some (some d0)) :
    match f (d0 :: frzs ds) with
    | .ok d (d0' :: _) => ∀ Q E, (∀ v H' F' A' B, Sls K F' H' σ (e1.set i (some d0')) A' → Rp K F' H' v d B → Wf F' H' (A' ++ B) → Step F1 H1 (A1 ++ B1) F' H' (A' ++ B) → Q v H') → spOf K n f (v0 :: vs) H1 Q E
    | .er x (d0' :: _) => ∀ Q E, (∀ cls dx H' F' A', Sls K F' H' σ (e1.set i (some d0')) A' → Wf F' H' A' → Step F1 H1 (A1 ++ B1) F' H' A' → Xr K F' H' x cls dx → E cls dx H') → spOf K n f (v0 :: vs) H1 Q E
    | _ => True := by
  obtain ⟨w2, t2⟩ := freeze (F' := F1) w1
  have s2 : Sls K (fun a => F1 a ∨ a ∈ B1) H1 σ e1 A1 := s1.to (fun _ h => .inl h) fun _ _ e _ => e
  have r2 : Rps K (fun a => F1 a ∨ a ∈ B1) H1 vs (frzs ds) [] := r1.frz (fun _ h => .inl h) fun _ h => .inr h
  obtain ⟨v, L, C0, R, h1, r, rfl, h2, _⟩ := s2.lens h
  rw [hv] at h1
  have ev := Option.some.inj (Option.some.inj h1)
  subst ev
  have hl : (v0 :: vs).length = n := by rw [List.length_cons, r1.length]; exact hn
  have pm : (L ++ C0 ++ R).Perm (C0 ++ (L ++ R)) := by
    refine List.perm_iff_count.mpr fun x => ?_
    simp only [List.count_append]; omega
  have w3 := w2.perm pm
  have rr : Rps K (fun a => F1 a ∨ a ∈ B1) H1 (v0 :: vs) (d0 :: frzs ds) C0 := .cons r r2 (by simp)
  have back : ∀ {H' : Hp} {F' : Addr → Prop} {A' B : List Addr} {d0' : D} {dr : List D}, Rps K F' H' (v0 :: vs) (d0' :: dr) A' → Wf F' H' (A' ++ B) → Step (fun a => F1 a ∨ a ∈ B1) H1 C0 F' H' (A' ++ B) →
      ∃ A2, Sls K F' H' σ (e1.set i (some d0')) A2 ∧ Wf F' H' (A2 ++ B) ∧ Step F1 H1 (L ++ C0 ++ R ++ B1) F' H' (A2 ++ B) := fun {H' F' A' B d0' dr} ra wf st => by
    cases ra with
    | @cons _ _ _ _ C1 C2 _ q1 q2 eC =>
      subst eC
      obtain ⟨w4, t4⟩ := st.beside (B := L ++ R) w3 wf
      have pr : Pres (fun a => F1 a ∨ a ∈ B1) (L ++ R) H1 H' := st.pres w3.left fun a hz z => w3.apart a z hz
      refine ⟨L ++ C1 ++ R, h2 F' H' d0' C1 st.mono pr q1, ?_, ?_⟩
      · have pm2 : (C1 ++ C2 ++ B ++ (L ++ R)).Perm (C2 ++ (L ++ C1 ++ R ++ B)) := by
          refine List.perm_iff_count.mpr fun x => ?_
          simp only [List.count_append]; omega
        exact (w4.perm pm2).right
      · have t5 : Step (fun a => F1 a ∨ a ∈ B1) H1 (L ++ C0 ++ R) F' H' (C1 ++ C2 ++ B ++ (L ++ R)) := t4.mem (fun a => pm.symm.mem_iff) fun _ => Iff.rfl
        exact (t2.trans t5).less fun a z => by
          simp only [List.mem_append] at z ⊢
          rcases z with ((z | z) | z) | z <;> simp [z]
  cases ef : f (d0 :: frzs ds) with
  | bad => trivial
  | ok d ds' =>
    cases ds' with
    | nil => trivial
    | cons d0' dr =>
      intro Q E k
      refine ⟨hl, _, C0, _, rr, w3.left, ?_⟩
      rw [ef]
      intro v H' F' A' B ra rv wf st
      obtain ⟨A2, q1, q2, q3⟩ := back ra wf st
      exact k v H' F' A2 B q1 rv q2 q3
  | er x ds' =>
    cases ds' with
    | nil => trivial
    | cons d0' dr =>
      intro Q E k
      refine ⟨hl, _, C0, _, rr, w3.left, ?_⟩
      rw [ef]
      intro cls dx H' F' A' ra wf st rx
      obtain ⟨A2, q1, q2, q3⟩ := back (B := []) ra (by simpa using wf) (by simpa using st)
      exact k cls dx H' F' A2 q1 (by simpa using q2) (by simpa using q3) rx
theorem sim_callM {P : D → Bool} {R : V → Hp → Prop} {t : TA} {m : MA} (n i : Nat) (h : SimA K W t m) (hR : ∀ F H v d B, Rp K F H v d B → P d = true → R v H) : SimE K W (fun σ H Q => ∃ v, σ[i]? = some (some v) ∧ R v H ∧ t σ H fun vs H1 => spOf K n spec (v :: vs) H1 Q (WE W σ)) (mCallM P n spec i m) := fun σ H F A e s w => by
  have q := h σ H F A e s w
  unfold mCallM
  split
  · rename_i dz hz
    split
    · rename_i hP
      obtain ⟨v, B0, hv0, r0, _⟩ := s.at hz
      have hRv := hR F H v dz B0 r0 hP
      cases em : m e with
      | bad => trivial
      | er x e1 => rw [em] at q; exact fun k Q => ⟨v, hv0, hRv, q k _⟩
      | ok ds e1 =>
        rw [em] at q
        simp only
        split
        · rename_i hn
          split
          · rename_i d0 h0
            cases ef : spec (d0 :: frzs ds) with
            | bad => trivial
            | ok d ds' =>
              cases ds' with
              | nil => trivial
              | cons d0' dr =>
                intro Q k
                refine ⟨v, hv0, hRv, q _ fun vs H1 F1 A1 B1 s1 r1 w1 t1 => ?_⟩
                have z := call_M (f := spec) s1 r1 w1 hn hv0 h0
                rw [ef] at z
                exact z Q _ fun v H' F' A' B s' rv w' t' => k v H' F' A' B s' rv w' (t1.trans t')
            | er x ds' =>
              cases ds' with
              | nil => trivial
              | cons d0' dr =>
                intro k Q
                refine ⟨v, hv0, hRv, q _ fun vs H1 F1 A1 B1 s1 r1 w1 t1 => ?_⟩
                have z := call_M (f := spec) s1 r1 w1 hn hv0 h0
                rw [ef] at z
                exact z Q _ fun cls dx H' F' A' s' w' t' rx => k cls dx H' F' A' s' w' (t1.trans t') rx
          · trivial
        · trivial
    · trivial
  · trivial
def anyD (_ : D) : Bool := true
theorem se_callM (i : Nat) {y : Str} {m : MA} {py : Pos} (F : FnS X.prog X.w X.K X.mg X.base k f fd ps spec) (hr : Room k X.A) (hg : Gl X x) (hm : X.mg x = some (.ref f)) (hk : PySem.W.keepIn X.K (.ref f) = true) (hb : Binds X.K fd ps []) (tk : Takes X W) (ha : SA X W es m)
    (hN : X.N[i]? = some y := by rfl) (hv : Vis X.env.scope y := by first | exact Or.inl rfl | exact Or.inr (Or.inl rfl) | exact Or.inr (Or.inr rfl)) (hd : (y == ("__debug__" : Str)) = false := by decide) (hcd : (y == ("__classdict__" : Str)) = false := by decide)
    (hdb : (x == ("__debug__" : Str)) = false := by decide) (he : starEach (.Name y py :: es) X.env = (false, eval (.Name y py) X.env) :: starEach es X.env := by rfl) (hpl : (backTo pos (starEach es X.env)).any (·.1) = false := by rfl) :
    SE X W (.Call (.Name x p) (.Name y py :: es) [] pos) (mCallM anyD ps.length spec i m) := by
  obtain ⟨t, pt, st⟩ := ha
  refine ⟨_, pe_callS F hr hg hm hk hb (passE tk) (pa_cons (pe_var (i := i) hN hv hd hcd) pt he) hdb he hpl, fun σ H F A e s w => ?_⟩
  have z := sim_callM (P := anyD) (R := fun _ _ => True) (spec := spec) ps.length i st (fun _ _ _ _ _ _ _ => trivial) σ H F A e s w
  cases em : mCallM anyD ps.length spec i m e with
  | bad => trivial
  | er x e1 =>
    rw [em] at z
    intro k Q
    obtain ⟨v, h1, _, h3⟩ := z k Q
    exact ⟨v, h1, h3⟩
  | ok d e1 =>
    rw [em] at z
    intro Q k
    obtain ⟨v, h1, _, h3⟩ := z Q k
    exact ⟨v, h1, h3⟩

/-! ### methods -/
/-- the receiver is looked at: it is an instance of C without an attribute m -/
def isRecv (C : Addr) (mn : Str) : D → Bool
  | .ins _ C' fs => decide (C' = C) && (fs.lookup mn).isNone
  | _ => false
def mRecv (C : Addr) (mn : Str) (mo : MB) : MB := fun e => match mo e with
  | .ok d => if isRecv C mn d = true then .ok d else .bad
  | .er x => .er x
  | .bad => .bad
def nRecv (C : Addr) (mn : Str) (mo : ME) : ME := fun e => match mo e with
  | .ok d e1 => if isRecv C mn d = true then .ok d e1 else .bad
  | .er x e1 => .er x e1
  | .bad => .bad
theorem recv_at {F : Addr → Prop} {H : Hp} {v : V} {d : D} {B : List Addr} (r : Rp K F H v d B) (h : isRecv C mn d = true) : ∃ a dx fs, v = .ref a ∧ H a = some (.ins C dx fs) ∧ fs.lookup mn = none := by
  cases d with
  | ins o C' fs =>
    simp only [isRecv, Bool.and_eq_true, decide_eq_true_eq] at h
    obtain ⟨rfl, hl⟩ := h
    obtain ⟨a, dx, vs, A, rfl, hH, e, _, _⟩ := r.inst
    refine ⟨a, dx, vs, rfl, hH, ?_⟩
    have gen : ∀ (vs : List (Str × V)) (fs : List (Str × D)), vs.map (·.1) = fs.map (·.1) → fs.lookup mn = none → vs.lookup mn = none := by
      intro vs
      induction vs with
      | nil => intro fs _ _; rfl
      | cons v vs ih =>
        intro fs e h
        cases fs with
        | nil => simp at e
        | cons g fs =>
          simp only [List.map_cons, List.cons.injEq] at e
          obtain ⟨v1, v2⟩ := v
          obtain ⟨g1, g2⟩ := g
          have e1 : v1 = g1 := e.1
          subst e1
          rw [List.lookup_cons] at h ⊢
          cases q : (mn == v1) with
          | true => rw [q] at h; cases h
          | false => rw [q] at h; exact ih fs e.2 h
    exact gen vs fs e (by simpa using hl)
  | _ => simp [isRecv] at h
/-- the receiver's reading with the look at its class -/
def tRecv (C : Addr) (mn : Str) (to : TE) : TE := fun σ H Q => to σ H fun x H1 => (∃ a dx fs, x = .ref a ∧ H1 a = some (.ins C dx fs) ∧ fs.lookup mn = none) ∧ Q x H1
theorem sim_recv {to : TE} {mo : MB} (ho : SimB K W to mo) : SimB K W (tRecv C mn to) (mRecv C mn mo) := fun σ H F A e s w => by
  have q := ho σ H F A e s w
  unfold mRecv
  cases em : mo e with
  | bad => trivial
  | er x => rw [em] at q; exact fun k Q => q k _
  | ok d =>
    rw [em] at q
    simp only
    split
    · rename_i hr
      exact fun Q k => q _ fun v H' F' B x r => ⟨recv_at r hr, k v H' F' B x r⟩
    · trivial
theorem sim_nrecv {to : TE} {mo : ME} (ho : SimE K W to mo) : SimE K W (tRecv C mn to) (nRecv C mn mo) := fun σ H F A e s w => by
  have q := ho σ H F A e s w
  unfold nRecv
  cases em : mo e with
  | bad => trivial
  | er x e1 => rw [em] at q; exact fun k Q => q k _
  | ok d e1 =>
    rw [em] at q
    simp only
    split
    · rename_i hr
      exact fun Q k => q _ fun v H' F' A' B s' r w' t' => ⟨recv_at r hr, k v H' F' A' B s' r w' t'⟩
    · trivial
theorem sim_lcons {ta : TE} {tr : TA} {mr : ML} (sa : SimB K W ta ma) (sr : SimL K W tr mr) : SimL K W (tCons ta tr) (mCons ma mr) := fun σ H F A e s w => by
  have qa := sa σ H F A e s w
  unfold mCons
  cases ea : ma e with
  | bad => trivial
  | er x => rw [ea] at qa; exact fun k Q => qa k _
  | ok d =>
    rw [ea] at qa
    cases er : mr e with
    | bad => trivial
    | er x =>
      intro k Q
      refine qa _ fun v H1 F1 B1 x1 r1 => ?_
      have qb := sr σ H1 F1 A e (x1.sls s) (x1.wf w)
      rw [er] at qb
      exact qb (fun cls dx H' F' x' r => k cls dx H' F' (x1.trans x') r) _
    | ok ds =>
      intro Q k
      refine qa _ fun v H1 F1 B1 x1 r1 => ?_
      have qb := sr σ H1 F1 A e (x1.sls s) (x1.wf w)
      rw [er] at qb
      exact qb _ fun vs H2 F2 B2 x2 r2 => k (v :: vs) H2 F2 (B1 ++ B2) (x1.trans x2) (.cons (x2.rp r1) r2 rfl)
theorem sim_acons {ta : TE} {tr : TA} {mr : MA} (sa : SimE K W ta na) (sr : SimA K W tr mr) : SimA K W (tCons ta tr) (nCons na mr) := fun σ H F A e s w => by
  have qa := sa σ H F A e s w
  unfold nCons
  cases ea : na e with
  | bad => trivial
  | er x e1 => rw [ea] at qa; exact fun k Q => qa k _
  | ok d e1 =>
    rw [ea] at qa
    show OutA K W σ F H A (match mr e1 with
    | .ok ds e2 => .ok (d :: ds) e2
    | .er x e2 => .er x e2
    | .bad => .bad) _
    cases er : mr e1 with
    | bad => trivial
    | er x e2 =>
      intro k Q
      refine qa _ fun v H1 F1 A1 B1 s1 r1 w1 t1 => ?_
      have qb := sr σ H1 F1 A1 e1 s1 w1.left
      rw [er] at qb
      exact qb (fun cls dx H' F' A' s' w' t' r => k cls dx H' F' A' s' w' ((t1.less fun _ => List.mem_append_left _).trans t') r) _
    | ok ds e2 =>
      intro Q k
      refine qa _ fun v H1 F1 A1 B1 s1 r1 w1 t1 => ?_
      have qb := sr σ H1 F1 A1 e1 s1 w1.left
      rw [er] at qb
      refine qb _ fun vs H2 F2 A2 B2 s2 r2 w2 t2 => ?_
      obtain ⟨w3, t3⟩ := t2.beside w1 w2
      have p : (A2 ++ B2 ++ B1).Perm (A2 ++ (B1 ++ B2)) := by
        rw [List.append_assoc]; exact List.Perm.append_left _ List.perm_append_comm
      exact k (v :: vs) H2 F2 A2 (B1 ++ B2) s2 (.cons (r1.to t2.mono (t2.pres w1.left fun a h z => w1.apart a z h)) r2 rfl) (w3.perm p) ((t1.trans t3).mem (fun _ => Iff.rfl) fun a => p.mem_iff)
theorem sim_nil : SimL K W tNil mNil := fun σ H F A e s w Q k => k [] H F [] (.refl w.dom) .nil
theorem sim_anil : SimA K W tNil nNil := fun σ H F A e s w Q k => k [] H F A [] s .nil (by simpa using w) (by simpa using Step.refl)
section
variable {pl : Sem Bool} (cl : Cls X.K C) (hm : Meth X.K C mn f) (F : FnS X.prog X.w X.K X.mg X.base k f fd ps spec) (hr : Room k X.A) (hb : Binds X.K fd ps []) (tk : Takes X W)
include cl hm F hr hb tk
/-- o.m(e, ..), receiver and arguments looked at -/
theorem methP {m : ML} (ho : SB X W o ma) (ha : SL X W (a :: es) m) (hst : starEach (a :: es) X.env = (false, eval a X.env) :: starEach es X.env := by rfl) (hpl : (backTo pos (starEach es X.env)).any (·.1) = false := by rfl)
    (ht : eval (.Call (.Attribute o mn apos) (a :: es) [] pos) X.env = (do
      let ov ← eval o X.env
      standAt apos.atName
      let (f, first) ← holding [ov] (getMethod ov mn pl)
      callWith pos f first (backTo pos (starEach (a :: es) X.env)) (backToKw pos (keywordEach [] X.env))) := by rfl) :
    SB X W (.Call (.Attribute o mn apos) (a :: es) [] pos) (mCallP ps.length spec (mCons (mRecv C mn ma) m)) ∧ SE X W (.Call (.Attribute o mn apos) (a :: es) [] pos) (mUp (mCallP ps.length spec (mCons (mRecv C mn ma) m))) := by
  obtain ⟨to, po, so⟩ := ho
  obtain ⟨t, pt, st⟩ := ha
  have pe := pe_methX (pl := pl) po cl hm F hr hb (passE tk) pt hst hpl ht
  have z := sim_callP (spec := spec) ps.length (sim_lcons (sim_recv (C := C) (mn := mn) so) st)
  exact ⟨⟨_, pe, z.1⟩, ⟨_, pe, z.2⟩⟩
theorem methP0 (ho : SB X W o ma)
    (ht : eval (.Call (.Attribute o mn apos) [] [] pos) X.env = (do
      let ov ← eval o X.env
      standAt apos.atName
      let (f, first) ← holding [ov] (getMethod ov mn pl)
      callWith pos f first (backTo pos (starEach [] X.env)) (backToKw pos (keywordEach [] X.env))) := by rfl) :
    SB X W (.Call (.Attribute o mn apos) [] [] pos) (mCallP ps.length spec (mCons (mRecv C mn ma) mNil)) ∧ SE X W (.Call (.Attribute o mn apos) [] [] pos) (mUp (mCallP ps.length spec (mCons (mRecv C mn ma) mNil))) := by
  obtain ⟨to, po, so⟩ := ho
  have pe := pe_methX0 (pl := pl) po cl hm F hr hb (passE tk) ht
  have z := sim_callP (spec := spec) ps.length (sim_lcons (sim_recv (C := C) (mn := mn) so) sim_nil)
  exact ⟨⟨_, pe, z.1⟩, ⟨_, pe, z.2⟩⟩
/-- o.m(e, ..), all frozen -/
theorem se_methF {m : MA} (ho : SE X W o na) (ha : SA X W (a :: es) m) (hst : starEach (a :: es) X.env = (false, eval a X.env) :: starEach es X.env := by rfl) (hpl : (backTo pos (starEach es X.env)).any (·.1) = false := by rfl)
    (ht : eval (.Call (.Attribute o mn apos) (a :: es) [] pos) X.env = (do
      let ov ← eval o X.env
      standAt apos.atName
      let (f, first) ← holding [ov] (getMethod ov mn pl)
      callWith pos f first (backTo pos (starEach (a :: es) X.env)) (backToKw pos (keywordEach [] X.env))) := by rfl) :
    SE X W (.Call (.Attribute o mn apos) (a :: es) [] pos) (mCallF ps.length spec (nCons (nRecv C mn na) m)) := by
  obtain ⟨to, po, so⟩ := ho
  obtain ⟨t, pt, st⟩ := ha
  exact ⟨_, pe_methX (pl := pl) po cl hm F hr hb (passE tk) pt hst hpl ht, sim_callF (spec := spec) ps.length (sim_acons (sim_nrecv (C := C) (mn := mn) so) st)⟩
theorem se_methF0 (ho : SE X W o na)
    (ht : eval (.Call (.Attribute o mn apos) [] [] pos) X.env = (do
      let ov ← eval o X.env
      standAt apos.atName
      let (f, first) ← holding [ov] (getMethod ov mn pl)
      callWith pos f first (backTo pos (starEach [] X.env)) (backToKw pos (keywordEach [] X.env))) := by rfl) :
    SE X W (.Call (.Attribute o mn apos) [] [] pos) (mCallF ps.length spec (nCons (nRecv C mn na) nNil)) := by
  obtain ⟨to, po, so⟩ := ho
  exact ⟨_, pe_methX0 (pl := pl) po cl hm F hr hb (passE tk) ht, sim_callF (spec := spec) ps.length (sim_acons (sim_nrecv (C := C) (mn := mn) so) sim_anil)⟩
/-- x.m(e, ..), x in slot i, lent -/
theorem se_methM (i : Nat) {y : Str} {m : MA} {py : Pos} (ha : SA X W (a :: es) m) (hN : X.N[i]? = some y := by rfl) (hv : Vis X.env.scope y := by first | exact Or.inl rfl | exact Or.inr (Or.inl rfl) | exact Or.inr (Or.inr rfl)) (hd : (y == ("__debug__" : Str)) = false := by decide) (hcd : (y == ("__classdict__" : Str)) = false := by decide)
    (hst : starEach (a :: es) X.env = (false, eval a X.env) :: starEach es X.env := by rfl) (hpl : (backTo pos (starEach es X.env)).any (·.1) = false := by rfl)
    (ht : eval (.Call (.Attribute (.Name y py) mn apos) (a :: es) [] pos) X.env = (do
      let ov ← eval (.Name y py) X.env
      standAt apos.atName
      let (f, first) ← holding [ov] (getMethod ov mn pl)
      callWith pos f first (backTo pos (starEach (a :: es) X.env)) (backToKw pos (keywordEach [] X.env))) := by rfl) :
    SE X W (.Call (.Attribute (.Name y py) mn apos) (a :: es) [] pos) (mCallM (isRecv C mn) ps.length spec i m) := by
  obtain ⟨t, pt, st⟩ := ha
  exact ⟨_, pe_methX (pl := pl) (pe_var (i := i) hN hv hd hcd) cl hm F hr hb (passE tk) pt hst hpl ht, sim_callM (spec := spec) ps.length i st fun _ _ _ _ _ r h => recv_at r h⟩
theorem se_methM0 (i : Nat) {y : Str} {py : Pos} (hN : X.N[i]? = some y := by rfl) (hv : Vis X.env.scope y := by first | exact Or.inl rfl | exact Or.inr (Or.inl rfl) | exact Or.inr (Or.inr rfl)) (hd : (y == ("__debug__" : Str)) = false := by decide) (hcd : (y == ("__classdict__" : Str)) = false := by decide)
    (ht : eval (.Call (.Attribute (.Name y py) mn apos) [] [] pos) X.env = (do
      let ov ← eval (.Name y py) X.env
      standAt apos.atName
      let (f, first) ← holding [ov] (getMethod ov mn pl)
      callWith pos f first (backTo pos (starEach [] X.env)) (backToKw pos (keywordEach [] X.env))) := by rfl) :
    SE X W (.Call (.Attribute (.Name y py) mn apos) [] [] pos) (mCallM (isRecv C mn) ps.length spec i nNil) :=
  ⟨_, pe_methX0 (pl := pl) (pe_var (i := i) hN hv hd hcd) cl hm F hr hb (passE tk) ht, sim_callM (spec := spec) ps.length i sim_anil fun _ _ _ _ _ r h => recv_at r h⟩
end
end
end G
set_option Elab.async false
set_option linter.all false
set_option maxRecDepth 100000
set_option maxHeartbeats 4000000
namespace G
open PySem L2
mutual
theorem frz_frz : ∀ d : D, d.frz.frz = d.frz
  | .non => rfl
  | .bl _ => rfl
  | .int _ => rfl
  | .str _ => rfl
  | .cst _ => rfl
  | .tup xs => by simp only [D.frz]; rw [frzs_frzs xs]
  | .lst _ xs => by simp only [D.frz]; rw [frzs_frzs xs]
  | .dct _ xs => by simp only [D.frz]; rw [frzk_frzk xs]
  | .ins _ C xs => by simp only [D.frz]; rw [frzf_frzf xs]
theorem frzs_frzs : ∀ ds : List D, frzs (frzs ds) = frzs ds
  | [] => rfl
  | d :: ds => by simp only [frzs]; rw [frz_frz d, frzs_frzs ds]
theorem frzk_frzk : ∀ ds : List (Key × D), frzk (frzk ds) = frzk ds
  | [] => rfl
  | (k, d) :: ds => by simp only [frzk]; rw [frz_frz d, frzk_frzk ds]
theorem frzf_frzf : ∀ ds : List (Str × D), frzf (frzf ds) = frzf ds
  | [] => rfl
  | (k, d) :: ds => by simp only [frzf]; rw [frz_frz d, frzf_frzf ds]
end
mutual
theorem frz_cold : ∀ d : D, d.frz.cold = true
  | .non => rfl
  | .bl _ => rfl
  | .int _ => rfl
  | .str _ => rfl
  | .cst _ => rfl
  | .tup xs => by simp only [D.frz, D.cold]; exact frzs_cold xs
  | .lst _ xs => by simp only [D.frz, D.cold, Bool.not_false, Bool.true_and]; exact frzs_cold xs
  | .dct _ xs => by simp only [D.frz, D.cold, Bool.not_false, Bool.true_and]; exact frzk_cold xs
  | .ins _ C xs => by simp only [D.frz, D.cold, Bool.not_false, Bool.true_and]; exact frzf_cold xs
theorem frzs_cold : ∀ ds : List D, colds (frzs ds) = true
  | [] => rfl
  | d :: ds => by simp only [frzs, colds]; rw [frz_cold d, frzs_cold ds]; rfl
theorem frzk_cold : ∀ ds : List (Key × D), coldk (frzk ds) = true
  | [] => rfl
  | (k, d) :: ds => by simp only [frzk, coldk]; rw [frz_cold d, frzk_cold ds]; rfl
theorem frzf_cold : ∀ ds : List (Str × D), coldf (frzf ds) = true
  | [] => rfl
  | (k, d) :: ds => by simp only [frzf, coldf]; rw [frz_cold d, frzf_cold ds]; rfl
end
theorem frzs_length (ds : List D) : (frzs ds).length = ds.length := by rw [frzs_eq, List.length_map]
/-! ### a new instance -/
section
variable {K : Frag} {F1 : Addr → Prop} {H1 : Hp} {A1 B1 : List Addr} {vs : List V} {ds : List D} {n : Nat} {f : Fn} {C : Addr}
theorem call_mk (w1 : Wf F1 H1 A1) (r1 : Rps K F1 H1 vs ds B1) (hB : ∀ a ∈ B1, ∃ o, H1 a = some o) (hn : ds.length + 1 = n) : match f (.ins true C [] :: frzs ds) with
    | .ok .non (d0' :: _) => keepR ds d0' = true → ∀ (Q : VK) E, (∀ x H' F' B, Ext F1 H1 F' H' → Rp K F' H' (.ref x) d0' B → Own H1 F' B → Q (.ref x) H') →
        ∀ x dx, H1 x = none → H1 dx = none → dx ≠ x → spOf K n f (.ref x :: vs) (upd (upd H1 dx (.own x)) x (.ins C dx [])) (fun v H2 => v = .non ∧ Q (.ref x) H2) E
    | .er y _ => keepX ds y = true → ∀ (Q : VK) E, (∀ cls dx H' F', Ext F1 H1 F' H' → Xr K F' H' y cls dx → E cls dx H') →
        ∀ x dx, H1 x = none → H1 dx = none → dx ≠ x → spOf K n f (.ref x :: vs) (upd (upd H1 dx (.own x)) x (.ins C dx [])) (fun v H2 => v = .non ∧ Q (.ref x) H2) E
    | _ => True := by
  have hl : ∀ x : Addr, (V.ref x :: vs).length = n := fun x => by rw [List.length_cons, r1.length]; exact hn
  have base : ∀ x dx, H1 x = none → H1 dx = none → dx ≠ x → ∃ Fc : Addr → Prop, (∀ a, Fc a ↔ F1 a ∨ a ∈ B1) ∧ Rps K Fc (upd (upd H1 dx (.own x)) x (.ins C dx [])) (.ref x :: vs) (.ins true C [] :: frzs ds) [x] ∧ Wf Fc (upd (upd H1 dx (.own x)) x (.ins C dx [])) [x] ∧
      (∀ b o, H1 b = some o → (upd (upd H1 dx (.own x)) x (.ins C dx [])) b = some o) := fun x dx hx hdx hne => by
    have same : ∀ b o, H1 b = some o → (upd (upd H1 dx (.own x)) x (.ins C dx [])) b = some o := fun b o h => by
      rw [upd_ne (ne_of_none h hx), upd_ne (ne_of_none h hdx)]; exact h
    refine ⟨fun a => F1 a ∨ a ∈ B1, fun _ => Iff.rfl, ?_, ?_, same⟩
    · have r2 : Rps K (fun a => F1 a ∨ a ∈ B1) H1 vs (frzs ds) [] := r1.frz (fun _ h => .inl h) fun _ h => .inr h
      refine .cons (A := [x]) (.insO (dx := dx) (vs := []) upd_same rfl .nil) (r2.to (fun _ h => h) fun a o e _ => same a o e) (by simp)
    · refine ⟨by simp, fun a h z => ?_, fun a h => ?_, fun a h => ?_⟩
      · have : a = x := by simpa using h
        subst this
        rcases z with z | z
        · obtain ⟨o, e⟩ := w1.dom a z; rw [hx] at e; cases e
        · obtain ⟨o, e⟩ := hB a z; rw [hx] at e; cases e
      · have : a = x := by simpa using h
        subst this
        rw [upd_same]; trivial
      · rcases h with h | h
        · obtain ⟨o, e⟩ := w1.dom a h; exact ⟨o, same a o e⟩
        · obtain ⟨o, e⟩ := hB a h; exact ⟨o, same a o e⟩
  have ext : ∀ {x dx : Addr} {Fc : Addr → Prop} {H' : Hp} {F' : Addr → Prop} {A' : List Addr}, H1 x = none → H1 dx = none → (∀ a, Fc a ↔ F1 a ∨ a ∈ B1) → (∀ b o, H1 b = some o → (upd (upd H1 dx (.own x)) x (.ins C dx [])) b = some o) → Wf F' H' A' → Step Fc (upd (upd H1 dx (.own x)) x (.ins C dx [])) [x] F' H' A' → Ext F1 H1 (fun a => F1 a ∨ (F' a ∧ H1 a = none)) H' := fun {x dx Fc H' F' A'} hx hdx hF same wf st =>
    ⟨fun b o h => st.frame b o (same b o h) (by simpa using ne_of_none h hx), fun _ h => .inl h, fun a h => h.imp id fun z => z.2, fun a h => wf.dom a (h.elim (fun z => st.mono a ((hF a).mpr (.inl z))) fun z => z.1)⟩
  have none_of : ∀ {x dx : Addr} {c : Addr}, (∀ b o, H1 b = some o → (upd (upd H1 dx (.own x)) x (.ins C dx [])) b = some o) → (upd (upd H1 dx (.own x)) x (.ins C dx [])) c = none → H1 c = none := fun {x dx c} same h => by
    cases e : H1 c with
    | none => rfl
    | some o => rw [same c o e] at h; cases h
  have keepF : ∀ {x dx : Addr} {Fc : Addr → Prop} {H' : Hp} {F' : Addr → Prop} {A' : List Addr}, H1 x = none → colds ds = true → (∀ a, Fc a ↔ F1 a ∨ a ∈ B1) → (∀ b o, H1 b = some o → (upd (upd H1 dx (.own x)) x (.ins C dx [])) b = some o) → Step Fc (upd (upd H1 dx (.own x)) x (.ins C dx [])) [x] F' H' A' → ∀ a, F' a → F1 a ∨ (F' a ∧ H1 a = none) := fun {x dx Fc H' F' A'} hx hc hF same st a h => by
    have eB := r1.cold hc
    rcases st.frz a h with z | z | z
    · rcases (hF a).mp z with q | q
      · exact .inl q
      · rw [eB] at q; exact (nomatch q)
    · have : a = x := by simpa using z
      subst this
      exact .inr ⟨h, hx⟩
    · exact .inr ⟨h, none_of same z⟩
  cases ef : f (.ins true C [] :: frzs ds) with
  | bad => trivial
  | ok d ds' =>
    cases d with
    | non =>
      cases ds' with
      | nil => trivial
      | cons d0' dr =>
        intro hk Q E k x dx hx hdx hne
        obtain ⟨Fc, hF, rr, ww, same⟩ := base x dx hx hdx hne
        refine ⟨hl x, Fc, [x], _, rr, ww, ?_⟩
        rw [ef]
        intro v H' F' A' B ra rv wf st
        obtain ⟨rfl, _⟩ := rv.isNon
        refine ⟨rfl, ?_⟩
        cases ra with
        | @cons _ _ _ _ C1 C2 _ q1 q2 eC =>
          subst eC
          have x1 := ext hx hdx hF same wf st
          have ob : Own H1 (fun a => F1 a ∨ (F' a ∧ H1 a = none)) C1 := ⟨wf.left.left.nd, fun c hc => by
            have hn : H1 c = none := by
              rcases st.own c (List.mem_append_left _ (List.mem_append_left _ hc)) with z | z
              · have : c = x := by simpa using z
                rw [this]; exact hx
              · exact none_of same z
            refine ⟨hn, fun z => ?_⟩
            rcases z with z | z
            · obtain ⟨o, e⟩ := w1.dom c z
              rw [hn] at e; cases e
            · exact wf.left.left.off c hc z.1⟩
          unfold keepR at hk
          by_cases hf : d0'.free = true
          · exact k x H' _ C1 x1 (q1.free hf) ob
          · have hc : colds ds = true := by simpa [hf] using hk
            exact k x H' _ C1 x1 (q1.to (keepF hx hc hF same st) fun _ _ e _ => e) ob
    | _ => trivial
  | er y ds' =>
    intro hk Q E k x dx hx hdx hne
    obtain ⟨Fc, hF, rr, ww, same⟩ := base x dx hx hdx hne
    refine ⟨hl x, Fc, [x], _, rr, ww, ?_⟩
    rw [ef]
    intro cls dxx H' F' A' ra wf st rx
    have x1 := ext hx hdx hF same wf st
    unfold keepX at hk
    by_cases hf : (y.fs.all fun p => p.2.free) = true
    · refine k cls dxx H' _ x1 ?_
      obtain ⟨h1, h2⟩ := rx
      refine ⟨h1, h2.imp id ?_⟩
      rintro ⟨d, us, e1, e2, e3, e4⟩
      exact ⟨d, us, e1, e2, e3, e4.free (by rw [frees_eq, List.all_map]; exact hf)⟩
    · have hc : colds ds = true := by simpa [hf] using hk
      exact k cls dxx H' _ x1 (rx.to (keepF hx hc hF same st) fun _ _ e _ => e)
end
def mMakeP (C : Addr) (n : Nat) (f : Fn) (m : ML) : ME := fun e => match m e with
  | .ok ds => if ds.length + 1 = n then (match f (.ins true C [] :: frzs ds) with
    | .ok .non (d0 :: _) => if keepR ds d0 = true then .ok d0 e else .bad
    | .er x _ => if keepX ds x = true then .er x e else .bad
    | _ => .bad) else .bad
  | .er x => .er x e
  | .bad => .bad
def mMakeF (C : Addr) (n : Nat) (f : Fn) (m : MA) : ME := fun e => match m e with
  | .ok ds e1 => if ds.length + 1 = n then (match f (.ins true C [] :: frzs ds) with
    | .ok .non (d0 :: _) => .ok d0 e1
    | .er x _ => .er x e1
    | _ => .bad) else .bad
  | .er x e1 => .er x e1
  | .bad => .bad
section
variable {X : Cx} {W : WX} {a b c o : Expr} {es : List Expr} {ma mb mc : MB} {na nb nc : ME} {pos p apos cpos : Pos} {K : Frag} {k : Nat} {f C : Addr} {fd : FuncData} {ps : List Str} {spec : Fn} {x mn : Str}
theorem sim_makeP {t : TA} {m : ML} (n : Nat) (h : SimL K W t m) : SimE K W (tMakeX C (spOf K n spec) (WE W) t) (mMakeP C n spec m) := fun σ H F A e s w => by
  have q := h σ H F A e s w
  unfold mMakeP
  cases em : m e with
  | bad => trivial
  | er x => rw [em] at q; exact fun k Q => q (fun cls dx H' F' x' r => k cls dx H' F' A (x'.sls s) (x'.wf w) x'.step r) _
  | ok ds =>
    rw [em] at q
    simp only
    by_cases hn : ds.length + 1 = n
    · rw [if_pos hn]
      cases ef : spec (.ins true C [] :: frzs ds) with
      | bad => trivial
      | er y ds' =>
        dsimp only
        by_cases hk : keepX ds y = true
        · rw [if_pos hk]
          intro kk Q
          refine q _ fun vs H1 F1 B1 x1 r1 => ?_
          have z := call_mk (f := spec) (C := C) (x1.wf w) r1 (rps_there r1) hn
          rw [ef] at z
          exact z hk Q _ fun cls dx H' F' x2 rx => kk cls dx H' F' A ((x1.trans x2).sls s) ((x1.trans x2).wf w) (x1.trans x2).step rx
        · rw [if_neg hk]; trivial
      | ok d ds' =>
        cases d with
        | non =>
          cases ds' with
          | nil => trivial
          | cons d0 dr =>
            dsimp only
            by_cases hk : keepR ds d0 = true
            · rw [if_pos hk]
              intro Q kk
              refine q _ fun vs H1 F1 B1 x1 r1 => ?_
              have z := call_mk (f := spec) (C := C) (x1.wf w) r1 (rps_there r1) hn
              rw [ef] at z
              exact z hk Q _ fun x H' F' B x2 rv ob => kk _ H' F' A B ((x1.trans x2).sls s) rv (ob.wf x2 (x1.wf w) rv) (x1.step.trans (ob.step x2))
            · rw [if_neg hk]; trivial
        | _ => trivial
    · rw [if_neg hn]; trivial
theorem sim_makeF {t : TA} {m : MA} (n : Nat) (h : SimA K W t m) : SimE K W (tMakeX C (spOf K n spec) (WE W) t) (mMakeF C n spec m) := fun σ H F A e s w => by
  have q := h σ H F A e s w
  unfold mMakeF
  cases em : m e with
  | bad => trivial
  | er x e1 => rw [em] at q; exact fun k Q => q k _
  | ok ds e1 =>
    rw [em] at q
    simp only
    by_cases hn : ds.length + 1 = n
    · rw [if_pos hn]
      have hn' : (frzs ds).length + 1 = n := by rw [frzs_length]; exact hn
      cases ef : spec (.ins true C [] :: frzs ds) with
      | bad => trivial
      | er y ds' =>
        intro kk Q
        refine q _ fun vs H1 F1 A1 B1 s1 r1 w1 t1 => ?_
        obtain ⟨w2, t2⟩ := freeze (F' := F1) w1
        have s2 : Sls K (fun a => F1 a ∨ a ∈ B1) H1 σ e1 A1 := s1.to (fun _ h => .inl h) fun _ _ e _ => e
        have r2 : Rps K (fun a => F1 a ∨ a ∈ B1) H1 vs (frzs ds) [] := r1.frz (fun _ h => .inl h) fun _ h => .inr h
        have z := call_mk (f := spec) (C := C) w2 r2 (fun _ z => nomatch z) hn'
        rw [frzs_frzs, ef] at z
        exact z (by unfold keepX; rw [frzs_cold, Bool.or_true]) Q _ fun cls dx H' F' x2 rx => kk cls dx H' F' A1 (x2.sls s2) (x2.wf w2) ((t1.trans t2).trans x2.step) rx
      | ok d ds' =>
        cases d with
        | non =>
          cases ds' with
          | nil => trivial
          | cons d0 dr =>
            intro Q kk
            refine q _ fun vs H1 F1 A1 B1 s1 r1 w1 t1 => ?_
            obtain ⟨w2, t2⟩ := freeze (F' := F1) w1
            have s2 : Sls K (fun a => F1 a ∨ a ∈ B1) H1 σ e1 A1 := s1.to (fun _ h => .inl h) fun _ _ e _ => e
            have r2 : Rps K (fun a => F1 a ∨ a ∈ B1) H1 vs (frzs ds) [] := r1.frz (fun _ h => .inl h) fun _ h => .inr h
            have z := call_mk (f := spec) (C := C) w2 r2 (fun _ z => nomatch z) hn'
            rw [frzs_frzs, ef] at z
            exact z (by unfold keepR; rw [frzs_cold, Bool.or_true]) Q _ fun x H' F' B x2 rv ob => kk _ H' F' A1 B (x2.sls s2) rv (ob.wf x2 w2 rv) ((t1.trans t2).trans (ob.step x2))
        | _ => trivial
    · rw [if_neg hn]; trivial
section
variable (M : Mk X.K C f) (F : FnS X.prog X.w X.K X.mg X.base k f fd ps spec) (hr : Room (k + 1) X.A) (hg : Gl X x) (hm : X.mg x = some (.ref C)) (hb : Binds X.K fd ps []) (tk : Takes X W)
include M F hr hg hm hb tk
theorem se_makeP {m : ML} (ha : SL X W (a :: es) m) (hdb : (x == ("__debug__" : Str)) = false := by decide) (he : starEach (a :: es) X.env = (false, eval a X.env) :: starEach es X.env := by rfl) (hpl : (backTo pos (starEach es X.env)).any (·.1) = false := by rfl) :
    SE X W (.Call (.Name x p) (a :: es) [] pos) (mMakeP C ps.length spec m) := let ⟨t, pt, st⟩ := ha; ⟨_, pe_makeX M F hr hg hm hb (passE tk) pt hdb he hpl, sim_makeP ps.length st⟩
theorem se_makeF {m : MA} (ha : SA X W (a :: es) m) (hdb : (x == ("__debug__" : Str)) = false := by decide) (he : starEach (a :: es) X.env = (false, eval a X.env) :: starEach es X.env := by rfl) (hpl : (backTo pos (starEach es X.env)).any (·.1) = false := by rfl) :
    SE X W (.Call (.Name x p) (a :: es) [] pos) (mMakeF C ps.length spec m) := let ⟨t, pt, st⟩ := ha; ⟨_, pe_makeX M F hr hg hm hb (passE tk) pt hdb he hpl, sim_makeF ps.length st⟩
end

/-! ### own operators, nothing raised -/
def gOwn2 (C : Addr) (spec : Fn) (d e : D) : Option D := match d, e with
  | .ins _ C1 _, .ins _ C2 _ => if C1 = C then (if C2 = C then (match spec (frzs [d, e]) with
    | .ok r _ => if keepR [d, e] r = true then some r else none
    | _ => none) else none) else none
  | _, _ => none
theorem v_own2 : OpV2 K (rBinOwn K C (spOf K 2 spec) E0) (gOwn2 C spec) := fun F H v w d e z A B dom r1 r2 hg Q kk => by
  unfold gOwn2 at hg
  split at hg
  · rename_i o1 C1 fs1 o2 C2 fs2
    split at hg
    · rename_i h1
      split at hg
      · rename_i h2
        subst h1 h2
        obtain ⟨a1, dx1, vs1, A1, rfl, hH1, _⟩ := r1.inst
        obtain ⟨a2, dx2, vs2, A2, rfl, hH2, _⟩ := r2.inst
        refine ⟨a1, dx1, vs1, a2, dx2, vs2, rfl, hH1, rfl, hH2, ?_⟩
        have rr : Rps K F H [.ref a1, .ref a2] [.ins o1 C2 fs1, .ins o2 C2 fs2] (A ++ B) := .cons r1 (.cons r2 .nil (by simp)) rfl
        have wn : Wf F H [] := ⟨List.nodup_nil, fun _ z => (nomatch z), fun _ z => (nomatch z), dom⟩
        have z0 := call_P (f := spec) (n := 2) wn rr (rps_there rr) rfl
        cases ef : spec (frzs [.ins o1 C2 fs1, .ins o2 C2 fs2]) with
        | bad => rw [ef] at hg; cases hg
        | er y ds' => rw [ef] at hg; cases hg
        | ok r ds' =>
          rw [ef] at hg z0
          simp only at hg
          split at hg
          · rename_i hk
            have := Option.some.inj hg
            subst this
            exact z0 hk Q _ fun u H' F' C' x ru ob => kk u H' F' C' x ru ob
          · cases hg
      · cases hg
    · cases hg
  · cases hg
theorem op_binOwn {op : Operator} (F : FnS X.prog X.w X.K X.mg X.base k f fd ps spec) (hr : Room k X.A) (hb : Binds X.K fd ps []) (hps : ps.length = 2) (hc : PySem.W.selfFirst X.K C = true) (hs : PySem.W.findIn X.K (.ref C) (PySem.dunder op.info.2) = some (some (.ref f))) (hf : PySem.W.isFn X.K (.ref f) = true) :
    OpR X (binaryOp op) (rBinOwn X.K C (spOf X.K 2 spec) E0) := by
  intro pins s σ H x y v u Q I rx ry h
  obtain ⟨a, dx, fs, b, dx2, fs2, rfl, hH, rfl, hH2, q⟩ := h
  cases rx
  cases ry
  obtain ⟨m, Fr⟩ := I.fr
  obtain ⟨mA, O, _⟩ := ins_get I.hok hH
  obtain ⟨od, J, _⟩ := O.look
  obtain ⟨mA2, O2, _⟩ := ins_get I.hok hH2
  obtain ⟨od2, J2, _⟩ := O2.look
  refine PySem.W.binop_K Fr I.mod.kin J J2.type hc hs hf ?_
  have hpass : ∀ σ, PassesAt (L2.CX X.prog X.w) X σ ((fun _ => E0) σ) := fun σ pins H s e s' I' hc => by
    have := passL (X := X) pins σ H s e s' I' hc
    exact this
  have F' : FnOk X.prog X.w X.K X.mg X.base (L2.CX X.prog X.w) k f fd ps (spOf X.K 2 spec) := by rw [← hps]; exact F
  refine wpAny_mono (run_fnS (E := fun _ => E0) (us := [.ref a, .ref b]) (vs := [.ref a, .ref b]) F' hr hb (hpass σ) I (.cons rfl (.cons rfl .nil)) q) (fun v s' z => ?_) fun _ _ z => z
  obtain ⟨w, H', I', rw', qw⟩ := z
  have : EP X pins σ Q v s' := ⟨w, H', I', rw', qw⟩
  cases v with
  | notImplemented =>
    exfalso
    have z := RelV.abs rw'
    cases z
  | _ => exact this
end
end G
set_option Elab.async false
set_option linter.all false
set_option maxRecDepth 100000
set_option maxHeartbeats 4000000
namespace G
section
open PySem L2 PySem.W
section
variable {prog : Program} {w : World} {A : Around} {E : Value → Shared → Prop} {s : Shared} {K : PySem.W.Frag} {x C L f : Addr} {h₀ : Heap} {m : Str → Option Value} {ox : Obj} {od : Option Obj} {b tb : Value}
theorem ne_body {Q : Fin → Shared → Prop} (hu : A.units < cLine) (X : K.In s.heap) (I : InstAt s.heap x ox C od) (hs : findIn K (.ref C) "__eq__" = some (some (.ref f))) (hf : isFn K (.ref f) = true)
    (h : wpAny (model prog w) A (call (.ref f) [.ref x, b]) (fun v s' => ∃ c, v = .bool c ∧ Q (.done (.ret (.bool (!c)))) s') E s) : wpAny (model prog w) A (Builtin.«object.__ne__» ⟨[.ref x, b], []⟩) Q E s := by
  unfold Builtin.«object.__ne__»
  repeat (first
    | with_reducible refine wpAny_cRoomFor hu ?_
    | (refine wpAny_bind (m := callSpecialIfBound? (.ref x) (Str.ofString "__eq__") [b]) (ifBound_K X I hs hf (wpAny_mono h (fun r s' hr => by
          obtain ⟨c, rfl, hq⟩ := hr
          repeat (first | exact hq | exact wpAny_pure hq | exact wpAny_truthy_bool hq | (refine wpAny_bind (m := truthy (.bool _)) (wpAny_truthy_bool ?_)) | wp_step)) fun _ _ e => e)))
    | wp_step)
theorem ne_call {Q : Value → Shared → Prop} (hu : A.units + 1 < cLine) (X : K.In s.heap) (I : InstAt s.heap x ox C od) (hob : mroIn K C (.type "object") = some true) (hs : findIn K (.ref C) "__eq__" = some (some (.ref f))) (hf : isFn K (.ref f) = true)
    (h : wpAny (model prog w) A.in1 (call (.ref f) [.ref x, b]) (fun v s' => ∃ c, v = .bool c ∧ Q (.bool (!c)) s') E s) : wpAny (model prog w) A (call (.builtin "object.__ne__") [.ref x, b]) Q E s := by
  have sub : Looks (model prog w) s.heap (isInstance (.ref x) (.type "object")) true := I.type.andThen (looks_mroIn X hob)
  refine wpAny_call (codeAny_call_builtin PySem.F.slot_object_ne.plain PySem.F.entry_object_ne (@check_slot (model prog w) _ _ s "object.__ne__" "object" "__ne__" (.ref x) [b] [] _ (by decide +kernel) (by decide +kernel) sub (PySem.F.args_object_ne_2 _ _) ?_))
  exact ne_body (A := A.in1) hu X I hs hf (wpAny_mono h (fun v s' hv => hv) fun _ _ e => e)
theorem ne_K {Q : Value → Shared → Prop} (hu : A.units + 1 < cLine) (X : K.In s.heap) (I : InstAt s.heap x ox C od) (hb : Looks (model prog w) s.heap (typeOf b) tb) (hn : notFirst K C tb = true) (hob : mroIn K C (.type "object") = some true)
    (hne : findIn K (.ref C) "__ne__" = some (some (.builtin "object.__ne__"))) (hs : findIn K (.ref C) "__eq__" = some (some (.ref f))) (hf : isFn K (.ref f) = true)
    (h : wpAny (model prog w) A.in1 (call (.ref f) [.ref x, b]) (fun v s' => ∃ c, v = .bool c ∧ Q (.bool (!c)) s') E s) : wpAny (model prog w) A (richCompare .NotEq (.ref x) b) Q E s := by
  have one : wpAny (model prog w) A (tryCompare (.ref x) "__ne__" b) (fun r s' => ∃ v, r = some v ∧ Q v s') E s := by
    unfold tryCompare
    refine wpAny_bind (m := callSpecialIfBound? (.ref x) "__ne__" [b]) ?_
    simp only [callSpecialIfBound?, bindSpecialIfBound?]
    refine wpAny_holding (wpAny_bind (wpAny_bind (wpAny_bind (I.type.here ((looks_findIn X hne).here ?_)))))
    simp only [PySem.F.slot_object_ne.bind]
    have fin : wpAny (model prog w) A (call (.builtin "object.__ne__") ([.ref x] ++ [b]) >>= fun v => pure (some v)) (fun a s' => wpAny (model prog w) A (match a with | some .notImplemented | none => pure none | some v => pure (some v)) (fun r s' => ∃ v, r = some v ∧ Q v s') E s') E s :=
      wpAny_bind (ne_call hu X I hob hs hf (wpAny_mono h (fun v s' hv => by
        obtain ⟨c, rfl, hq⟩ := hv
        exact ⟨c, rfl, wpAny_pure (wpAny_pure ⟨_, rfl, hq⟩)⟩) fun _ _ e => e))
    refine wpAny_bind (wpAny_askSetting (wpAny_ite ?_))
    split
    · exact wpAny_bind (wpAny_pure (wpAny_pure fin))
    · exact wpAny_tryCatch (wpAny_bind (wpAny_pure (wpAny_pure fin)))
  unfold richCompare
  simp only [oneThing_ref]
  refine wpAny_holding (wpAny_bind (wpAny_cRoomFor (Nat.lt_of_succ_lt hu) ?_))
  refine wpAny_bind (I.type.here (wpAny_bind (hb.here ?_)))
  split
  · rename_i q
    have e : subIn K tb (.ref C) = some false := by
      rcases Bool.or_eq_true_iff.mp hn with e | e
      · rw [beq_iff_eq.mp e] at q; simp at q
      · exact beq_iff_eq.mp e
    refine wpAny_bind ((looks_subIn X e).here ?_)
    simp only [Bool.false_eq_true, if_false]
    refine wpAny_bind (wpAny_mono one (fun r s' z => ?_) fun _ _ e => e)
    obtain ⟨v, rfl, hq⟩ := z
    exact wpAny_pure hq
  · refine wpAny_bind (wpAny_pure ?_)
    simp only [Bool.false_eq_true, if_false]
    refine wpAny_bind (wpAny_mono one (fun r s' z => ?_) fun _ _ e => e)
    obtain ⟨v, rfl, hq⟩ := z
    exact wpAny_pure hq
end
section
variable {X : Cx} {K : PySem.W.Frag} {C f : Addr} {k : Nat} {fd : FuncData} {ps : List Str} {spec : Fn} {cs : List Addr}
/-- facts on a class of one's own with its own __eq__ -/
structure EqCls (K : PySem.W.Frag) (cs : List Addr) (C f : Addr) : Prop where
  own : OwnCls K cs
  nf : ∀ t, (∃ n ∈ names7, t = .type n) ∨ (∃ c ∈ cs, t = .ref c) → notFirst K C t = true
  eq : findIn K (.ref C) "__eq__" = some (some (.ref f))
  ne : findIn K (.ref C) "__ne__" = some (some (.builtin "object.__ne__"))
  fn : isFn K (.ref f) = true
  ob : mroIn K C (.type "object") = some true
def tyOk (cs : List Addr) (d : D) : Bool := match tyD d with
  | some (.type n) => names7.contains n
  | some (.ref c) => cs.contains c
  | _ => false
theorem tyOk_ok (O : EqCls K cs C f) {F : Addr → Prop} {H : Hp} {v : V} {d : D} {B : List Addr} (r : Rp K F H v d B) (h : tyOk cs d = true) : ∃ t, TyX K H v t ∧ notFirst K C t = true := by
  unfold tyOk at h
  split at h
  · rename_i n e
    exact ⟨_, tyD_ok O.own r e (fun C z => nomatch z), O.nf _ (.inl ⟨n, by simpa using h, rfl⟩)⟩
  · rename_i c e
    exact ⟨_, tyD_ok O.own r e (fun C z => by cases z; simpa using h), O.nf _ (.inr ⟨c, by simpa using h, rfl⟩)⟩
  · cases h
def gEqOwn (cs : List Addr) (C : Addr) (spec : Fn) (d e : D) : Option D := match d with
  | .ins _ C1 _ => if C1 = C then (if tyOk cs e = true then (match spec (frzs [d, e]) with
    | .ok r _ => if keepR [d, e] r = true then some r else none
    | _ => none) else none) else none
  | _ => none
theorem v_eqOwn (O : EqCls K cs C f) : OpV2 K (rCmpOwn K C (spOf K 2 spec) E0) (gEqOwn cs C spec) := fun F H v w d e z A B dom r1 r2 hg Q kk => by
  unfold gEqOwn at hg
  split at hg
  · rename_i o1 C1 fs1
    split at hg
    · rename_i h1
      split at hg
      · rename_i h2
        subst h1
        obtain ⟨a1, dx1, vs1, A1, rfl, hH1, _⟩ := r1.inst
        obtain ⟨t, ty, nf⟩ := tyOk_ok O r2 h2
        refine ⟨a1, dx1, vs1, t, rfl, hH1, ty, nf, ?_⟩
        have rr : Rps K F H [.ref a1, w] [.ins o1 C1 fs1, e] (A ++ B) := .cons r1 (.cons r2 .nil (by simp)) rfl
        have wn : Wf F H [] := ⟨List.nodup_nil, fun _ z => (nomatch z), fun _ z => (nomatch z), dom⟩
        have z0 := call_P (f := spec) (n := 2) wn rr (rps_there rr) rfl
        cases ef : spec (frzs [.ins o1 C1 fs1, e]) with
        | bad => rw [ef] at hg; cases hg
        | er y ds' => rw [ef] at hg; cases hg
        | ok r ds' =>
          rw [ef] at hg z0
          simp only at hg
          split at hg
          · rename_i hk
            have := Option.some.inj hg
            subst this
            exact z0 hk Q _ fun u H' F' C' x ru ob => kk u H' F' C' x ru ob
          · cases hg
      · cases hg
    · cases hg
  · cases hg
theorem op_eqOwn (O : EqCls X.K cs C f) (F : FnS X.prog X.w X.K X.mg X.base k f fd ps spec) (hr : Room k X.A) (hb : Binds X.K fd ps []) (hps : ps.length = 2) :
    OpR X (compareOp .Eq) (rCmpOwn X.K C (spOf X.K 2 spec) E0) := by
  intro pins s σ H x y v u Q I rx ry h
  obtain ⟨a, dx, fs, t, rfl, hH, ty, nf, q⟩ := h
  cases rx
  obtain ⟨m, Fr⟩ := I.fr
  obtain ⟨mA, O1, _⟩ := ins_get I.hok hH
  obtain ⟨od, J, _⟩ := O1.look
  obtain ⟨P, kx, hP, _⟩ := kit_of I ry ty
  show wpAny _ _ (richCompare .Eq _ _) _ _ _
  refine PySem.W.cmp_K (op := .Eq) hr.units0 Fr I.ok.mod.kin J (kx.ty _ _ I.kIn hP) nf O.eq O.fn ?_
  have hpass : ∀ σ, PassesAt (L2.CX X.prog X.w) X σ ((fun _ => E0) σ) := fun σ pins H s e s' I' hc => by
    have := passL (X := X) pins σ H s e s' I' hc
    exact this
  have F' : FnOk X.prog X.w X.K X.mg X.base (L2.CX X.prog X.w) k f fd ps (spOf X.K 2 spec) := by rw [← hps]; exact F
  refine wpAny_mono (run_fnS (E := fun _ => E0) (us := [.ref a, u]) (vs := [.ref a, y]) F' hr hb (hpass σ) I (.cons rfl (.cons ry .nil)) q) (fun v s' z => ?_) fun _ _ z => z
  obtain ⟨w, H', I', rw', qw⟩ := z
  have : EP X pins σ Q v s' := ⟨w, H', I', rw', qw⟩
  cases v with
  | notImplemented =>
    exfalso
    have z := RelV.abs rw'
    cases z
  | _ => exact this
def rNeOwn (K : PySem.W.Frag) (C : Addr) (sp : Sp) (E : XK) : R2 := fun x y H Q => rCmpOwn K C sp E x y H fun z H' => ∃ c, z = .bl c ∧ Q (.bl (!c)) H'
def gNeOwn (cs : List Addr) (C : Addr) (spec : Fn) (d e : D) : Option D := match gEqOwn cs C spec d e with
  | some (.bl c) => some (.bl (!c))
  | _ => none
theorem v_neOwn (O : EqCls K cs C f) : OpV2 K (rNeOwn K C (spOf K 2 spec) E0) (gNeOwn cs C spec) := fun F H v w d e z A B dom r1 r2 hg Q kk => by
  unfold gNeOwn at hg
  split at hg
  · rename_i c h1
    have := Option.some.inj hg
    subst this
    refine v_eqOwn O F H v w d e (.bl c) A B dom r1 r2 h1 _ fun u H' F' C' x ru ob => ?_
    cases ru
    exact ⟨c, rfl, kk _ H' F' [] x (.bl _) ob⟩
  · cases hg
theorem op_neOwn (O : EqCls X.K cs C f) (F : FnS X.prog X.w X.K X.mg X.base k f fd ps spec) (hr : Room (k + 1) X.A) (hb : Binds X.K fd ps []) (hps : ps.length = 2) :
    OpR X (compareOp .NotEq) (rNeOwn X.K C (spOf X.K 2 spec) E0) := by
  intro pins s σ H x y v u Q I rx ry h
  obtain ⟨a, dx, fs, t, rfl, hH, ty, nf, q⟩ := h
  cases rx
  obtain ⟨mA, O1, _⟩ := ins_get I.hok hH
  obtain ⟨od, J, _⟩ := O1.look
  obtain ⟨P, kx, hP, _⟩ := kit_of I ry ty
  show wpAny _ _ (richCompare .NotEq _ _) _ _ _
  have hr1 : Room k X.A.in1 := Room.in1 hr
  refine ne_K hr1.units0 I.kIn J (kx.ty _ _ I.kIn hP) nf O.ob O.ne O.eq O.fn ?_
  have F' : FnOk X.prog X.w X.K X.mg X.base (L2.CX X.prog X.w) k f fd ps (spOf X.K 2 spec) := by rw [← hps]; exact F
  have r : Vals [V.ref a, y] [Value.ref a, u] := .cons rfl (.cons ry .nil)
  have b := hb s [.ref a, u] I.kIn (by simp [hps])
  rw [List.append_nil] at b
  refine wpAny_call (codeAny_mono (F'.run X.A.in1 X.stack s H ⟨[.ref a, u], []⟩ [.ref a, u] [.ref a, y] _ E0 hr1 I.env0.in1 b r q) fun r s' hq => ?_)
  cases r with
  | error e => exact passL (X := X) pins σ H s e s' I hq
  | ok fl =>
    cases fl with
    | ret w =>
      obtain ⟨z, H', I', rz, c, ez, ex⟩ := I.after hq
      subst ez
      cases rz
      exact ⟨c, rfl, .bl (!c), H', I', rfl, ex⟩
    | next => exact False.elim hq
    | brk => exact False.elim hq
    | cont => exact False.elim hq
end
end
end G
set_option Elab.async false
set_option linter.all false
set_option maxRecDepth 100000
set_option maxHeartbeats 4000000
namespace G
open PySem L2
section
variable {X : Cx} {W : WX} {a o : Expr} {ma : MB} {no : ME} {apos cpos : Pos}
/-- e.append(x), e a list of one's own that nobody holds -/
def mAppT (no : ME) (ma : MB) : ME := fun e => match no e with
  | .ok (.lst true ds) e1 => if ds.length < sizeLine then (match ma e1 with
    | .ok _ => .ok .non e1
    | _ => .bad) else .bad
  | .er x e1 => .er x e1
  | _ => .bad
theorem se_appT (ho : SE X W o no) (ha : SB X W a ma)
    (hbase : attributeBase o "append" X.env (eval o X.env) = eval o X.env := by rfl)
    (hfew : ((backTo cpos (starEach [a] X.env)).all (fun x => !x.1) && (backToKw cpos (keywordEach [] X.env)).all (fun x => x.1.isSome) && decide ([a].length + ([] : List Keyword).length + (if ([] : List Keyword).isEmpty then 0 else 1) < 30)) = true := by rfl)
    (hline : (apos.endLine == cpos.line) = true := by rfl) (hs : starEach [a] X.env = (false, eval a X.env) :: starEach [] X.env := by rfl) (hplain : (backTo cpos (starEach [] X.env)).any (·.1) = false := by rfl) :
    SE X W (.Call (.Attribute o "append" apos) [a] [] cpos) (mAppT no ma) := by
  obtain ⟨t, pt, st⟩ := ha
  obtain ⟨t0, pt0, st0⟩ := ho
  refine ⟨_, pe_bm PySem.F.plainAttrs_list PySem.F.slot_list_append PySem.F.type_list_append mt_append pt0 (pa_cons pt pa_nil hs) hbase hfew hline hs hplain, fun σ H F A e s w => ?_⟩
  have q0 := st0 σ H F A e s w
  unfold mAppT
  split
  · rename_i ds e1 h0
    rw [h0] at q0
    split
    · rename_i hl
      split
      · rename_i d h1
        intro Q k
        refine q0 _ fun v H1 F1 A1 B1 s1 r1 w1 t1 => ?_
        cases r1 with
        | @lstO a0 vs _ Cs hH rr =>
          have q1 := st σ H1 F1 A1 e1 s1 w1.left
          rw [h1] at q1
          refine ⟨.inl ⟨rfl, vs, by first | exact .inl hH | exact .inl (.inl hH)⟩, q1 _ fun y H2 F2 B2 x2 r2 => ?_⟩
          have w2 := x2.wf w1
          have mem : a0 ∈ A1 ++ a0 :: Cs := by simp
          have hF : ¬ F2 a0 := w2.off a0 mem
          have hm : Mut (H2 a0) := w2.mu a0 mem
          have hn : a0 ∉ A1 := fun z => w2.apart a0 z (by simp)
          refine ⟨a0, vs, y, rfl, rfl, x2.same _ _ hH, by rw [rr.length]; exact hl, k _ _ F2 A1 [] ((x2.sls s1).to (fun _ h => h) (pres_upd hF hm hn)) .non ?_ ?_⟩
          · rw [List.append_nil]; exact w2.left.upd trivial
          · rw [List.append_nil]
            exact (t1.trans x2.step).trans (step_upd mem fun b z => by simp [z])
      · trivial
    · trivial
  · rename_i x e1 h0
    rw [h0] at q0
    exact fun k Q => q0 k _
  · trivial
/-- the value frozen -/
def mFz (m : ME) : ME := fun e => match m e with
  | .ok d e1 => .ok d.frz e1
  | .er x e1 => .er x e1
  | .bad => .bad
theorem se_fz {na : ME} (h : SE X W a na) : SE X W a (mFz na) := by
  obtain ⟨t, pt, st⟩ := h
  refine ⟨t, pt, fun σ H F A e s w => ?_⟩
  have q := st σ H F A e s w
  unfold mFz
  cases em : na e with
  | bad => trivial
  | er x e1 => rw [em] at q; exact q
  | ok d e1 =>
    rw [em] at q
    intro Q k
    refine q Q fun v H1 F1 A1 B1 s1 r1 w1 t1 => ?_
    obtain ⟨w2, t2⟩ := freeze (F' := F1) w1
    have s2 : Sls X.K (fun a => F1 a ∨ a ∈ B1) H1 σ e1 A1 := s1.to (fun _ h => .inl h) fun _ _ e _ => e
    have r2 : Rp X.K (fun a => F1 a ∨ a ∈ B1) H1 v d.frz [] := r1.frz (fun _ h => .inl h) fun _ h => .inr h
    exact k v H1 _ A1 [] s2 r2 (by simpa using w2) (by simpa using t1.trans t2)
end
end G
set_option Elab.async false
set_option linter.all false
set_option maxRecDepth 100000
set_option maxHeartbeats 4000000
namespace G
open PySem L2
section
variable {X : Cx} {W : WX} {a b o : Expr} {na nb : ME} {pos : Pos} {K : Frag}
/-- an item, the subscript may change things: the item is cold -/
def gIxC (d e : D) : Option D := match d with
  | .dct _ _ => none
  | d => (ixD d e).bind fun z => if z.cold = true then some z else none
theorem v_ixC : OpV2 K (rIx K) gIxC := fun F H v w d e z A B dom r1 r2 hg Q k => by
  have key : (∀ o kvs, d ≠ .dct o kvs) → (∃ z', ixD d e = some z' ∧ z'.cold = true ∧ z' = z) → rIx K v w H Q := fun hn ⟨z', h1, h2, h3⟩ => by
    subst h3
    obtain ⟨u, C, ru, _, kk⟩ := ix_val r1 r2 h1
    have eC := ru.cold h2
    subst eC
    have := kk Q (k u H F [] (.refl dom) ru .nil)
    cases d with
    | dct o kvs => exact absurd rfl (hn o kvs)
    | _ => exact this
  unfold gIxC at hg
  split at hg
  · cases hg
  · rename_i hn
    refine key (fun o kvs z => hn o kvs z) ?_
    cases ez : ixD d e with
    | none => rw [ez] at hg; cases hg
    | some z' =>
      rw [ez] at hg
      simp only [Option.bind_some] at hg
      split at hg
      · rename_i hc
        exact ⟨z', rfl, hc, Option.some.inj hg⟩
      · cases hg
theorem se_ix (ha : SE X W a na) (hb : SE X W b nb) (hs : PlainIx b := by exact fun _ _ => rfl) : SE X W (.Subscript a b pos) (mE2 gIxC na nb) :=
  let ⟨ta, pa, sa⟩ := ha; let ⟨tb, pb, sb⟩ := hb; ⟨_, pe_ix ix_seq pa pb hs, sim_op2E v_ixC sa sb⟩
def gAddI : D → D → Option D := ii fun i j => .int (i + j)
theorem v_ipAdd : OpV2 K (ipI fun i j => i + j) gAddI := opv_ii (g := fun i j => .int (i + j)) fun _ _ _ _ => .int _
theorem v_ipSub : OpV2 K (ipI fun i j => i - j) gSub := opv_ii (g := fun i j => .int (i - j)) fun _ _ _ _ => .int _
theorem u1 {k : Nat} {A : Around} (hr : Room k A) : A.units + 1 < cLine := by have := hr.units; omega
theorem takes0 {s : Shared} {H : Hp} {scope : Scope} {cenv : PySem.Env} {fp : List Addr} : Takes (X.blk s H scope cenv fp) W0 := fun u s' ⟨a, B, sI, pins, σ, H, cls, d, e, I, nb, up, sky, na, os, ag, w⟩ => w
theorem fn_bad {P : Program} {w : World} {K : Frag} {mg : Str → Option Value} {base : Heap} {k : Nat} {f : Addr} {fd : FuncData} {ps : List Str} : FnS P w K mg base k f fd ps (fun _ => .bad) :=
  ⟨fun vs H Q E h => h.1, fun A outer s H args us vs Q E hr he hb hv hs => by
    obtain ⟨_, F, A, ds, _, _, q⟩ := hs
    exact q.elim⟩
end
end G
set_option Elab.async false
set_option linter.all false
set_option maxRecDepth 100000
set_option maxHeartbeats 4000000
namespace G
open PySem L2
mutual
def py : D → PyData
  | .non => .none
  | .bl b => .bool b
  | .int i => .int i
  | .str x => .str x
  | .tup xs => .tuple (pys xs)
  | .lst _ xs => .list (pys xs)
  | _ => .none
def pys : List D → List PyData
  | [] => []
  | x :: xs => py x :: pys xs
end
mutual
def okD : Nat → D → Bool
  | _, .non => true
  | _, .bl _ => true
  | _, .int _ => true
  | _, .str x => PyData.canLay0 (.str x)
  | n + 1, .tup xs => okDs n xs
  | n + 1, .lst _ xs => okDs n xs
  | _, _ => false
def okDs : Nat → List D → Bool
  | _, [] => true
  | n, x :: xs => okD n x && okDs n xs
end
mutual
theorem okD_py : ∀ (n : Nat) (d : D), okD n d = true → toPy d = some (py d) ∧ (py d).canLay0 = true ∧ (py d).depth ≤ n
  | n, .non, _ => by simp [toPy, py, PyData.canLay0, PyData.depth]
  | n, .bl b, _ => by simp [toPy, py, PyData.canLay0, PyData.depth]
  | n, .int i, _ => by simp [toPy, py, PyData.canLay0, PyData.depth]
  | n, .str x, h => by
    have h' : PyData.canLay0 (.str x) = true := by cases n <;> simpa [okD] using h
    simp [toPy, py, PyData.depth, h']
  | 0, .tup xs, h => by simp [okD] at h
  | n + 1, .tup xs, h => by
    have := okD_pys n xs (by simpa [okD] using h)
    simp [toPy, py, this.1, PyData.canLay0, this.2.1, PyData.depth, this.2.2]
  | 0, .lst _ xs, h => by simp [okD] at h
  | n + 1, .lst _ xs, h => by
    have := okD_pys n xs (by simpa [okD] using h)
    simp [toPy, py, this.1, PyData.canLay0, this.2.1, PyData.depth, this.2.2]
  | n, .cst _, h => by cases n <;> simp [okD] at h
  | n, .dct _ _, h => by cases n <;> simp [okD] at h
  | n, .ins _ _ _, h => by cases n <;> simp [okD] at h
theorem okD_pys : ∀ (n : Nat) (ds : List D), okDs n ds = true → toPys ds = some (pys ds) ∧ PyData.canLayAll0 (pys ds) = true ∧ PyData.depthAll (pys ds) ≤ n
  | n, [], _ => by simp [toPys, pys, PyData.canLayAll0, PyData.depthAll]
  | n, x :: xs, h => by
    have h' : okD n x = true ∧ okDs n xs = true := by simpa [okDs] using h
    have h1 := okD_py n x h'.1
    have h2 := okD_pys n xs h'.2
    refine ⟨by simp [toPys, pys, h1.1, h2.1], by simp [pys, PyData.canLayAll0, h1.2.1, h2.2.1], ?_⟩
    simp only [pys, PyData.depthAll]
    have := h1.2.2
    have := h2.2.2
    omega
end
theorem eqD_of {d e : D} (h1 : okD 64 d = true) (h2 : okD 64 e = true) : eqD d e = some (PyData.eqv (py d) (py e)) := by
  obtain ⟨a1, a2, a3⟩ := okD_py 64 d h1
  obtain ⟨b1, b2, b3⟩ := okD_py 64 e h2
  unfold eqD
  rw [a1, b1]
  simp only [SeqAt.shaped, a2, b2, decide_eq_true a3, decide_eq_true b3, Bool.and_self, if_true]
theorem gEq_of {d e : D} (h1 : okD 64 d = true) (h2 : okD 64 e = true) : gEq d e = some (.bl (PyData.eqv (py d) (py e))) := by unfold gEq; rw [eqD_of h1 h2]; rfl
theorem gNe_of {d e : D} (h1 : okD 64 d = true) (h2 : okD 64 e = true) : gNe d e = some (.bl (!PyData.eqv (py d) (py e))) := by unfold gNe; rw [eqD_of h1 h2]; rfl
theorem gEq_int (a b : Int) : gEq (.int a) (.int b) = some (.bl (decide (a = b))) := by
  rw [gEq_of rfl rfl]
  simp only [py, PyData.eqv]
  congr 2
theorem gNe_int (a b : Int) : gNe (.int a) (.int b) = some (.bl (!decide (a = b))) := by
  rw [gNe_of rfl rfl]
  simp only [py, PyData.eqv]
  congr 2
/-! ### items -/
theorem at0 {a b c d : D} : atI [a, b, c, d] 0 = some a := rfl
theorem at1 {a b c d : D} : atI [a, b, c, d] 1 = some b := rfl
theorem at2 {a b c d : D} : atI [a, b, c, d] 2 = some c := rfl
theorem at3 {a b c d : D} : atI [a, b, c, d] 3 = some d := rfl
theorem ix0 {o : Bool} {a b c d : D} : ixD (.lst o [a, b, c, d]) (.int 0) = some a := rfl
theorem ix1 {o : Bool} {a b c d : D} : ixD (.lst o [a, b, c, d]) (.int 1) = some b := rfl
theorem ix2 {o : Bool} {a b c d : D} : ixD (.lst o [a, b, c, d]) (.int 2) = some c := rfl
theorem ix3 {o : Bool} {a b c d : D} : ixD (.lst o [a, b, c, d]) (.int 3) = some d := rfl
theorem atI_in {α : Type} {xs : List α} {i : Int} (h0 : 0 ≤ i) (h1 : i < xs.length) : ∃ h : i.toNat < xs.length, atI xs i = some (xs[i.toNat]'h) := by
  have h : i.toNat < xs.length := by omega
  refine ⟨h, ?_⟩
  unfold atI ixN
  rw [if_pos h0, if_pos h1]
  simp [h]
theorem colds_ints (ns : List Int) : colds (ns.map D.int) = true := by
  induction ns with
  | nil => rfl
  | cons n ns ih => simp [colds, D.cold, ih]
theorem frzs_ints (ns : List Int) : frzs (ns.map D.int) = ns.map D.int := by
  induction ns with
  | nil => rfl
  | cons n ns ih => simp [frzs, D.frz, ih]
end G
set_option Elab.async false
set_option linter.all false
set_option maxRecDepth 100000
set_option maxHeartbeats 4000000
/-! evaluation of mirrors, stage by stage: a call's parts first, then what is behind them -/
namespace G
open PySem L2
/-! ### pure expressions -/
def oV : Option (Option D) → Rb
  | some (some d) => .ok d
  | _ => .bad
@[simp] theorem ev_var (i : Nat) (e : Env) : mVar i e = oV e[i]? := rfl
@[simp] theorem oV_some (d : D) : oV (some (some d)) = .ok d := rfl
@[simp] theorem ev_c (d : D) (e : Env) : mC d e = .ok d := rfl
@[simp] theorem ofO_some (d : D) : ofO (some d) = .ok d := rfl
def Rb.b1 (r : Rb) (g : D → Option D) : Rb := r.bind fun d => ofO (g d)
@[simp] theorem ev_b1 (g : D → Option D) (m : MB) (e : Env) : mB1 g m e = (m e).b1 g := rfl
@[simp] theorem b1_ok (d : D) (g : D → Option D) : Rb.b1 (.ok d) g = ofO (g d) := rfl
def Rb.b2 (r s : Rb) (g : D → D → Option D) : Rb := r.bind fun d => s.bind fun d' => ofO (g d d')
@[simp] theorem ev_b2 (g : D → D → Option D) (m n : MB) (e : Env) : mB2 g m n e = (m e).b2 (n e) g := rfl
@[simp] theorem b2_ok (d d' : D) (g : D → D → Option D) : Rb.b2 (.ok d) (.ok d') g = ofO (g d d') := rfl
@[simp] theorem ev_nil (e : Env) : mNil e = .ok [] := rfl
def Rb.cons (r : Rb) (s : Rl) : Rl := match r with
  | .ok d => (match s with
    | .ok ds => .ok (d :: ds)
    | .er x => .er x
    | .bad => .bad)
  | .er x => .er x
  | .bad => .bad
@[simp] theorem ev_cons (m : MB) (r : ML) (e : Env) : mCons m r e = (m e).cons (r e) := rfl
@[simp] theorem cons_ok (d : D) (ds : List D) : Rb.cons (.ok d) (.ok ds) = .ok (d :: ds) := rfl
def Rl.bn (r : Rl) (g : List D → Option D) : Rb := match r with
  | .ok ds => ofO (g ds)
  | .er x => .er x
  | .bad => .bad
@[simp] theorem ev_bn (g : List D → Option D) (m : ML) (e : Env) : mBN g m e = (m e).bn g := rfl
@[simp] theorem bn_ok (ds : List D) (g : List D → Option D) : Rl.bn (.ok ds) g = ofO (g ds) := rfl
def Rl.tup (r : Rl) : Rb := match r with
  | .ok ds => if colds ds = true then (if ds.length ≤ sizeLine then .ok (.tup ds) else .bad) else .bad
  | .er x => .er x
  | .bad => .bad
def Rl.lst (r : Rl) : Rb := match r with
  | .ok ds => if colds ds = true then (if ds.length ≤ sizeLine then .ok (.lst true ds) else .bad) else .bad
  | .er x => .er x
  | .bad => .bad
@[simp] theorem ev_tup (m : ML) (e : Env) : mTup m e = (m e).tup := rfl
@[simp] theorem ev_lst (m : ML) (e : Env) : mLst m e = (m e).lst := rfl
theorem tup_ok {ds : List D} (h1 : colds ds = true) (h2 : ds.length ≤ sizeLine) : Rl.tup (.ok ds) = .ok (.tup ds) := by simp [Rl.tup, h1, h2]
theorem lst_ok {ds : List D} (h1 : colds ds = true) (h2 : ds.length ≤ sizeLine) : Rl.lst (.ok ds) = .ok (.lst true ds) := by simp [Rl.lst, h1, h2]
theorem le_size {n : Nat} (h : n ≤ 100) : n ≤ sizeLine := Nat.le_trans h (by decide)
@[simp] theorem tup_ok2 {a b : D} (h1 : colds [a, b] = true) : Rl.tup (.ok [a, b]) = .ok (.tup [a, b]) := tup_ok h1 (le_size (by simp))
@[simp] theorem lst_ok0 : Rl.lst (.ok []) = .ok (.lst true []) := lst_ok rfl (le_size (by simp))
def Rb.cold (r : Rb) (e : Env) : Re := match r with
  | .ok d => if d.cold = true then .ok d e else .bad
  | .er x => .er x e
  | .bad => .bad
@[simp] theorem ev_cold (m : MB) (e : Env) : mCold m e = (m e).cold e := rfl
@[simp] theorem cold_int (i : Int) (e : Env) : Rb.cold (.ok (.int i)) e = .ok (.int i) e := rfl
@[simp] theorem cold_bl (i : Bool) (e : Env) : Rb.cold (.ok (.bl i)) e = .ok (.bl i) e := rfl
@[simp] theorem cold_str (i : Str) (e : Env) : Rb.cold (.ok (.str i)) e = .ok (.str i) e := rfl
@[simp] theorem cold_non (e : Env) : Rb.cold (.ok .non) e = .ok .non e := rfl
theorem cold_ok {d : D} (h : d.cold = true) (e : Env) : Rb.cold (.ok d) e = .ok d e := by simp [Rb.cold, h]
def Rb.up (r : Rb) (e : Env) : Re := match r with
  | .ok d => .ok d e
  | .er x => .er x e
  | .bad => .bad
@[simp] theorem ev_up (m : MB) (e : Env) : mUp m e = (m e).up e := rfl
@[simp] theorem up_ok (d : D) (e : Env) : Rb.up (.ok d) e = .ok d e := rfl
def oE : Option D → Env → Re
  | some z, e => .ok z e
  | none, _ => .bad
@[simp] theorem oE_some (z : D) (e : Env) : oE (some z) e = .ok z e := rfl
def Rb.own (r s : Rb) (g : D → D → Option D) (e : Env) : Re := match r with
  | .ok d => (match s with
    | .ok d2 => (match g d d2 with
      | some z => .ok z e
      | none => .bad)
    | .er x => .er x e
    | .bad => .bad)
  | .er x => .er x e
  | .bad => .bad
@[simp] theorem ev_own1 (g : D → D → Option D) (m n : MB) (e : Env) : mOwn1 g m n e = (m e).own (n e) g e := rfl
@[simp] theorem own_ok (d d' : D) (g : D → D → Option D) (e : Env) : Rb.own (.ok d) (.ok d') g e = oE (g d d') e := by
  unfold Rb.own oE
  simp only
  all_goals (split <;> simp_all)
def Rl.own (r : Rl) (g : List D → Option D) (e : Env) : Re := match r with
  | .ok ds => (match g ds with
    | some z => .ok z e
    | none => .bad)
  | .er x => .er x e
  | .bad => .bad
@[simp] theorem ev_ownN (g : List D → Option D) (m : ML) (e : Env) : mOwnN g m e = (m e).own g e := rfl
@[simp] theorem ownN_ok (ds : List D) (g : List D → Option D) (e : Env) : Rl.own (.ok ds) g e = oE (g ds) e := by
  unfold Rl.own oE
  simp only
  all_goals (split <;> simp_all)
def Rb.chain (r s t : Rb) (g g' : D → D → Option D) : Rb := r.bind fun d => s.bind fun d2 => match g d d2 with
  | some (.bl true) => t.bind fun d3 => ofO (g' d2 d3)
  | some (.bl false) => .ok (.bl false)
  | _ => .bad
@[simp] theorem ev_chain (g g' : D → D → Option D) (a b c : MB) (e : Env) : mChain g g' a b c e = (a e).chain (b e) (c e) g g' := rfl
theorem chain_ok {d d2 d3 : D} {g g' : D → D → Option D} {x y : Bool} (h : g d d2 = some (.bl x)) (h' : g' d2 d3 = some (.bl y)) : Rb.chain (.ok d) (.ok d2) (.ok d3) g g' = .ok (.bl (x && y)) := by
  unfold Rb.chain Rb.bind
  simp only [h]
  cases x <;> simp [Rb.bind, h', ofO]
/-! ### operators at values -/
section
variable {i j : Int}
@[simp] theorem gAdd_int : gAdd (.int i) (.int j) = some (.int (i + j)) := rfl
@[simp] theorem gAddI_int : gAddI (.int i) (.int j) = some (.int (i + j)) := rfl
@[simp] theorem gSub_int : G.gSub (.int i) (.int j) = some (.int (i - j)) := rfl
@[simp] theorem gMul_int (h : mulOk i j = true) : gMul (.int i) (.int j) = some (.int (i * j)) := by simp [gMul, iiC, h]
@[simp] theorem gDiv_int (h : divOk i j = true) : gDiv (.int i) (.int j) = some (.int (i / j)) := by simp [gDiv, iiC, h]
@[simp] theorem gMod_int (h : modOk i j = true) : gMod (.int i) (.int j) = some (.int (i % j)) := by simp [gMod, iiC, h]
@[simp] theorem gPow_int (h : powOk i j = true) : gPow (.int i) (.int j) = some (.int (i ^ j.toNat)) := by simp [gPow, iiC, h]
@[simp] theorem gLt_int : gLt (.int i) (.int j) = some (.bl (decide (i < j))) := rfl
@[simp] theorem gLe_int : gLe (.int i) (.int j) = some (.bl (decide (i ≤ j))) := rfl
@[simp] theorem gGt_int : gGt (.int i) (.int j) = some (.bl (decide (j < i))) := rfl
@[simp] theorem gGe_int : gGe (.int i) (.int j) = some (.bl (decide (j ≤ i))) := rfl
@[simp] theorem gNeg_int : gNeg (.int i) = some (.int (-i)) := rfl
@[simp] theorem gInt_int : gInt [.int i] = some (.int i) := rfl
@[simp] theorem gLen_lst (o : Bool) (ds : List D) : gLen [.lst o ds] = some (.int ds.length) := rfl
@[simp] theorem gLen_tup (ds : List D) : gLen [.tup ds] = some (.int ds.length) := rfl
theorem mul_l (h : i.natAbs < 2 ^ 64) : mulOk i j = true := by unfold mulOk; simp only [Bool.or_eq_true, decide_eq_true_eq]; omega
theorem mul_r (h : j.natAbs < 2 ^ 64) : mulOk i j = true := by unfold mulOk; simp only [Bool.or_eq_true, decide_eq_true_eq]; omega
theorem mod_p (h : 0 < j) : modOk i j = true := by unfold modOk; simpa using h
theorem div_p (h : 0 < j) (h2 : j < 2 ^ 64) : divOk i j = true := by
  unfold divOk
  simp only [Bool.and_eq_true, decide_eq_true_eq]
  refine ⟨h, ?_⟩
  have : j.natAbs < 2 ^ 64 := by omega
  have := (Nat.log2_lt (n := j.natAbs) (k := 64) (by omega)).mpr this
  omega
theorem pow_p (h : 0 ≤ j) (h1 : j ≤ 1000000) (h2 : i.natAbs < 2 ^ 64) : powOk i j = true := by unfold powOk; simp only [Bool.and_eq_true, decide_eq_true_eq]; omega
end
@[simp] theorem ixN40 : ixN 4 0 = some 0 := rfl
@[simp] theorem ixN41 : ixN 4 1 = some 1 := rfl
@[simp] theorem ixN42 : ixN 4 2 = some 2 := rfl
@[simp] theorem ixN43 : ixN 4 3 = some 3 := rfl
theorem cold_ints (ns : List Int) : (D.lst false (ns.map .int)).cold = true := by simp [D.cold, colds_ints]
/-! ### expressions that may change slots -/
def Re.e1 (r : Re) (g : D → Option D) : Re := r.bind fun d e1 => match g d with
  | some z => .ok z e1
  | none => .bad
@[simp] theorem ev_e1 (g : D → Option D) (m : ME) (e : Env) : mE1 g m e = (m e).e1 g := rfl
@[simp] theorem e1_ok (d : D) (e : Env) (g : D → Option D) : Re.e1 (.ok d e) g = oE (g d) e := by
  unfold Re.e1 Re.bind oE
  simp only
  all_goals (split <;> simp_all)
def Re.e2 (r : Re) (n : ME) (g : D → D → Option D) : Re := r.bind fun d e1 => (n e1).bind fun d' e2 => match g d d' with
  | some z => .ok z e2
  | none => .bad
def Re.e2' (d : D) (r : Re) (g : D → D → Option D) : Re := r.bind fun d' e2 => match g d d' with
  | some z => .ok z e2
  | none => .bad
@[simp] theorem ev_e2 (g : D → D → Option D) (m n : ME) (e : Env) : mE2 g m n e = (m e).e2 n g := rfl
@[simp] theorem e2_ok (d : D) (e : Env) (n : ME) (g : D → D → Option D) : Re.e2 (.ok d e) n g = Re.e2' d (n e) g := rfl
@[simp] theorem e2'_ok (d d' : D) (e : Env) (g : D → D → Option D) : Re.e2' d (.ok d' e) g = oE (g d d') e := by
  unfold Re.e2' Re.bind oE
  simp only
  all_goals (split <;> simp_all)
def Re.not (r : Re) : Re := r.bind fun d e1 => match d with
  | .bl b => .ok (.bl (!b)) e1
  | _ => .bad
@[simp] theorem ev_not (m : ME) (e : Env) : mNot m e = (m e).not := rfl
@[simp] theorem not_ok (b : Bool) (e : Env) : Re.not (.ok (.bl b) e) = .ok (.bl (!b)) e := rfl
def Re.and (r : Re) (n : ME) : Re := r.bind fun d e1 => match d with
  | .bl true => n e1
  | .bl false => .ok (.bl false) e1
  | _ => .bad
def Re.or (r : Re) (n : ME) : Re := r.bind fun d e1 => match d with
  | .bl true => .ok (.bl true) e1
  | .bl false => n e1
  | _ => .bad
@[simp] theorem ev_and (m n : ME) (e : Env) : mAnd m n e = (m e).and n := rfl
@[simp] theorem ev_or (m n : ME) (e : Env) : mOr m n e = (m e).or n := rfl
@[simp] theorem and_t (e : Env) (n : ME) : Re.and (.ok (.bl true) e) n = n e := rfl
@[simp] theorem and_f (e : Env) (n : ME) : Re.and (.ok (.bl false) e) n = .ok (.bl false) e := rfl
@[simp] theorem or_t (e : Env) (n : ME) : Re.or (.ok (.bl true) e) n = .ok (.bl true) e := rfl
@[simp] theorem or_f (e : Env) (n : ME) : Re.or (.ok (.bl false) e) n = n e := rfl
/-- the second part changes nothing and is a truth -/
theorem and_b {b c : Bool} {e : Env} {n : ME} (h : n e = .ok (.bl c) e) : Re.and (.ok (.bl b) e) n = .ok (.bl (b && c)) e := by cases b <;> simp [h]
theorem or_b {b c : Bool} {e : Env} {n : ME} (h : n e = .ok (.bl c) e) : Re.or (.ok (.bl b) e) n = .ok (.bl (b || c)) e := by cases b <;> simp [h]
def Re.iff (r : Re) (a b : ME) : Re := r.bind fun d e1 => match d with
  | .bl true => a e1
  | .bl false => b e1
  | _ => .bad
@[simp] theorem ev_if (c a b : ME) (e : Env) : mIf c a b e = (c e).iff a b := rfl
@[simp] theorem iff_t (e : Env) (a b : ME) : Re.iff (.ok (.bl true) e) a b = a e := rfl
@[simp] theorem iff_f (e : Env) (a b : ME) : Re.iff (.ok (.bl false) e) a b = b e := rfl
def oFrz (e : Env) (i : Nat) : Option (Option D) → Re
  | some (some d) => .ok d.frz (e.set i (some d.frz))
  | _ => .bad
@[simp] theorem ev_frz (i : Nat) (e : Env) : mFrz i e = oFrz e i e[i]? := rfl
@[simp] theorem oFrz_some (e : Env) (i : Nat) (d : D) : oFrz e i (some (some d)) = .ok d.frz (e.set i (some d.frz)) := rfl
def oMove (e : Env) (i : Nat) : Option (Option D) → Re
  | some (some d) => .ok d (e.set i none)
  | _ => .bad
@[simp] theorem ev_move (i : Nat) (e : Env) : mMove i e = oMove e i e[i]? := rfl
@[simp] theorem oMove_some (e : Env) (i : Nat) (d : D) : oMove e i (some (some d)) = .ok d (e.set i none) := rfl
def Re.fz (r : Re) : Re := match r with
  | .ok d e1 => .ok d.frz e1
  | .er x e1 => .er x e1
  | .bad => .bad
@[simp] theorem ev_fz (m : ME) (e : Env) : mFz m e = (m e).fz := rfl
@[simp] theorem fz_ok (d : D) (e : Env) : Re.fz (.ok d e) = .ok d.frz e := rfl
@[simp] theorem ev_anil (e : Env) : nNil e = .ok [] e := rfl
def Ra.cons (d : D) (r : Ra) : Ra := match r with
  | .ok ds e2 => .ok (d :: ds) e2
  | .er x e2 => .er x e2
  | .bad => .bad
def Re.acons (r : Re) (n : MA) : Ra := match r with
  | .ok d e1 => (n e1).cons d
  | .er x e1 => .er x e1
  | .bad => .bad
@[simp] theorem ev_acons (m : ME) (r : MA) (e : Env) : nCons m r e = (m e).acons r := by
  unfold nCons Re.acons Ra.cons
  cases m e <;> rfl
@[simp] theorem acons_ok (d : D) (e : Env) (r : MA) : Re.acons (.ok d e) r = (r e).cons d := rfl
@[simp] theorem ra_cons (d : D) (ds : List D) (e : Env) : Ra.cons d (.ok ds e) = .ok (d :: ds) e := rfl
def Ra.tup (r : Ra) : Re := match r with
  | .ok ds e1 => if ds.length ≤ sizeLine then .ok (.tup (frzs ds)) e1 else .bad
  | .er x e1 => .er x e1
  | .bad => .bad
def Ra.lst (r : Ra) : Re := match r with
  | .ok ds e1 => if ds.length ≤ sizeLine then .ok (.lst true ds) e1 else .bad
  | .er x e1 => .er x e1
  | .bad => .bad
@[simp] theorem ev_ntup (m : MA) (e : Env) : nTup m e = (m e).tup := rfl
@[simp] theorem ev_nlst (m : MA) (e : Env) : nLst m e = (m e).lst := rfl
theorem ntup_ok {ds : List D} (e : Env) (h : ds.length ≤ 100) : Ra.tup (.ok ds e) = .ok (.tup (frzs ds)) e := by simp [Ra.tup, le_size h]
theorem nlst_ok {ds : List D} (e : Env) (h : ds.length ≤ 100) : Ra.lst (.ok ds e) = .ok (.lst true ds) e := by simp [Ra.lst, le_size h]
def Ra.en (r : Ra) (g : List D → Option D) : Re := match r with
  | .ok ds e1 => (match g ds with
    | some z => .ok z e1
    | none => .bad)
  | .er x e1 => .er x e1
  | .bad => .bad
@[simp] theorem ev_en (g : List D → Option D) (m : MA) (e : Env) : mEN g m e = (m e).en g := rfl
@[simp] theorem en_ok (ds : List D) (e : Env) (g : List D → Option D) : Ra.en (.ok ds e) g = oE (g ds) e := by
  unfold Ra.en oE
  simp only
  all_goals (split <;> simp_all)
/-! ### statements -/
def Rs.seq (r : Rs) (n : MS) : Rs := match r with
  | .nx e1 => n e1
  | r => r
@[simp] theorem ev_seq (m n : MS) (e : Env) : sSeq m n e = (m e).seq n := rfl
@[simp] theorem seq_nx (e : Env) (n : MS) : Rs.seq (.nx e) n = n e := rfl
@[simp] theorem seq_rt (d : D) (e : Env) (n : MS) : Rs.seq (.rt d e) n = .rt d e := rfl
@[simp] theorem seq_bk (e : Env) (n : MS) : Rs.seq (.bk e) n = .bk e := rfl
@[simp] theorem seq_ct (e : Env) (n : MS) : Rs.seq (.ct e) n = .ct e := rfl
@[simp] theorem ev_next (e : Env) : sNext e = .nx e := rfl
def oN : Option Env → Rs
  | some e => .nx e
  | none => .bad
@[simp] theorem oN_some (e : Env) : oN (some e) = .nx e := rfl
def Re.asg (r : Re) (g : MG) : Rs := match r with
  | .ok d e1 => oN (g d e1)
  | .er x e1 => .er x e1
  | .bad => .bad
@[simp] theorem ev_asg (m : ME) (g : MG) (e : Env) : sAsg m g e = (m e).asg g := by
  unfold sAsg Re.asg oN
  cases m e <;> rfl
@[simp] theorem asg_ok (d : D) (e : Env) (g : MG) : Re.asg (.ok d e) g = oN (g d e) := rfl
@[simp] theorem ev_gN (i : Nat) (d : D) (e : Env) : gN i d e = if i < e.length then some (e.set i (some d)) else none := rfl
@[simp] theorem ev_gnil (e : Env) : gNil' [] e = some e := rfl
def oG : Option Env → MGs → List D → Option Env
  | some e1, r, ds => r ds e1
  | none, _, _ => none
@[simp] theorem ev_gcons (m : MG) (r : MGs) (d : D) (ds : List D) (e : Env) : gCons' m r (d :: ds) e = oG (m d e) r ds := by
  unfold gCons' oG
  simp only
  all_goals (split <;> simp_all)
@[simp] theorem oG_some (e : Env) (r : MGs) (ds : List D) : oG (some e) r ds = r ds e := rfl
@[simp] theorem ev_gT (n : Nat) (m : MGs) (ds : List D) (e : Env) : gT n m (.tup ds) e = if ds.length = n then m ds e else none := rfl
@[simp] theorem ev_gTl (n : Nat) (m : MGs) (o : Bool) (ds : List D) (e : Env) : gT n m (.lst o ds) e = if ds.length = n then m ds e else none := rfl
def Ra.par (r : Ra) (i j : Nat) : Rs := match r with
  | .ok [d, d2] e1 => if i < e1.length then (if j < e1.length then .nx ((e1.set i (some d)).set j (some d2)) else .bad) else .bad
  | .ok _ _ => .bad
  | .er x e1 => .er x e1
  | .bad => .bad
@[simp] theorem ev_par (i j : Nat) (m : MA) (e : Env) : sPar i j m e = (m e).par i j := rfl
@[simp] theorem par_ok (d d2 : D) (e : Env) (i j : Nat) : Ra.par (.ok [d, d2] e) i j = if i < e.length then (if j < e.length then .nx ((e.set i (some d)).set j (some d2)) else .bad) else .bad := rfl
def Re.br (r : Re) (a b : MS) : Rs := match r with
  | .ok (.bl true) e1 => a e1
  | .ok (.bl false) e1 => b e1
  | .ok _ _ => .bad
  | .er x e1 => .er x e1
  | .bad => .bad
@[simp] theorem ev_sif (c : ME) (a b : MS) (e : Env) : sIf c a b e = (c e).br a b := rfl
@[simp] theorem br_t (e : Env) (a b : MS) : Re.br (.ok (.bl true) e) a b = a e := rfl
@[simp] theorem br_f (e : Env) (a b : MS) : Re.br (.ok (.bl false) e) a b = b e := rfl
theorem br_b (c : Bool) (e : Env) (a b : MS) : Re.br (.ok (.bl c) e) a b = if c = true then a e else b e := by cases c <;> rfl
def Re.ret (r : Re) : Rs := match r with
  | .ok d e1 => .rt d e1
  | .er x e1 => .er x e1
  | .bad => .bad
@[simp] theorem ev_ret (m : ME) (e : Env) : sRet m e = (m e).ret := rfl
@[simp] theorem ret_ok (d : D) (e : Env) : Re.ret (.ok d e) = .rt d e := rfl
@[simp] theorem ev_retN (e : Env) : sRetN e = .rt .non e := rfl
@[simp] theorem ev_break (e : Env) : sBreak e = .bk e := rfl
@[simp] theorem ev_cont (e : Env) : sCont e = .ct e := rfl
def Re.drop (r : Re) : Rs := match r with
  | .ok _ e1 => .nx e1
  | .er x e1 => .er x e1
  | .bad => .bad
@[simp] theorem ev_drop (m : ME) (e : Env) : sDrop m e = (m e).drop := rfl
@[simp] theorem drop_ok (d : D) (e : Env) : Re.drop (.ok d e) = .nx e := rfl
def oSet (i : Nat) (d k : D) (e : Env) : Option (Option D) → Rs
  | some (some (.lst true ds)) => (match k with
        | .int k => (match ixN ds.length k with
          | some j => .nx (e.set i (some (.lst true (ds.set j d))))
          | none => .bad)
        | _ => .bad)
  | some (some (.dct true kvs)) => (match keyOf k with
        | some k => if kvs.length < sizeLine then .nx (e.set i (some (.dct true (putD kvs k d.frz)))) else .bad
        | none => .bad)
  | _ => .bad
def Rb.set (r : Rb) (i : Nat) (d : D) (e : Env) : Rs := match r with
  | .ok k => oSet i d k e e[i]?
  | .er x => (match e[i]? with
      | some (some _) => .er x e
      | _ => .bad)
  | .bad => .bad
def Re.set (r : Re) (i : Nat) (mi : MB) : Rs := match r with
  | .ok d e1 => (mi e1).set i d e1
  | .er x e1 => .er x e1
  | .bad => .bad
@[simp] theorem ev_set (i : Nat) (m : ME) (mi : MB) (e : Env) : sSet i m mi e = (m e).set i mi := by
  unfold sSet Re.set Rb.set oSet
  cases m e with
  | ok d e1 => simp only; all_goals (cases mi e1 <;> rfl)
  | _ => rfl
@[simp] theorem set_ok (d : D) (e : Env) (i : Nat) (mi : MB) : Re.set (.ok d e) i mi = (mi e).set i d e := rfl
@[simp] theorem rbset_ok (k d : D) (i : Nat) (e : Env) : Rb.set (.ok k) i d e = oSet i d k e e[i]? := rfl
def oJ (i : Nat) (d : D) (e : Env) (ds : List D) : Option Nat → Rs
  | some j => .nx (e.set i (some (.lst true (ds.set j d))))
  | none => .bad
@[simp] theorem oSet_lst (i : Nat) (d : D) (k : Int) (e : Env) (ds : List D) : oSet i d (.int k) e (some (some (.lst true ds))) = oJ i d e ds (ixN ds.length k) := by
  unfold oSet oJ
  rfl
@[simp] theorem oJ_some (i : Nat) (d : D) (e : Env) (ds : List D) (j : Nat) : oJ i d e ds (some j) = .nx (e.set i (some (.lst true (ds.set j d)))) := rfl
def oAug (i : Nat) (g : D → D → Option D) (m : ME) (e : Env) : Option (Option D) → Rs
  | some (some d) => if (flatD d).isSome = true then (match m e with
    | .ok d2 e1 => (match g d d2 with
      | some z => if i < e1.length then .nx (e1.set i (some z)) else .bad
      | none => .bad)
    | .er x e1 => .er x e1
    | .bad => .bad) else .bad
  | _ => .bad
@[simp] theorem ev_aug (i : Nat) (g : D → D → Option D) (m : ME) (e : Env) : sAug i g m e = oAug i g m e e[i]? := rfl
theorem aug_int {i : Nat} {m : ME} {e : Env} {a b : Int} (h : m e = .ok (.int b) e) (hi : i < e.length) : oAug i gAddI m e (some (some (.int a))) = .nx (e.set i (some (.int (a + b)))) := by
  unfold oAug
  simp only
  rw [if_pos (show (flatD (D.int a)).isSome = true from rfl), h]
  simp [gAddI, ii, hi]
def Ra.for_ (r : Ra) (g : MG) (b : MS) : Rs := match r with
  | .ok ds e1 => forN g b ds e1
  | .er x e1 => .er x e1
  | .bad => .bad
@[simp] theorem ev_for (m : MA) (g : MG) (b : MS) (e : Env) : sFor m g b e = (m e).for_ g b := rfl
@[simp] theorem for_ok (ds : List D) (e : Env) (g : MG) (b : MS) : Ra.for_ (.ok ds e) g b = forN g b ds e := rfl
def Rs.for_ (r : Rs) (g : MG) (b : MS) (ds : List D) : Rs := match r with
  | .nx e2 => forN g b ds e2
  | .ct e2 => forN g b ds e2
  | .bk e2 => .nx e2
  | r => r
def oF (o : Option Env) (g : MG) (b : MS) (ds : List D) : Rs := match o with
  | none => .bad
  | some e1 => (b e1).for_ g b ds
theorem forN_nil (g : MG) (b : MS) (e : Env) : forN g b [] e = .nx e := rfl
theorem forN_cons (g : MG) (b : MS) (d : D) (ds : List D) (e : Env) : forN g b (d :: ds) e = oF (g d e) g b ds := by
  unfold oF Rs.for_
  conv => lhs; unfold forN
  all_goals (cases g d e with
  | none => rfl
  | some e1 => simp only; all_goals (cases b e1 <;> rfl))
@[simp] theorem oF_some (e : Env) (g : MG) (b : MS) (ds : List D) : oF (some e) g b ds = (b e).for_ g b ds := rfl
@[simp] theorem rsfor_nx (e : Env) (g : MG) (b : MS) (ds : List D) : Rs.for_ (.nx e) g b ds = forN g b ds e := rfl
@[simp] theorem rsfor_ct (e : Env) (g : MG) (b : MS) (ds : List D) : Rs.for_ (.ct e) g b ds = forN g b ds e := rfl
@[simp] theorem rsfor_bk (e : Env) (g : MG) (b : MS) (ds : List D) : Rs.for_ (.bk e) g b ds = .nx e := rfl
@[simp] theorem rsfor_rt (d : D) (e : Env) (g : MG) (b : MS) (ds : List D) : Rs.for_ (.rt d e) g b ds = .rt d e := rfl
/-- a loop by an invariant: each turn goes on -/
theorem forN_inv {g : MG} {b : MS} (I : List D → Env → Prop) (h : ∀ d ds e, I (d :: ds) e → ∃ e1 e2, g d e = some e1 ∧ (b e1 = .nx e2 ∨ b e1 = .ct e2) ∧ I ds e2) : ∀ ds e, I ds e → ∃ e', forN g b ds e = .nx e' ∧ I [] e'
  | [], e, i => ⟨e, rfl, i⟩
  | d :: ds, e, i => by
    obtain ⟨e1, e2, h1, h2, h3⟩ := h d ds e i
    obtain ⟨e', h4, h5⟩ := forN_inv I h ds e2 h3
    refine ⟨e', ?_, h5⟩
    rw [forN_cons, h1, oF_some]
    rcases h2 with h2 | h2 <;> rw [h2] <;> simpa using h4
/-! ### while -/
theorem sWhile_f {c : ME} {b : MS} {e e1 : Env} (h : c e = .ok (.bl false) e1) : sWhile c b e = .nx e1 := by
  have : whileN c b 1 e = .nx e1 := by simp [whileN, h]
  rw [sWhile_of (n := 1) (by rw [this]; simp), this]
theorem sWhile_t {c : ME} {b : MS} {e e1 e2 : Env} (h : c e = .ok (.bl true) e1) (h2 : b e1 = .nx e2) (h3 : sWhile c b e2 ≠ .bad) : sWhile c b e = sWhile c b e2 := by
  obtain ⟨n, hn⟩ := sWhile_ex h3
  have : whileN c b (n + 1) e = whileN c b n e2 := by simp [whileN, h, h2]
  rw [sWhile_of (n := n + 1) (by rw [this, hn]; exact h3), this, hn]
/-- a loop by a measure -/
theorem sWhile_inv {c : ME} {b : MS} (I : Nat → Env → Prop) (h : ∀ k e, I k e → ∃ e1, (c e = .ok (.bl true) e1 ∧ ∃ e2 k', k' < k ∧ b e1 = .nx e2 ∧ I k' e2) ∨ (c e = .ok (.bl false) e1 ∧ I 0 e1)) : ∀ k e, I k e → ∃ e', sWhile c b e = .nx e' ∧ I 0 e' := fun k => by
  induction k using Nat.strongRecOn with
  | _ k ih =>
    intro e i
    obtain ⟨e1, h1⟩ := h k e i
    rcases h1 with ⟨h1, e2, k', hk, h2, i2⟩ | ⟨h1, i1⟩
    · obtain ⟨e', h3, i3⟩ := ih k' hk e2 i2
      exact ⟨e', by rw [sWhile_t h1 h2 (by rw [h3]; simp), h3], i3⟩
    · exact ⟨e1, sWhile_f h1, i1⟩
theorem sWhile_to {c : ME} {b : MS} (I : Nat → Env → Prop) (J : Env → Prop) (h : ∀ k e, I k e → (∃ e1 e2 k', c e = .ok (.bl true) e1 ∧ k' < k ∧ b e1 = .nx e2 ∧ I k' e2) ∨ (∃ e1, c e = .ok (.bl false) e1 ∧ J e1)) : ∀ k e, I k e → ∃ e', sWhile c b e = .nx e' ∧ J e' := fun k => by
  induction k using Nat.strongRecOn with
  | _ k ih =>
    intro e i
    rcases h k e i with ⟨e1, e2, k', h1, hk, h2, i2⟩ | ⟨e1, h1, i1⟩
    · obtain ⟨e', h3, i3⟩ := ih k' hk e2 i2
      exact ⟨e', by rw [sWhile_t h1 h2 (by rw [h3]; simp), h3], i3⟩
    · exact ⟨e1, sWhile_f h1, i1⟩
/-! ### iterables -/
def Ra.rng1 (r : Ra) : Ra := match r with
  | .ok [.int j] e1 => if (decide (-(2 ^ 62) ≤ j) && decide (j < 2 ^ 62)) = true then .ok (rangeD 0 j.toNat) e1 else .bad
  | .ok _ _ => .bad
  | .er x e1 => .er x e1
  | .bad => .bad
@[simp] theorem ev_rng1 (m : MA) (e : Env) : mRng1 m e = (m e).rng1 := rfl
theorem rng1_ok {j : Int} {e : Env} (h : 0 ≤ j) (h2 : j < 2 ^ 62) : Ra.rng1 (.ok [.int j] e) = .ok (rangeD 0 j.toNat) e := by
  have : (decide (-(2 ^ 62) ≤ j) && decide (j < 2 ^ 62)) = true := by simp only [Bool.and_eq_true, decide_eq_true_eq]; omega
  simp only [Ra.rng1, this, if_true]
def oIt : Option (List D) → Env → Ra
  | some ds, e => .ok ds e
  | none, _ => .bad
@[simp] theorem oIt_some (ds : List D) (e : Env) : oIt (some ds) e = .ok ds e := rfl
def Re.it (r : Re) : Ra := match r with
  | .ok d e1 => oIt (itemsD d) e1
  | .er x e1 => .er x e1
  | .bad => .bad
@[simp] theorem ev_it (m : ME) (e : Env) : mIt m e = (m e).it := by
  unfold mIt Re.it oIt
  cases m e with
  | ok d e1 => simp only; cases itemsD d <;> rfl
  | _ => rfl
@[simp] theorem it_ok (d : D) (e : Env) : Re.it (.ok d e) = oIt (itemsD d) e := rfl
@[simp] theorem items_lst (o : Bool) (ds : List D) : itemsD (.lst o ds) = some (frzs ds) := rfl
@[simp] theorem items_tup (ds : List D) : itemsD (.tup ds) = some ds := rfl
def Ra.enum (r : Ra) : Ra := match r with
  | .ok [.lst _ ds] e1 => .ok (enumD (frzs ds)) e1
  | .ok [.tup ds] e1 => .ok (enumD ds) e1
  | .ok _ _ => .bad
  | .er x e1 => .er x e1
  | .bad => .bad
@[simp] theorem ev_enum (m : MA) (e : Env) : mEnum m e = (m e).enum := rfl
@[simp] theorem enum_lst (o : Bool) (ds : List D) (e : Env) : Ra.enum (.ok [.lst o ds] e) = .ok (enumD (frzs ds)) e := rfl
@[simp] theorem enum_tup (ds : List D) (e : Env) : Ra.enum (.ok [.tup ds] e) = .ok (enumD ds) e := rfl
def Ra.zip (r : Ra) : Ra := match r with
  | .ok [.lst _ ds, .lst _ es] e1 => .ok (zipD (frzs ds) (frzs es)) e1
  | .ok [.tup ds, .tup es] e1 => .ok (zipD ds es) e1
  | .ok _ _ => .bad
  | .er x e1 => .er x e1
  | .bad => .bad
@[simp] theorem ev_zip (m : MA) (e : Env) : mZip m e = (m e).zip := rfl
@[simp] theorem zip_lst (o p : Bool) (ds es : List D) (e : Env) : Ra.zip (.ok [.lst o ds, .lst p es] e) = .ok (zipD (frzs ds) (frzs es)) e := rfl
@[simp] theorem zip_tup (ds es : List D) (e : Env) : Ra.zip (.ok [.tup ds, .tup es] e) = .ok (zipD ds es) e := rfl
/-! ### comprehensions -/
@[simp] theorem ev_yes (e : Env) : mYes e = .ok (.bl true) e := rfl
def Ra.lc2 (r : Ra) : Re := match r with
  | .ok zs e2 => .ok (.lst true zs) e2
  | _ => .bad
def Ra.lc (r : Ra) (own : List Nat) (g : MG) (mt me : ME) : Re := match r with
  | .ok ds e1 => (compN own g mt me ds e1 []).lc2
  | .er x e1 => .er x e1
  | .bad => .bad
@[simp] theorem ev_lc (mi : MA) (own : List Nat) (g : MG) (mt me : ME) (e : Env) : mLc mi own g mt me e = (mi e).lc own g mt me := by
  unfold mLc Ra.lc Ra.lc2
  cases mi e <;> rfl
@[simp] theorem lc_ok (ds : List D) (e : Env) (own : List Nat) (g : MG) (mt me : ME) : Ra.lc (.ok ds e) own g mt me = (compN own g mt me ds e []).lc2 := rfl
@[simp] theorem lc2_ok (zs : List D) (e : Env) : Ra.lc2 (.ok zs e) = .ok (.lst true zs) e := rfl
theorem compN_inv {own : List Nat} {g : MG} {mt me : ME} (I : List D → Env → List D → Prop) (h : ∀ d ds e acc, I (d :: ds) e acc → ∃ e1 e2 z e3, g d (wipeE e own) = some e1 ∧ mt e1 = .ok (.bl true) e2 ∧ me e2 = .ok z e3 ∧ acc.length < sizeLine ∧ I ds e3 (acc ++ [z])) :
    ∀ ds e acc, I ds e acc → ∃ zs e', compN own g mt me ds e acc = .ok zs (wipeE e' own) ∧ I [] e' zs
  | [], e, acc, i => ⟨acc, e, rfl, i⟩
  | d :: ds, e, acc, i => by
    obtain ⟨e1, e2, z, e3, h1, h2, h3, h4, h5⟩ := h d ds e acc i
    obtain ⟨zs, e', h6, h7⟩ := compN_inv I h ds e3 _ h5
    exact ⟨zs, e', by simp only [compN, h1, h2, h3, h4, if_true, h6], h7⟩
/-- nothing changed by the turns: a map -/
theorem compN_map {own : List Nat} {g : MG} {me : ME} {e : Env} (f : D → D) (P : D → Prop) (hw : wipeE e own = e) (h : ∀ d, P d → ∃ e1 e3, g d e = some e1 ∧ me e1 = .ok (f d) e3 ∧ wipeE e3 own = e) :
    ∀ (ds : List D) (acc : List D) (e0 : Env), wipeE e0 own = e → (∀ d ∈ ds, P d) → acc.length + ds.length ≤ sizeLine → compN own g mYes me ds e0 acc = .ok (acc ++ ds.map f) e
  | [], acc, e0, h0, _, _ => by simp [compN, h0]
  | d :: ds, acc, e0, h0, hP, hl => by
    obtain ⟨e1, e3, h1, h2, h3⟩ := h d (hP d List.mem_cons_self)
    have ih := compN_map f P hw h ds (acc ++ [f d]) e3 h3 (fun x hx => hP x (List.mem_cons_of_mem _ hx)) (by simp only [List.length_append, List.length_cons, List.length_nil] at hl ⊢; omega)
    have hl' : acc.length < sizeLine := by simp only [List.length_cons] at hl; omega
    simp only [compN, h0, h1, ev_yes, h2, hl', if_true, ih]
    simp
/-! ### classes -/
section
variable {cs : List Addr}
@[simp] theorem isi_lt_lst (o : Bool) (ds : List D) : gIsi cs [.ty "list", .ty "tuple"] (.lst o ds) = some (.bl true) := rfl
@[simp] theorem isi_lt_tup (ds : List D) : gIsi cs [.ty "list", .ty "tuple"] (.tup ds) = some (.bl true) := rfl
@[simp] theorem isi_lt_str (x : Str) : gIsi cs [.ty "list", .ty "tuple"] (.str x) = some (.bl false) := rfl
@[simp] theorem isi_lt_int (x : Int) : gIsi cs [.ty "list", .ty "tuple"] (.int x) = some (.bl false) := rfl
@[simp] theorem isi_lt_bl (x : Bool) : gIsi cs [.ty "list", .ty "tuple"] (.bl x) = some (.bl false) := rfl
@[simp] theorem isi_lt_non : gIsi cs [.ty "list", .ty "tuple"] .non = some (.bl false) := rfl
@[simp] theorem isi_l_lst (o : Bool) (ds : List D) : gIsi cs [.ty "list"] (.lst o ds) = some (.bl true) := rfl
@[simp] theorem isi_l_tup (ds : List D) : gIsi cs [.ty "list"] (.tup ds) = some (.bl false) := rfl
@[simp] theorem isi_t_lst (o : Bool) (ds : List D) : gIsi cs [.ty "tuple"] (.lst o ds) = some (.bl false) := rfl
@[simp] theorem isi_t_tup (ds : List D) : gIsi cs [.ty "tuple"] (.tup ds) = some (.bl true) := rfl
@[simp] theorem isi_i_int (x : Int) : gIsi cs [.ty "int"] (.int x) = some (.bl true) := rfl
@[simp] theorem isi_i_bl (x : Bool) : gIsi cs [.ty "int"] (.bl x) = some (.bl true) := rfl
@[simp] theorem isi_i_str (x : Str) : gIsi cs [.ty "int"] (.str x) = some (.bl false) := rfl
@[simp] theorem isi_i_non : gIsi cs [.ty "int"] .non = some (.bl false) := rfl
@[simp] theorem isi_b_int (x : Int) : gIsi cs [.ty "bool"] (.int x) = some (.bl false) := rfl
@[simp] theorem isi_b_bl (x : Bool) : gIsi cs [.ty "bool"] (.bl x) = some (.bl true) := rfl
@[simp] theorem isi_s_str (x : Str) : gIsi cs [.ty "str"] (.str x) = some (.bl true) := rfl
@[simp] theorem isi_s_int (x : Int) : gIsi cs [.ty "str"] (.int x) = some (.bl false) := rfl
@[simp] theorem isi_bilt_str (x : Str) : gIsi cs [.ty "bool", .ty "int", .ty "list", .ty "tuple"] (.str x) = some (.bl false) := rfl
end
@[simp] theorem frz_int (i : Int) : (D.int i).frz = .int i := rfl
@[simp] theorem frz_str (i : Str) : (D.str i).frz = .str i := rfl
@[simp] theorem frz_bl (i : Bool) : (D.bl i).frz = .bl i := rfl
@[simp] theorem frz_non : D.non.frz = .non := rfl
@[simp] theorem frz_lst (o : Bool) (ds : List D) : (D.lst o ds).frz = .lst false (frzs ds) := rfl
@[simp] theorem frz_tup (ds : List D) : (D.tup ds).frz = .tup (frzs ds) := rfl
@[simp] theorem frzs_nil : frzs [] = [] := rfl
@[simp] theorem frzs_cons (d : D) (ds : List D) : frzs (d :: ds) = d.frz :: frzs ds := rfl
@[simp] theorem colds_nil : colds [] = true := rfl
@[simp] theorem colds_cons (d : D) (ds : List D) : colds (d :: ds) = (d.cold && colds ds) := rfl
@[simp] theorem cold_i (i : Int) : (D.int i).cold = true := rfl
@[simp] theorem cold_s (i : Str) : (D.str i).cold = true := rfl
@[simp] theorem cold_b (i : Bool) : (D.bl i).cold = true := rfl
@[simp] theorem cold_n : D.non.cold = true := rfl
@[simp] theorem cold_t (ds : List D) : (D.tup ds).cold = colds ds := rfl
@[simp] theorem cold_l (o : Bool) (ds : List D) : (D.lst o ds).cold = (!o && colds ds) := rfl
mutual
theorem frz_id : ∀ {d : D}, d.cold = true → d.frz = d
  | .non, _ => rfl
  | .bl _, _ => rfl
  | .int _, _ => rfl
  | .str _, _ => rfl
  | .cst _, _ => rfl
  | .tup xs, h => by rw [frz_tup, frzs_id h]
  | .lst o xs, h => by
    simp only [cold_l, Bool.and_eq_true, Bool.not_eq_true'] at h
    rw [frz_lst, frzs_id h.2, h.1]
  | .dct o xs, h => by
    have h' : (!o && coldk xs) = true := h
    simp only [Bool.and_eq_true, Bool.not_eq_true'] at h'
    show D.dct false (frzk xs) = _
    rw [frzk_id h'.2, h'.1]
  | .ins o C xs, h => by
    have h' : (!o && coldf xs) = true := h
    simp only [Bool.and_eq_true, Bool.not_eq_true'] at h'
    show D.ins false C (frzf xs) = _
    rw [frzf_id h'.2, h'.1]
theorem frzs_id : ∀ {ds : List D}, colds ds = true → frzs ds = ds
  | [], _ => rfl
  | d :: ds, h => by
    simp only [colds_cons, Bool.and_eq_true] at h
    rw [frzs_cons, frz_id h.1, frzs_id h.2]
theorem frzk_id : ∀ {ds : List (Key × D)}, coldk ds = true → frzk ds = ds
  | [], _ => rfl
  | (k, d) :: ds, h => by
    have h' : (d.cold && coldk ds) = true := h
    simp only [Bool.and_eq_true] at h'
    show (k, d.frz) :: frzk ds = _
    rw [frz_id h'.1, frzk_id h'.2]
theorem frzf_id : ∀ {ds : List (Str × D)}, coldf ds = true → frzf ds = ds
  | [], _ => rfl
  | (k, d) :: ds, h => by
    have h' : (d.cold && coldf ds) = true := h
    simp only [Bool.and_eq_true] at h'
    show (k, d.frz) :: frzf ds = _
    rw [frz_id h'.1, frzf_id h'.2]
end
/-! ### calls -/
def Rc.p (r : Rc) (ds : List D) : Rb := match r with
  | .ok d _ => if keepR ds d = true then .ok d else .bad
  | .er x _ => if keepX ds x = true then .er x else .bad
  | .bad => .bad
def Rl.callP (r : Rl) (n : Nat) (f : Fn) : Rb := match r with
  | .ok ds => if ds.length = n then (f (frzs ds)).p ds else .bad
  | .er x => .er x
  | .bad => .bad
@[simp] theorem ev_callP (n : Nat) (f : Fn) (m : ML) (e : Env) : mCallP n f m e = (m e).callP n f := by
  unfold mCallP Rl.callP Rc.p
  cases m e with
  | ok ds => simp only; all_goals (split <;> rfl)
  | _ => rfl
theorem callP_ok {ds ds' : List D} {n : Nat} {f : Fn} {d : D} (hn : ds.length = n) (h : f (frzs ds) = .ok d ds') (hk : keepR ds d = true) : Rl.callP (.ok ds) n f = .ok d := by simp [Rl.callP, hn, h, Rc.p, hk]
def Rc.f (r : Rc) (e : Env) : Re := match r with
  | .ok d _ => .ok d e
  | .er x _ => .er x e
  | .bad => .bad
def Ra.callF (r : Ra) (n : Nat) (f : Fn) : Re := match r with
  | .ok ds e1 => if ds.length = n then (f (frzs ds)).f e1 else .bad
  | .er x e1 => .er x e1
  | .bad => .bad
@[simp] theorem ev_callF (n : Nat) (f : Fn) (m : MA) (e : Env) : mCallF n f m e = (m e).callF n f := by
  unfold mCallF Ra.callF Rc.f
  cases m e with
  | ok ds e1 => simp only; all_goals (split <;> rfl)
  | _ => rfl
theorem callF_ok {ds ds' : List D} {n : Nat} {f : Fn} {d : D} {e : Env} (hn : ds.length = n) (h : f (frzs ds) = .ok d ds') : Ra.callF (.ok ds e) n f = .ok d e := by simp [Ra.callF, hn, h, Rc.f]
/-- a call that lends slot i -/
theorem callM_ok {n i : Nat} {f : Fn} {m : MA} {e e1 : Env} {dz d0 d0' d : D} {ds dr : List D} (h0 : e[i]? = some (some dz)) (hm : m e = .ok ds e1) (hn : ds.length + 1 = n) (h1 : e1[i]? = some (some d0)) (hf : f (d0 :: frzs ds) = .ok d (d0' :: dr)) : mCallM anyD n f i m e = .ok d (e1.set i (some d0')) := by
  unfold mCallM
  simp only [h0, anyD, hm, hn, h1, hf, if_true]
/-- .. whose arguments change nothing -/
theorem callM_eq {n i : Nat} {f : Fn} {m : MA} {e : Env} {d0 d0' d : D} {ds dr : List D} (h0 : e[i]? = some (some d0)) (hm : m e = .ok ds e) (hn : ds.length + 1 = n) (hf : f (d0 :: frzs ds) = .ok d (d0' :: dr)) : mCallM anyD n f i m e = .ok d (e.set i (some d0')) := callM_ok h0 hm hn h0 hf
theorem append_ok {i : Nat} {m : ME} {e e1 : Env} {o : Bool} {ds0 ds : List D} {d : D} (h0 : e[i]? = some (some (.lst o ds0))) (hm : m e = .ok d e1) (h1 : e1[i]? = some (some (.lst true ds))) (hl : ds.length < sizeLine) : mAppend i m e = .ok .non (e1.set i (some (.lst true (ds ++ [d])))) := by
  unfold mAppend
  simp only [h0, hm, h1, hl, if_true]
theorem gEq_str {a b : Str} (h1 : PyData.canLay0 (.str a) = true) (h2 : PyData.canLay0 (.str b) = true) : gEq (.str a) (.str b) = some (.bl (decide (a = b))) := by
  rw [gEq_of (by simpa [okD] using h1) (by simpa [okD] using h2)]
  simp only [py, PyData.eqv]
  congr 2
def oFld (i : Nat) (Cs : List Addr) (f : Str) (d : D) (e : Env) : Option (Option D) → Rs
  | some (some (.ins true C fs)) => if C ∈ Cs then (if fs.length < 1000 then .nx (e.set i (some (.ins true C (putFD f d fs)))) else .bad) else .bad
  | _ => .bad
def Re.fld (r : Re) (i : Nat) (Cs : List Addr) (f : Str) : Rs := match r with
  | .ok d e1 => oFld i Cs f d e1 e1[i]?
  | .er x e1 => .er x e1
  | .bad => .bad
@[simp] theorem ev_fldm (i : Nat) (Cs : List Addr) (f : Str) (m : ME) (e : Env) : sFldm i Cs f m e = (m e).fld i Cs f := by
  unfold sFldm Re.fld oFld
  cases m e <;> rfl
@[simp] theorem fld_ok (d : D) (e : Env) (i : Nat) (Cs : List Addr) (f : Str) : Re.fld (.ok d e) i Cs f = oFld i Cs f d e e[i]? := rfl
theorem oFld_ok {i : Nat} {Cs : List Addr} {f : Str} {d : D} {e : Env} {C : Addr} {fs : List (Str × D)} (h : C ∈ Cs) (hl : fs.length < 1000) : oFld i Cs f d e (some (some (.ins true C fs))) = .nx (e.set i (some (.ins true C (putFD f d fs)))) := by simp [oFld, h, hl]
def Rb.recv (r : Rb) (C : Addr) (mn : Str) : Rb := match r with
  | .ok d => if isRecv C mn d = true then .ok d else .bad
  | .er x => .er x
  | .bad => .bad
@[simp] theorem ev_recv (C : Addr) (mn : Str) (m : MB) (e : Env) : mRecv C mn m e = (m e).recv C mn := rfl
theorem recv_ok {d : D} {C : Addr} {mn : Str} (h : isRecv C mn d = true) : Rb.recv (.ok d) C mn = .ok d := by simp [Rb.recv, h]
def Re.recv (r : Re) (C : Addr) (mn : Str) : Re := match r with
  | .ok d e1 => if isRecv C mn d = true then .ok d e1 else .bad
  | .er x e1 => .er x e1
  | .bad => .bad
@[simp] theorem ev_nrecv (C : Addr) (mn : Str) (m : ME) (e : Env) : nRecv C mn m e = (m e).recv C mn := rfl
theorem nrecv_ok {d : D} {e : Env} {C : Addr} {mn : Str} (h : isRecv C mn d = true) : Re.recv (.ok d e) C mn = .ok d e := by simp [Re.recv, h]
def Rc.mkP (r : Rc) (ds : List D) (e : Env) : Re := match r with
  | .ok .non (d0 :: _) => if keepR ds d0 = true then .ok d0 e else .bad
  | .er x _ => if keepX ds x = true then .er x e else .bad
  | _ => .bad
def Rl.mk (r : Rl) (C : Addr) (n : Nat) (f : Fn) (e : Env) : Re := match r with
  | .ok ds => if ds.length + 1 = n then (f (.ins true C [] :: frzs ds)).mkP ds e else .bad
  | .er x => .er x e
  | .bad => .bad
@[simp] theorem ev_makeP (C : Addr) (n : Nat) (f : Fn) (m : ML) (e : Env) : mMakeP C n f m e = (m e).mk C n f e := by
  unfold mMakeP Rl.mk Rc.mkP
  cases m e with
  | ok ds => simp only; all_goals (split <;> rfl)
  | _ => rfl
theorem makeP_ok {ds dr : List D} {C : Addr} {n : Nat} {f : Fn} {e : Env} {d0 : D} (hn : ds.length + 1 = n) (h : f (.ins true C [] :: frzs ds) = .ok .non (d0 :: dr)) (hk : keepR ds d0 = true) : Rl.mk (.ok ds) C n f e = .ok d0 e := by simp [Rl.mk, hn, h, Rc.mkP, hk]
def Rc.mkF (r : Rc) (e : Env) : Re := match r with
  | .ok .non (d0 :: _) => .ok d0 e
  | .er x _ => .er x e
  | _ => .bad
def Ra.mk (r : Ra) (C : Addr) (n : Nat) (f : Fn) : Re := match r with
  | .ok ds e1 => if ds.length + 1 = n then (f (.ins true C [] :: frzs ds)).mkF e1 else .bad
  | .er x e1 => .er x e1
  | .bad => .bad
@[simp] theorem ev_makeF (C : Addr) (n : Nat) (f : Fn) (m : MA) (e : Env) : mMakeF C n f m e = (m e).mk C n f := by
  unfold mMakeF Ra.mk Rc.mkF
  cases m e with
  | ok ds e1 => simp only; all_goals (split <;> rfl)
  | _ => rfl
theorem makeF_ok {ds dr : List D} {C : Addr} {n : Nat} {f : Fn} {e : Env} {d0 : D} (hn : ds.length + 1 = n) (h : f (.ins true C [] :: frzs ds) = .ok .non (d0 :: dr)) : Ra.mk (.ok ds e) C n f = .ok d0 e := by simp [Ra.mk, hn, h, Rc.mkF]
def Rb.appT (r : Rb) (e : Env) : Re := match r with
  | .ok _ => .ok .non e
  | _ => .bad
def Re.appT (r : Re) (ma : MB) : Re := match r with
  | .ok (.lst true ds) e1 => if ds.length < sizeLine then (ma e1).appT e1 else .bad
  | .er x e1 => .er x e1
  | _ => .bad
@[simp] theorem ev_appT (no : ME) (ma : MB) (e : Env) : mAppT no ma e = (no e).appT ma := by
  unfold mAppT Re.appT Rb.appT
  rfl
theorem appT_ok {ds : List D} {e : Env} {ma : MB} {d : D} (h : ds.length < sizeLine) (hm : ma e = .ok d) : Re.appT (.ok (.lst true ds) e) ma = .ok .non e := by simp [Re.appT, h, hm, Rb.appT]
/-! ### two lists side by side -/
inductive All2 {α β : Type} (R : α → β → Prop) : List α → List β → Prop
  | nil : All2 R [] []
  | cons {a b as bs} (h : R a b) (t : All2 R as bs) : All2 R (a :: as) (b :: bs)
theorem All2.length {α β : Type} {R : α → β → Prop} {as : List α} {bs : List β} (h : All2 R as bs) : as.length = bs.length := by
  induction h with
  | nil => rfl
  | cons _ _ ih => simp [ih]
theorem All2.app {α β : Type} {R : α → β → Prop} {as as' : List α} {bs bs' : List β} (h : All2 R as bs) (h' : All2 R as' bs') : All2 R (as ++ as') (bs ++ bs') := by
  induction h with
  | nil => exact h'
  | cons a _ ih => exact .cons a ih
theorem All2.imp {α β : Type} {R S : α → β → Prop} {as : List α} {bs : List β} (h : All2 R as bs) (k : ∀ a b, R a b → S a b) : All2 S as bs := by
  induction h with
  | nil => exact .nil
  | cons a _ ih => exact .cons (k _ _ a) ih
theorem cold_mem {x : D} : ∀ {l : List D}, colds l = true → x ∈ l → x.cold = true
  | [], _, h => by cases h
  | y :: ys, hc, h => by
    simp only [colds_cons, Bool.and_eq_true] at hc
    rcases List.mem_cons.mp h with rfl | h
    · exact hc.1
    · exact cold_mem hc.2 h
theorem size_big : 1000000 ≤ sizeLine := by decide
/-! ### the end of a body -/
def oK (r : Option (List D)) (d : D) : Rc := match r with
  | some ds' => .ok d ds'
  | none => .bad
@[simp] theorem oK_some (ds : List D) (d : D) : oK (some ds) d = .ok d ds := rfl
theorem spec_rt {n : Nat} {modes : List Bool} {mb : MS} {ds : List D} {d : D} {e : Env} (h : mb (startE n ds) = .rt d e) : specOf n modes mb ds = oK (fin modes ds e) d := by
  unfold specOf oK
  rw [h]
  all_goals (first | done | (simp only; all_goals (split <;> simp_all)) | (split <;> simp_all))
theorem spec_nx {n : Nat} {modes : List Bool} {mb : MS} {ds : List D} {e : Env} (h : mb (startE n ds) = .nx e) : specOf n modes mb ds = oK (fin modes ds e) .non := by
  unfold specOf oK
  rw [h]
  all_goals (first | done | (simp only; all_goals (split <;> simp_all)) | (split <;> simp_all))
end G
set_option Elab.async false
set_option linter.all false
set_option maxRecDepth 100000
set_option maxHeartbeats 4000000
/-! a head's Hook with facts of one's own -/
namespace G
open PySem L2
def obsX (n : Nat) (fa : List He.Fa) (fn : List He.DefD) (xb : Frag → Bool) (g : Addr → Option Obj) : He.AlD × Bool := (He.obsDG n fa fn g, xb (He.frG g (He.asD g n)))
def hookX (n : Nat) (fa : List He.Fa) (fn : List He.DefD) (xb : Frag → Bool) : PySem.W.Hook where
  α := He.AlD × Bool
  obs := fun s => obsX n fa fn xb s.heap.get?
  val := fun _ => (He.valD fn, true)
  says := fun _ h => ∃ K : Frag, K.In h ∧ He.SaysD fa fn K ∧ xb K = true
  of := fun _ _ e => ⟨_, He.frG_in, congrArg Prod.fst e, congrArg Prod.snd e⟩
  keeps := fun _ _ _ ⟨K, hK, c⟩ k => ⟨K, PySem.W.Frag.In.keeps hK k, c⟩
theorem obsX_eq {n : Nat} {fa : List He.Fa} {fn : List He.DefD} {xb : Frag → Bool} {g : Addr → Option Obj} {s : Shared} (h : ∀ a, g a = s.heap.get? a) : obsX n fa fn xb g = (hookX n fa fn xb).obs s := by
  have e : g = s.heap.get? := funext h
  rw [e] <;> rfl
end G
set_option Elab.async false
set_option linter.all false
set_option maxRecDepth 100000
set_option maxHeartbeats 4000000
namespace G
open PySem L2
/-! own classes by a reckoning -/
def clsB (K : Frag) (C : Addr) : Bool := PySem.W.plainGet K C Str.empty && (PySem.W.hasDictIn K C && (PySem.W.plainOver K C && (He.eqO (PySem.W.findIn K (.ref C) "__setattr__") (some (some (.builtin "object.__setattr__"))) &&
  (He.eqO (PySem.W.findIn K (.ref C) "__class__") (some (some (.builtin "object.__class__"))) && (He.eqO (PySem.W.specialIn K (.builtin "object.__class__") "__get__") (some (some (.builtin "getset_descriptor.__get__"))) &&
  (decide (PySem.W.takesIn K (.builtin "object.__class__") = some true) && decide (PySem.W.mroIn K C (.type "object") = some true)))))))
theorem clsB_ok {K : Frag} {C : Addr} (h : clsB K C = true) : ClsOk K C := by
  unfold clsB at h
  simp only [Bool.and_eq_true, decide_eq_true_eq] at h
  obtain ⟨h1, h2, h3, h4, h5, h6, h7, h8⟩ := h
  exact ⟨⟨h1, h2, h3, He.eqO_ok h4⟩, He.eqO_ok h5, He.eqO_ok h6, h7, h8⟩
def ownB (K : Frag) (cs : List Addr) : Bool := cs.all fun C => clsB K C && (names7.all (fun a => decide (PySem.W.kitOne K (.type a) (.ref C) = some false)) && (names6.all (fun b => decide (PySem.W.kitOne K (.ref C) (.type b) = some false)) &&
  cs.all fun C' => decide (PySem.W.kitOne K (.ref C) (.ref C') = some (decide (C = C')))))
theorem ownB_ok {K : Frag} {cs : List Addr} (h : ownB K cs = true) : OwnCls K cs := by
  unfold ownB at h
  simp only [List.all_eq_true, Bool.and_eq_true, decide_eq_true_eq] at h
  exact ⟨fun C hC => clsB_ok (h C hC).1, fun C hC a ha => (h C hC).2.1 a ha, fun C hC b hb => (h C hC).2.2.1 b hb, fun C hC C' hC' => (h C hC).2.2.2 C' hC'⟩
def eqB (K : Frag) (cs : List Addr) (C : Addr) : Bool := names7.all (fun a => PySem.W.notFirst K C (.type a)) && (cs.all (fun c => PySem.W.notFirst K C (.ref c)) && (He.eqO (PySem.W.findIn K (.ref C) "__ne__") (some (some (.builtin "object.__ne__")))  &&
  decide (PySem.W.mroIn K C (.type "object") = some true)))
theorem eqB_ok {K : Frag} {cs : List Addr} {C f : Addr} (o : OwnCls K cs) (h : eqB K cs C = true) (m : Meth K C "__eq__" f) : EqCls K cs C f := by
  unfold eqB at h
  simp only [List.all_eq_true, Bool.and_eq_true, decide_eq_true_eq] at h
  exact ⟨o, fun t ht => ht.elim (fun ⟨n, hn, e⟩ => e ▸ h.1 n hn) fun ⟨c, hc, e⟩ => e ▸ h.2.1 c hc, m.at_, He.eqO_ok h.2.2.1, m.fn, h.2.2.2⟩
end G
set_option Elab.async false
set_option linter.all false
set_option maxRecDepth 100000
set_option maxHeartbeats 4000000
namespace K62
open PySem PySem.Spec PyProof.Rows L2 G
def top (i : Nat) : Stmt := PySem.Challenge.pw_gameworths_k62_slots_told.main.body.getD i (.Pass ⟨0, 0, 0, 0⟩)
structure Cad where
  Slots : Addr
def cls (C : Cad) : List Addr := [C.Slots]
def cs_run_rows (C : Cad) : List Addr := [C.Slots]
def d_KINDS : D := .tup [.str "one", .str "several", .str "none", .str "foe"]
structure Pf (K : PySem.W.Frag) (mg : Str → Option Value) where
  C : Cad
  f__law_fresh : Addr
  d__law_fresh : FuncData
  F__law_fresh : FunD K "_law_fresh" "_law_fresh" (defArgs (top 14)) (defBody (top 14)) (defScope (top 14)) [] [] f__law_fresh d__law_fresh
  g__law_fresh : mg "_law_fresh" = some (.ref f__law_fresh)
  f__law_fill : Addr
  d__law_fill : FuncData
  F__law_fill : FunD K "_law_fill" "_law_fill" (defArgs (top 15)) (defBody (top 15)) (defScope (top 15)) [] [] f__law_fill d__law_fill
  g__law_fill : mg "_law_fill" = some (.ref f__law_fill)
  f__law_take : Addr
  d__law_take : FuncData
  F__law_take : FunD K "_law_take" "_law_take" (defArgs (top 16)) (defBody (top 16)) (defScope (top 16)) [] [] f__law_take d__law_take
  g__law_take : mg "_law_take" = some (.ref f__law_take)
  f__law_handed : Addr
  d__law_handed : FuncData
  F__law_handed : FunD K "_law_handed" "_law_handed" (defArgs (top 18)) (defBody (top 18)) (defScope (top 18)) [] [] f__law_handed d__law_handed
  g__law_handed : mg "_law_handed" = some (.ref f__law_handed)
  f__law_in_lists : Addr
  d__law_in_lists : FuncData
  F__law_in_lists : FunD K "_law_in_lists" "_law_in_lists" (defArgs (top 20)) (defBody (top 20)) (defScope (top 20)) [] [] f__law_in_lists d__law_in_lists
  g__law_in_lists : mg "_law_in_lists" = some (.ref f__law_in_lists)
  f__law_cut : Addr
  d__law_cut : FuncData
  F__law_cut : FunD K "_law_cut" "_law_cut" (defArgs (top 23)) (defBody (top 23)) (defScope (top 23)) [] [] f__law_cut d__law_cut
  g__law_cut : mg "_law_cut" = some (.ref f__law_cut)
  f_joined_runs : Addr
  d_joined_runs : FuncData
  F_joined_runs : FunD K "joined_runs" "joined_runs" (defArgs (top 10)) (defBody (top 10)) (defScope (top 10)) [] [] f_joined_runs d_joined_runs
  g_joined_runs : mg "joined_runs" = some (.ref f_joined_runs)
  f_is_list : Addr
  d_is_list : FuncData
  F_is_list : FunD K "is_list" "is_list" (defArgs (top 6)) (defBody (top 6)) (defScope (top 6)) [] [] f_is_list d_is_list
  g_is_list : mg "is_list" = some (.ref f_is_list)
  f_is_integer : Addr
  d_is_integer : FuncData
  F_is_integer : FunD K "is_integer" "is_integer" (defArgs (top 5)) (defBody (top 5)) (defScope (top 5)) [] [] f_is_integer d_is_integer
  g_is_integer : mg "is_integer" = some (.ref f_is_integer)
  f_is_run : Addr
  d_is_run : FuncData
  F_is_run : FunD K "is_run" "is_run" (defArgs (top 9)) (defBody (top 9)) (defScope (top 9)) [] [] f_is_run d_is_run
  g_is_run : mg "is_run" = some (.ref f_is_run)
  f_Slots_init : Addr
  d_Slots_init : FuncData
  F_Slots_init : FunD K "__init__" "Slots.__init__" (defArgs (inClass (top 11) 0)) (defBody (inClass (top 11) 0)) (defScope (inClass (top 11) 0)) [] [] f_Slots_init d_Slots_init
  m_Slots_init : Meth K C.Slots "__init__" f_Slots_init
  f_Slots_add : Addr
  d_Slots_add : FuncData
  F_Slots_add : FunD K "__add__" "Slots.__add__" (defArgs (inClass (top 11) 4)) (defBody (inClass (top 11) 4)) (defScope (inClass (top 11) 4)) [] [] f_Slots_add d_Slots_add
  m_Slots_add : Meth K C.Slots "__add__" f_Slots_add
  f_Slots_eq : Addr
  d_Slots_eq : FuncData
  F_Slots_eq : FunD K "__eq__" "Slots.__eq__" (defArgs (inClass (top 11) 5)) (defBody (inClass (top 11) 5)) (defScope (inClass (top 11) 5)) [] [] f_Slots_eq d_Slots_eq
  m_Slots_eq : Meth K C.Slots "__eq__" f_Slots_eq
  f__law_one : Addr
  d__law_one : FuncData
  F__law_one : FunD K "_law_one" "_law_one" (defArgs (top 17)) (defBody (top 17)) (defScope (top 17)) [] [] f__law_one d__law_one
  g__law_one : mg "_law_one" = some (.ref f__law_one)
  f__law_kinds : Addr
  d__law_kinds : FuncData
  F__law_kinds : FunD K "_law_kinds" "_law_kinds" (defArgs (top 21)) (defBody (top 21)) (defScope (top 21)) [] [] f__law_kinds d__law_kinds
  g__law_kinds : mg "_law_kinds" = some (.ref f__law_kinds)
  f__law_same : Addr
  d__law_same : FuncData
  F__law_same : FunD K "_law_same" "_law_same" (defArgs (top 19)) (defBody (top 19)) (defScope (top 19)) [] [] f__law_same d__law_same
  g__law_same : mg "_law_same" = some (.ref f__law_same)
  f_Slots_runs : Addr
  d_Slots_runs : FuncData
  F_Slots_runs : FunD K "runs" "Slots.runs" (defArgs (inClass (top 11) 1)) (defBody (inClass (top 11) 1)) (defScope (inClass (top 11) 1)) [] [] f_Slots_runs d_Slots_runs
  m_Slots_runs : Meth K C.Slots "runs" f_Slots_runs
  f_Slots_many_slots : Addr
  d_Slots_many_slots : FuncData
  F_Slots_many_slots : FunD K "many_slots" "Slots.many_slots" (defArgs (inClass (top 11) 2)) (defBody (inClass (top 11) 2)) (defScope (inClass (top 11) 2)) [] [] f_Slots_many_slots d_Slots_many_slots
  m_Slots_many_slots : Meth K C.Slots "many_slots" f_Slots_many_slots
  f_check_slot : Addr
  d_check_slot : FuncData
  F_check_slot : FunD K "check_slot" "check_slot" (defArgs (top 12)) (defBody (top 12)) (defScope (top 12)) [] [] f_check_slot d_check_slot
  g_check_slot : mg "check_slot" = some (.ref f_check_slot)
  f_Slots_kind_of : Addr
  d_Slots_kind_of : FuncData
  F_Slots_kind_of : FunD K "kind_of" "Slots.kind_of" (defArgs (inClass (top 11) 3)) (defBody (inClass (top 11) 3)) (defScope (inClass (top 11) 3)) [] [] f_Slots_kind_of d_Slots_kind_of
  m_Slots_kind_of : Meth K C.Slots "kind_of" f_Slots_kind_of
  f__law_runs : Addr
  d__law_runs : FuncData
  F__law_runs : FunD K "_law_runs" "_law_runs" (defArgs (top 22)) (defBody (top 22)) (defScope (top 22)) [] [] f__law_runs d__law_runs
  g__law_runs : mg "_law_runs" = some (.ref f__law_runs)
  f_law : Addr
  d_law : FuncData
  F_law : FunD K "law" "law" (defArgs (top 24)) (defBody (top 24)) (defScope (top 24)) [] [] f_law d_law
  g_law : mg "law" = some (.ref f_law)
  g_Slots : mg "Slots" = some (.ref C.Slots)
  cl_Slots : Cls K C.Slots
  mk_Slots : Mk K C.Slots f_Slots_init
  sf_Slots : PySem.W.selfFirst K C.Slots = true
  e_Slots : EqCls K (cls C) C.Slots f_Slots_eq
  s_Slots_add : PySem.W.findIn K (.ref C.Slots) (PySem.dunder Operator.Add.info.2) = some (some (.ref f_Slots_add))
  i_Slots_add : PySem.W.isFn K (.ref f_Slots_add) = true
  fl_run_rows : ∀ A ∈ cs_run_rows C, Cls K A ∧ NoAttr K A "run_rows"
  own : OwnCls K (cls C)
  b_KINDS : ∀ {X : Cx} {W : WX} {pos : Pos}, X.K = K → X.mg = mg → Gl X "KINDS" → SB X W (.Name "KINDS" pos) (mC d_KINDS)
  n_all : mg "all" = none
  n_any : mg "any" = none
  n_bool : mg "bool" = none
  n_enumerate : mg "enumerate" = none
  n_int : mg "int" = none
  n_isinstance : mg "isinstance" = none
  n_len : mg "len" = none
  n_list : mg "list" = none
  n_range : mg "range" = none
  n_str : mg "str" = none
  n_sum : mg "sum" = none
  n_tuple : mg "tuple" = none
  n_zip : mg "zip" = none
section
variable {P : Program} {w : World} {K : PySem.W.Frag} {mg : Str → Option Value} {base : Heap}
theorem sc__law_fresh : FnScope ["_law_script"] ["_law_script"] (defScope (top 14)) := ⟨rfl, rfl, rfl, by decide +kernel, rfl, by decide +kernel, by decide +kernel⟩
theorem b__law_fresh (c : Pf K mg) : Binds K c.d__law_fresh ["_law_script"] [] := c.F__law_fresh.bindsN fun _ _ _ _ _ _ us hl => match us, hl with | [_], _ => rfl
noncomputable def mb__law_fresh (C : Cad) : MS := (sRet (nLst (nCons (mFz (mSl (mVar 0) oNone (oSome (mC (.int 63))))) (nCons (mCold (mC (.int 0))) (nCons (mCold (mC (.int 0))) (nCons (mCold (mC (.bl false))) nNil))))))
noncomputable def sp__law_fresh (C : Cad) : Fn := specOf 1 [false] (mb__law_fresh C)
theorem ok__law_fresh (c : Pf K mg) : FnS P w K mg base 1 c.f__law_fresh c.d__law_fresh ["_law_script"] (sp__law_fresh c.C) := fn_sim (k := 0) [false] c.F__law_fresh sc__law_fresh rfl fun cdv A outer s H E hr tk hp =>
  (sss_one (ss_ret (se_lst (sa_cons (se_fz (se_sl (sb_var 0) so_none (so_some sb_int))) (sa_cons (SB.cold sb_int) (sa_cons (SB.cold sb_int) (sa_cons (SB.cold sb_bl) sa_nil)))))))
theorem sc__law_fill : FnScope ["_law_state", "_law_cells", "_law_nth", "_law_seed", "_law_k", "_law_prime", "_law_far"] ["_law_state"] (defScope (top 15)) := ⟨rfl, rfl, rfl, by decide +kernel, rfl, by decide +kernel, by decide +kernel⟩
theorem b__law_fill (c : Pf K mg) : Binds K c.d__law_fill ["_law_state"] [] := c.F__law_fill.bindsN fun _ _ _ _ _ _ us hl => match us, hl with | [_], _ => rfl
noncomputable def mb__law_fill (C : Cad) : MS := (sSeq (sPar 1 2 (nCons (mCold (mB2 ixD (mVar 0) (mC (.int 0)))) (nCons (mCold (mB2 ixD (mVar 0) (mC (.int 1)))) nNil)))
  (sSeq (sAsg (mOwn1 gAdd (mB2 gMul (mC (.int 31)) (mVar 2)) (mC (.int 7))) (gN 3))
  (sSeq (sIf (mCold (mB2 gGt (mBN gLen (mCons (mVar 1) mNil)) (mC (.int 0))))
  (sAsg (mOwn1 gAdd (mB2 gMul (mC (.int 104729)) (mB2 gDiv (mVar 2) (mBN gLen (mCons (mVar 1) mNil)))) (mB2 ixD (mVar 1) (mB2 gMod (mBN gInt (mCons (mVar 2) mNil)) (mBN gLen (mCons (mVar 1) mNil))))) (gN 3))
  sNext)
  (sSeq (sSet 0 (mOwn1 gAdd (mVar 2) (mC (.int 1))) (mC (.int 1)))
  (sSeq (sSet 0 (mOr (mCold (mB2 gGe (mVar 2) (mBN gLen (mCons (mVar 1) mNil)))) (mCold (mB2 gLt (mVar 3) (mB2 gPow (mC (.int 10)) (mC (.int 18)))))) (mC (.int 3)))
  (sSeq (sSet 0 (mCold (mB2 gSub (mVar 3) (mB2 gPow (mC (.int 10)) (mC (.int 18))))) (mC (.int 2)))
  (sIf (mCold (mB2 ixD (mVar 0) (mC (.int 3))))
  (sSeq (sSet 0 (mCold (mC (.int 0))) (mC (.int 2)))
  (sFor (mEnum (nCons (mCold (mTup (mCons (mC (.int 2147483647)) (mCons (mC (.int 2147483629)) (mCons (mC (.int 2147483587)) (mCons (mC (.int 2147483579)) (mCons (mC (.int 2147483563)) mNil))))))) nNil)) (gT 2 (gCons' (gN 4) (gCons' (gN 5) gNil')))
  (sSeq (sAsg (mCold (mB2 gMod (mBN gInt (mCons (mB2 gMul (mB2 gAdd (mB2 gAdd (mVar 3) (mB2 gMul (mB2 gMul (mC (.int 10007)) (mVar 4)) (mVar 4))) (mB2 gMul (mC (.int 101)) (mVar 4))) (mB2 gAdd (mC (.int 48271)) (mB2 gMul (mC (.int 2)) (mVar 4)))) mNil)) (mVar 5))) (gN 6))
  (sSet 0 (mOwn1 gAdd (mB2 gMul (mB2 ixD (mVar 0) (mC (.int 2))) (mVar 5)) (mB2 gMod (mBN gInt (mCons (mB2 gPow (mVar 6) (mC (.int 5))) mNil)) (mVar 5))) (mC (.int 2))))))
  sNext)))))))
noncomputable def sp__law_fill (C : Cad) : Fn := specOf 7 [true] (mb__law_fill C)
theorem ok__law_fill (c : Pf K mg) : FnS P w K mg base 1 c.f__law_fill c.d__law_fill ["_law_state"] (sp__law_fill c.C) := fn_sim (k := 0) [true] c.F__law_fill sc__law_fill rfl fun cdv A outer s H E hr tk hp =>
  (sss_cons (ss_par (i := 1) (j := 2) rfl sc__law_fill.nd (sa_cons (SB.cold (sb_ix (u1 hr) (sb_var 0) sb_int)) (sa_cons (SB.cold (sb_ix (u1 hr) (sb_var 0) sb_int)) sa_nil)))
  (sss_cons (ss_asg (se_opB op_addA v_add (sb_op op_mulA v_mul sb_int (sb_var 2)) sb_int) (sg_name 3 sc__law_fill.nd))
  (sss_cons (ss_if (st_cmpB op_gt v_gt (sb_callB call_lenA v_len (by rfl) c.n_len boot_len (sl_cons (sb_var 1) sl_nil)) sb_int)
  (sss_one (ss_asg (se_opB op_addA v_add (sb_op op_mulA v_mul sb_int (sb_op op_fdivW v_div (sb_var 2) (sb_callB call_lenA v_len (by rfl) c.n_len boot_len (sl_cons (sb_var 1) sl_nil)))) (sb_ix (u1 hr) (sb_var 1) (sb_op op_mod v_mod (sb_callTy call_int1 v_int (by rfl) c.n_int boot_int (sl_cons (sb_var 2) sl_nil)) (sb_callB call_lenA v_len (by rfl) c.n_len boot_len (sl_cons (sb_var 1) sl_nil))))) (sg_name 3 sc__law_fill.nd)))
  sss_nil)
  (sss_cons (ss_set 0 (u1 hr) (se_opB op_addA v_add (sb_var 2) sb_int) sb_int)
  (sss_cons (ss_set 0 (u1 hr) (se_or (SB.cold (sb_cmp op_ge v_ge (sb_var 2) (sb_callB call_lenA v_len (by rfl) c.n_len boot_len (sl_cons (sb_var 1) sl_nil)))) (by exact se_one (SB.cold (sb_cmp op_lt v_lt (sb_var 3) (sb_op op_pow v_pow sb_int sb_int))))) sb_int)
  (sss_cons (ss_set 0 (u1 hr) (SB.cold (sb_op op_sub v_sub (sb_var 3) (sb_op op_pow v_pow sb_int sb_int))) sb_int)
  (sss_one (ss_if (st_val (SB.cold (sb_ix (u1 hr) (sb_var 0) sb_int)))
  (sss_cons (ss_set 0 (u1 hr) (SB.cold sb_int) sb_int)
  (sss_one (ss_for hp rfl (si_enum (by rfl) c.n_enumerate (sa_cons (SB.cold (sb_tup (sl_cons sb_int (sl_cons sb_int (sl_cons sb_int (sl_cons sb_int (sl_cons sb_int sl_nil))))))) sa_nil)) (sg_tup (n := 2) (by rfl) (sgs_cons (sg_name 4 sc__law_fill.nd) (sgs_cons (sg_name 5 sc__law_fill.nd) sgs_nil)))
  (sss_cons (ss_asg (SB.cold (sb_op op_mod v_mod (sb_callTy call_int1 v_int (by rfl) c.n_int boot_int (sl_cons (sb_op op_mulA v_mul (sb_op op_addA v_add (sb_op op_addA v_add (sb_var 3) (sb_op op_mulA v_mul (sb_op op_mulA v_mul sb_int (sb_var 4)) (sb_var 4))) (sb_op op_mulA v_mul sb_int (sb_var 4))) (sb_op op_addA v_add sb_int (sb_op op_mulA v_mul sb_int (sb_var 4)))) sl_nil)) (sb_var 5))) (sg_name 6 sc__law_fill.nd))
  (sss_one (ss_set 0 (u1 hr) (se_opB op_addA v_add (sb_op op_mulA v_mul (sb_ix (u1 hr) (sb_var 0) sb_int) (sb_var 5)) (sb_op op_mod v_mod (sb_callTy call_int1 v_int (by rfl) c.n_int boot_int (sl_cons (sb_op op_pow v_pow (sb_var 6) sb_int) sl_nil)) (sb_var 5))) sb_int))))))
  sss_nil))))))))
theorem sc__law_take : FnScope ["_law_state", "_law_many", "_law_laps", "_law_digit"] ["_law_state", "_law_many"] (defScope (top 16)) := ⟨rfl, rfl, rfl, by decide +kernel, rfl, by decide +kernel, by decide +kernel⟩
theorem b__law_take (c : Pf K mg) : Binds K c.d__law_take ["_law_state", "_law_many"] [] := c.F__law_take.bindsN fun _ _ _ _ _ _ us hl => match us, hl with | [_, _], _ => rfl
noncomputable def mb__law_take (C : Cad) : MS := (sSeq (sAsg (mCold (mC (.int 0))) (gN 2))
  (sSeq (sWhile (mAnd (mCold (mB2 gLt (mVar 2) (mC (.int 64)))) (mOr (mCold (mB2 gEq (mB2 ixD (mVar 0) (mC (.int 2))) (mC (.int 0)))) (mAnd (mCold (mB2 ixD (mVar 0) (mC (.int 3)))) (mCold (mB2 gLt (mB2 ixD (mVar 0) (mC (.int 2))) (mB2 gMul (mVar 1) (mC (.int 4096))))))))
  (sSeq (sDrop (mCallM anyD 1 (sp__law_fill C) 0 nNil))
  (sSeq (sAug 2 gAddI (mCold (mC (.int 1))))
  (sIf (mAnd (mCold (mB2 ixD (mVar 0) (mC (.int 3)))) (mCold (mB2 gLt (mB2 ixD (mVar 0) (mC (.int 2))) (mB2 gMul (mVar 1) (mC (.int 4096))))))
  (sSet 0 (mOwn1 gAdd (mB2 ixD (mVar 0) (mC (.int 2))) (mB2 gMul (mB2 gMul (mVar 1) (mC (.int 4096))) (mB2 gAdd (mC (.int 1)) (mB2 gMod (mBN gInt (mCons (mB2 ixD (mVar 0) (mC (.int 2))) mNil)) (mC (.int 4093)))))) (mC (.int 2)))
  sNext))))
  (sSeq (sAsg (mCold (mB2 gMod (mBN gInt (mCons (mB2 ixD (mVar 0) (mC (.int 2))) mNil)) (mVar 1))) (gN 3))
  (sSeq (sSet 0 (mCold (mB2 gDiv (mB2 ixD (mVar 0) (mC (.int 2))) (mVar 1))) (mC (.int 2)))
  (sRet (mFrz 3))))))
noncomputable def sp__law_take (C : Cad) : Fn := specOf 4 [true, false] (mb__law_take C)
theorem ok__law_take (c : Pf K mg) : FnS P w K mg base 2 c.f__law_take c.d__law_take ["_law_state", "_law_many"] (sp__law_take c.C) := fn_sim (k := 1) [true, false] c.F__law_take sc__law_take rfl fun cdv A outer s H E hr tk hp =>
  (sss_cons (ss_asg (SB.cold sb_int) (sg_name 2 sc__law_take.nd))
  (sss_cons (ss_while hp (SW.st (sw_and (st_cmpB op_lt v_lt (sb_var 2) sb_int) (sw_and1 (SW.st (sw_or (st_cmpB (op_eqD hr.units) v_eq (sb_ix (u1 hr) (sb_var 0) sb_int) sb_int) (sw_or1 (SW.st (sw_and (st_val (SB.cold (sb_ix (u1 hr) (sb_var 0) sb_int))) (sw_and1 (st_cmpB op_lt v_lt (sb_ix (u1 hr) (sb_var 0) sb_int) (sb_op op_mulA v_mul (sb_var 1) sb_int)))))))))))
  (sss_cons (ss_expr (se_callM (ps := ["_law_state"]) 0 (ok__law_fill c) (hr.mono (by decide)) (by rfl) c.g__law_fill c.F__law_fill.kp (b__law_fill c) tk sa_nil))
  (sss_cons (ss_aug 2 sc__law_take.nd (SB.cold sb_int) ip_add v_ipAdd)
  (sss_one (ss_if (SW.st (sw_and (st_val (SB.cold (sb_ix (u1 hr) (sb_var 0) sb_int))) (sw_and1 (st_cmpB op_lt v_lt (sb_ix (u1 hr) (sb_var 0) sb_int) (sb_op op_mulA v_mul (sb_var 1) sb_int)))))
  (sss_one (ss_set 0 (u1 hr) (se_opB op_addA v_add (sb_ix (u1 hr) (sb_var 0) sb_int) (sb_op op_mulA v_mul (sb_op op_mulA v_mul (sb_var 1) sb_int) (sb_op op_addA v_add sb_int (sb_op op_mod v_mod (sb_callTy call_int1 v_int (by rfl) c.n_int boot_int (sl_cons (sb_ix (u1 hr) (sb_var 0) sb_int) sl_nil)) sb_int)))) sb_int))
  sss_nil)))))
  (sss_cons (ss_asg (SB.cold (sb_op op_mod v_mod (sb_callTy call_int1 v_int (by rfl) c.n_int boot_int (sl_cons (sb_ix (u1 hr) (sb_var 0) sb_int) sl_nil)) (sb_var 1))) (sg_name 3 sc__law_take.nd))
  (sss_cons (ss_set 0 (u1 hr) (SB.cold (sb_op op_fdivW v_div (sb_ix (u1 hr) (sb_var 0) sb_int) (sb_var 1))) sb_int)
  (sss_one (ss_ret (se_frz 3)))))))
theorem sc__law_handed : FnScope ["_law_state", "_law_things"] ["_law_state", "_law_things"] (defScope (top 18)) := ⟨rfl, rfl, rfl, by decide +kernel, rfl, by decide +kernel, by decide +kernel⟩
theorem b__law_handed (c : Pf K mg) : Binds K c.d__law_handed ["_law_state", "_law_things"] [] := c.F__law_handed.bindsN fun _ _ _ _ _ _ us hl => match us, hl with | [_, _], _ => rfl
noncomputable def mb__law_handed (C : Cad) : MS := (sRet (mIf (mE2 gEq (mCallM anyD 2 (sp__law_take C) 0 (nCons (mCold (mC (.int 2))) nNil)) (mCold (mC (.int 0)))) (mOwnN gList (mCons (mVar 1) mNil)) (mOwnN gTuple (mCons (mVar 1) mNil))))
noncomputable def sp__law_handed (C : Cad) : Fn := specOf 2 [true, false] (mb__law_handed C)
theorem ok__law_handed (c : Pf K mg) : FnS P w K mg base 3 c.f__law_handed c.d__law_handed ["_law_state", "_law_things"] (sp__law_handed c.C) := fn_sim (k := 2) [true, false] c.F__law_handed sc__law_handed rfl fun cdv A outer s H E hr tk hp =>
  (sss_one (ss_ret (se_if (st_cmp (op_eqD hr.units) v_eq (se_callM (ps := ["_law_state", "_law_many"]) 0 (ok__law_take c) (hr.mono (by decide)) (by rfl) c.g__law_take c.F__law_take.kp (b__law_take c) tk (sa_cons (SB.cold sb_int) sa_nil)) (SB.cold sb_int)) (se_callTyL (call_listA rfl) v_list (by rfl) c.n_list boot_list (sl_cons (sb_var 1) sl_nil)) (se_callTyL call_tuple_of v_tuple (by rfl) c.n_tuple boot_tuple (sl_cons (sb_var 1) sl_nil)))))
theorem sc__law_in_lists : FnScope ["_law_state", "_law_x", "_law_y"] ["_law_state", "_law_x"] (defScope (top 20)) := ⟨rfl, rfl, rfl, by decide +kernel, rfl, by decide +kernel, by decide +kernel⟩
theorem b__law_in_lists (c : Pf K mg) : Binds K c.d__law_in_lists ["_law_state", "_law_x"] [] := c.F__law_in_lists.bindsN fun _ _ _ _ _ _ us hl => match us, hl with | [_, _], _ => rfl
noncomputable def mb__law_in_lists (C : Cad) (self : Fn) : MS := (sSeq (sIf (mCold (mB1 (gIsi (cls C) [.ty "list", .ty "tuple"]) (mVar 1)))
  (sRet (mCallM anyD 2 (sp__law_handed C) 0 (nCons (mLc (mIt (mFrz 1)) [2] (gN 2) mYes (mCallM anyD 2 self 0 (nCons (mFrz 2) nNil))) nNil)))
  sNext)
  (sRet (mFrz 1)))
noncomputable def sp__law_in_lists (C : Cad) : Nat → Fn
  | 0 => fun _ => .bad
  | n + 1 => specOf 3 [true, false] (mb__law_in_lists C (sp__law_in_lists C n))
theorem ok__law_in_lists (c : Pf K mg) : ∀ n, FnS P w K mg base (4 + n) c.f__law_in_lists c.d__law_in_lists ["_law_state", "_law_x"] (sp__law_in_lists c.C n)
  | 0 => fn_bad
  | n + 1 => fn_sim (k := 4 + n) [true, false] c.F__law_in_lists sc__law_in_lists rfl fun cdv A outer s H E hr tk hp =>
  (sss_cons (ss_if (st_val (SB.cold (sb_isiT c.own (by rfl) c.n_isinstance (sb_var 1) (.cons (pe_bltn (v := .ty "list") (by rfl) c.n_list boot_list rfl) (.cons (pe_bltn (v := .ty "tuple") (by rfl) c.n_tuple boot_tuple rfl) .nil)))))
  (sss_one (ss_ret (se_callM (ps := ["_law_state", "_law_things"]) 0 (ok__law_handed c) (hr.mono (by omega)) (by rfl) c.g__law_handed c.F__law_handed.kp (b__law_handed c) tk (sa_cons (se_lc (own := [("_law_y", 2)]) rfl sc__law_in_lists.nd (si_seq (se_frz 1)) (blkOk_by (by kernel_rfl)) (fun _ _ _ _ _ => (sgo_name 2 sc__law_in_lists.nd)) (fun _ _ _ _ _ => sts_nil) (fun _ _ _ _ _ => (se_callM (ps := ["_law_state", "_law_x"]) 0 (ok__law_in_lists c n) hr (by rfl) c.g__law_in_lists c.F__law_in_lists.kp (b__law_in_lists c) (by exact G.takes0) (sa_cons (se_frz 2) sa_nil)))) sa_nil))))
  sss_nil)
  (sss_one (ss_ret (se_frz 1))))
theorem sc__law_cut : FnScope ["_law_state", "_law_kinds_here", "_law_found", "_law_at", "_law_many"] ["_law_state", "_law_kinds_here"] (defScope (top 23)) := ⟨rfl, rfl, rfl, by decide +kernel, rfl, by decide +kernel, by decide +kernel⟩
theorem b__law_cut (c : Pf K mg) : Binds K c.d__law_cut ["_law_state", "_law_kinds_here"] [] := c.F__law_cut.bindsN fun _ _ _ _ _ _ us hl => match us, hl with | [_, _], _ => rfl
noncomputable def mb__law_cut (C : Cad) : MS := (sSeq (sPar 2 3 (nCons (nLst nNil) (nCons (mCold (mC (.int 0))) nNil)))
  (sSeq (sWhile (mCold (mB2 gLt (mVar 3) (mBN gLen (mCons (mVar 1) mNil))))
  (sSeq (sAsg (mCold (mC (.int 1))) (gN 4))
  (sSeq (sWhile (mAnd (mCold (mB2 gLt (mB2 gAdd (mVar 3) (mVar 4)) (mBN gLen (mCons (mVar 1) mNil)))) (mAnd (mCold (mB2 gEq (mB2 ixD (mVar 1) (mB2 gAdd (mVar 3) (mVar 4))) (mB2 ixD (mVar 1) (mVar 3)))) (mE2 gGt (mCallM anyD 2 (sp__law_take C) 0 (nCons (mCold (mC (.int 3))) nNil)) (mCold (mC (.int 0))))))
  (sAug 4 gAddI (mCold (mC (.int 1)))))
  (sSeq (sDrop (mAppend 2 (mCold (mTup (mCons (mB2 ixD (mVar 1) (mVar 3)) (mCons (mVar 4) mNil))))))
  (sAug 3 gAddI (mFrz 4))))))
  (sRet (mCallM anyD 2 (sp__law_in_lists C 6) 0 (nCons (mFrz 2) nNil)))))
noncomputable def sp__law_cut (C : Cad) : Fn := specOf 5 [true, false] (mb__law_cut C)
theorem ok__law_cut (c : Pf K mg) : FnS P w K mg base 11 c.f__law_cut c.d__law_cut ["_law_state", "_law_kinds_here"] (sp__law_cut c.C) := fn_sim (k := 10) [true, false] c.F__law_cut sc__law_cut rfl fun cdv A outer s H E hr tk hp =>
  (sss_cons (ss_par (i := 2) (j := 3) rfl sc__law_cut.nd (sa_cons (se_lst sa_nil) (sa_cons (SB.cold sb_int) sa_nil)))
  (sss_cons (ss_while hp (st_cmpB op_lt v_lt (sb_var 3) (sb_callB call_lenA v_len (by rfl) c.n_len boot_len (sl_cons (sb_var 1) sl_nil)))
  (sss_cons (ss_asg (SB.cold sb_int) (sg_name 4 sc__law_cut.nd))
  (sss_cons (ss_while hp (SW.st (sw_and (st_cmpB op_lt v_lt (sb_op op_addA v_add (sb_var 3) (sb_var 4)) (sb_callB call_lenA v_len (by rfl) c.n_len boot_len (sl_cons (sb_var 1) sl_nil))) (sw_and (st_cmpB (op_eqD hr.units) v_eq (sb_ix (u1 hr) (sb_var 1) (sb_op op_addA v_add (sb_var 3) (sb_var 4))) (sb_ix (u1 hr) (sb_var 1) (sb_var 3))) (sw_and1 (st_cmp op_gt v_gt (se_callM (ps := ["_law_state", "_law_many"]) 0 (ok__law_take c) (hr.mono (by decide)) (by rfl) c.g__law_take c.F__law_take.kp (b__law_take c) tk (sa_cons (SB.cold sb_int) sa_nil)) (SB.cold sb_int))))))
  (sss_one (ss_aug 4 sc__law_cut.nd (SB.cold sb_int) ip_add v_ipAdd)))
  (sss_cons (ss_expr (se_append 2 (SB.cold (sb_tup (sl_cons (sb_ix (u1 hr) (sb_var 1) (sb_var 3)) (sl_cons (sb_var 4) sl_nil))))))
  (sss_one (ss_aug 3 sc__law_cut.nd (se_frz 4) ip_add v_ipAdd))))))
  (sss_one (ss_ret (se_callM (ps := ["_law_state", "_law_x"]) 0 (ok__law_in_lists c 6) (hr.mono (by decide)) (by rfl) c.g__law_in_lists c.F__law_in_lists.kp (b__law_in_lists c) tk (sa_cons (se_frz 2) sa_nil))))))
theorem sc_joined_runs : FnScope ["runs", "found", "kind", "many"] ["runs"] (defScope (top 10)) := ⟨rfl, rfl, rfl, by decide +kernel, rfl, by decide +kernel, by decide +kernel⟩
theorem b_joined_runs (c : Pf K mg) : Binds K c.d_joined_runs ["runs"] [] := c.F_joined_runs.bindsN fun _ _ _ _ _ _ us hl => match us, hl with | [_], _ => rfl
noncomputable def mb_joined_runs (C : Cad) : MS := (sSeq (sAsg (nLst nNil) (gN 1))
  (sSeq (sFor (mIt (mFrz 0)) (gT 2 (gCons' (gN 2) (gCons' (gN 3) gNil')))
  (sIf (mAnd (mCold (mB2 gNe (mVar 1) (mLst mNil))) (mCold (mB2 gEq (mB2 ixD (mB2 ixD (mVar 1) (mB1 gNeg (mC (.int 1)))) (mC (.int 0))) (mVar 2))))
  (sSet 1 (mCold (mTup (mCons (mVar 2) (mCons (mB2 gAdd (mB2 ixD (mB2 ixD (mVar 1) (mB1 gNeg (mC (.int 1)))) (mC (.int 1))) (mVar 3)) mNil)))) (mB1 gNeg (mC (.int 1))))
  (sDrop (mAppend 1 (mCold (mTup (mCons (mVar 2) (mCons (mVar 3) mNil))))))))
  (sRet (mMove 1))))
noncomputable def sp_joined_runs (C : Cad) : Fn := specOf 4 [false] (mb_joined_runs C)
theorem ok_joined_runs (c : Pf K mg) : FnS P w K mg base 1 c.f_joined_runs c.d_joined_runs ["runs"] (sp_joined_runs c.C) := fn_sim (k := 0) [false] c.F_joined_runs sc_joined_runs rfl fun cdv A outer s H E hr tk hp =>
  (sss_cons (ss_asg (se_lst sa_nil) (sg_name 1 sc_joined_runs.nd))
  (sss_cons (ss_for hp rfl (si_seq (se_frz 0)) (sg_tup (n := 2) (by rfl) (sgs_cons (sg_name 2 sc_joined_runs.nd) (sgs_cons (sg_name 3 sc_joined_runs.nd) sgs_nil)))
  (sss_one (ss_if (SW.st (sw_and (st_cmpB (op_neD hr.units) v_ne (sb_var 1) (sb_lst sl_nil)) (sw_and1 (st_cmpB (op_eqD hr.units) v_eq (sb_ix (u1 hr) (sb_ix (u1 hr) (sb_var 1) (sb_un un_neg v_neg sb_int)) sb_int) (sb_var 2)))))
  (sss_one (ss_set 1 (u1 hr) (SB.cold (sb_tup (sl_cons (sb_var 2) (sl_cons (sb_op op_addA v_add (sb_ix (u1 hr) (sb_ix (u1 hr) (sb_var 1) (sb_un un_neg v_neg sb_int)) sb_int) (sb_var 3)) sl_nil)))) (sb_un un_neg v_neg sb_int)))
  (sss_one (ss_expr (se_append 1 (SB.cold (sb_tup (sl_cons (sb_var 2) (sl_cons (sb_var 3) sl_nil))))))))))
  (sss_one (ss_ret (se_move 1)))))
theorem sc_is_list : FnScope ["thing"] ["thing"] (defScope (top 6)) := ⟨rfl, rfl, rfl, by decide +kernel, rfl, by decide +kernel, by decide +kernel⟩
theorem b_is_list (c : Pf K mg) : Binds K c.d_is_list ["thing"] [] := c.F_is_list.bindsN fun _ _ _ _ _ _ us hl => match us, hl with | [_], _ => rfl
noncomputable def mb_is_list (C : Cad) : MS := (sRet (mCold (mB1 (gIsi (cls C) [.ty "list", .ty "tuple"]) (mVar 0))))
noncomputable def sp_is_list (C : Cad) : Fn := specOf 1 [false] (mb_is_list C)
theorem ok_is_list (c : Pf K mg) : FnS P w K mg base 1 c.f_is_list c.d_is_list ["thing"] (sp_is_list c.C) := fn_sim (k := 0) [false] c.F_is_list sc_is_list rfl fun cdv A outer s H E hr tk hp =>
  (sss_one (ss_ret (SB.cold (sb_isiT c.own (by rfl) c.n_isinstance (sb_var 0) (.cons (pe_bltn (v := .ty "list") (by rfl) c.n_list boot_list rfl) (.cons (pe_bltn (v := .ty "tuple") (by rfl) c.n_tuple boot_tuple rfl) .nil))))))
theorem sc_is_integer : FnScope ["thing"] ["thing"] (defScope (top 5)) := ⟨rfl, rfl, rfl, by decide +kernel, rfl, by decide +kernel, by decide +kernel⟩
theorem b_is_integer (c : Pf K mg) : Binds K c.d_is_integer ["thing"] [] := c.F_is_integer.bindsN fun _ _ _ _ _ _ us hl => match us, hl with | [_], _ => rfl
noncomputable def mb_is_integer (C : Cad) : MS := (sRet (mAnd (mCold (mB1 (gIsi (cls C) [.ty "int"]) (mVar 0))) (mNot (mCold (mB1 (gIsi (cls C) [.ty "bool"]) (mVar 0))))))
noncomputable def sp_is_integer (C : Cad) : Fn := specOf 1 [false] (mb_is_integer C)
theorem ok_is_integer (c : Pf K mg) : FnS P w K mg base 1 c.f_is_integer c.d_is_integer ["thing"] (sp_is_integer c.C) := fn_sim (k := 0) [false] c.F_is_integer sc_is_integer rfl fun cdv A outer s H E hr tk hp =>
  (sss_one (ss_ret (se_and (SB.cold (sb_isi c.own (by rfl) c.n_isinstance (sb_var 0) (pe_bltn (v := .ty "int") (by rfl) c.n_int boot_int rfl))) (by exact se_one (se_not (SB.cold (sb_isi c.own (by rfl) c.n_isinstance (sb_var 0) (pe_bltn (v := .ty "bool") (by rfl) c.n_bool boot_bool rfl))))))))
theorem sc_is_run : FnScope ["thing"] ["thing"] (defScope (top 9)) := ⟨rfl, rfl, rfl, by decide +kernel, rfl, by decide +kernel, by decide +kernel⟩
theorem b_is_run (c : Pf K mg) : Binds K c.d_is_run ["thing"] [] := c.F_is_run.bindsN fun _ _ _ _ _ _ us hl => match us, hl with | [_], _ => rfl
noncomputable def mb_is_run (C : Cad) : MS := (sSeq (sIf (mOr (mNot (mUp (mCallP 1 (sp_is_list C) (mCons (mVar 0) mNil)))) (mOr (mCold (mB2 gNe (mBN gLen (mCons (mVar 0) mNil)) (mC (.int 2)))) (mOr (mNot (mCold (mB1 (gIsi (cls C) [.ty "str"]) (mB2 ixD (mVar 0) (mC (.int 0)))))) (mCold (mB2 gNotIn (mB2 ixD (mVar 0) (mC (.int 0))) (mC d_KINDS))))))
  (sRet (mCold (mC (.bl false))))
  sNext)
  (sRet (mAnd (mUp (mCallP 1 (sp_is_integer C) (mCons (mB2 ixD (mVar 0) (mC (.int 1))) mNil))) (mCold (mB2 gGt (mB2 ixD (mVar 0) (mC (.int 1))) (mC (.int 0)))))))
noncomputable def sp_is_run (C : Cad) : Fn := specOf 1 [false] (mb_is_run C)
theorem ok_is_run (c : Pf K mg) : FnS P w K mg base 2 c.f_is_run c.d_is_run ["thing"] (sp_is_run c.C) := fn_sim (k := 1) [false] c.F_is_run sc_is_run rfl fun cdv A outer s H E hr tk hp =>
  (sss_cons (ss_if (SW.st (sw_or (st_not (st_val (se_callP (ps := ["thing"]) (ok_is_list c) (hr.mono (by decide)) (by rfl) c.g_is_list c.F_is_list.kp (b_is_list c) tk (sl_cons (sb_var 0) sl_nil)))) (sw_or (st_cmpB (op_neD hr.units) v_ne (sb_callB call_lenA v_len (by rfl) c.n_len boot_len (sl_cons (sb_var 0) sl_nil)) sb_int) (sw_or (st_not (st_val (SB.cold (sb_isi c.own (by rfl) c.n_isinstance (sb_ix (u1 hr) (sb_var 0) sb_int) (pe_bltn (v := .ty "str") (by rfl) c.n_str boot_str rfl))))) (sw_or1 (st_notIn (u1 hr) (sb_ix (u1 hr) (sb_var 0) sb_int) (c.b_KINDS rfl rfl (by rfl))))))))
  (sss_one (ss_ret (SB.cold sb_bl)))
  sss_nil)
  (sss_one (ss_ret (se_and (se_callP (ps := ["thing"]) (ok_is_integer c) (hr.mono (by decide)) (by rfl) c.g_is_integer c.F_is_integer.kp (b_is_integer c) tk (sl_cons (sb_ix (u1 hr) (sb_var 0) sb_int) sl_nil)) (by exact se_one (SB.cold (sb_cmp op_gt v_gt (sb_ix (u1 hr) (sb_var 0) sb_int) sb_int)))))))
theorem sc_Slots_init : FnScope ["self", "runs", "index", "run"] ["self", "runs"] (defScope (inClass (top 11) 0)) := ⟨rfl, rfl, rfl, by decide +kernel, rfl, by decide +kernel, by decide +kernel⟩
theorem b_Slots_init (c : Pf K mg) : Binds K c.d_Slots_init ["self", "runs"] [] := c.F_Slots_init.bindsN fun _ _ _ _ _ _ us hl => match us, hl with | [_, _], _ => rfl
noncomputable def mb_Slots_init (C : Cad) : MS := (sSeq (sIf (mNot (mUp (mCallP 1 (sp_is_list C) (mCons (mVar 1) mNil))))
  sNever
  sNext)
  (sSeq (sFor (mEnum (nCons (mFrz 1) nNil)) (gT 2 (gCons' (gN 2) (gCons' (gN 3) gNil')))
  (sIf (mNot (mUp (mCallP 1 (sp_is_run C) (mCons (mVar 3) mNil))))
  sNever
  sNext))
  (sFldm 0 (cs_run_rows C) "run_rows" (mUp (mCallP 1 (sp_joined_runs C) (mCons (mVar 1) mNil))))))
noncomputable def sp_Slots_init (C : Cad) : Fn := specOf 4 [true, false] (mb_Slots_init C)
theorem ok_Slots_init (c : Pf K mg) : FnS P w K mg base 3 c.f_Slots_init c.d_Slots_init ["self", "runs"] (sp_Slots_init c.C) := fn_sim (k := 2) [true, false] c.F_Slots_init sc_Slots_init rfl fun cdv A outer s H E hr tk hp =>
  (sss_cons (ss_if (st_not (st_val (se_callP (ps := ["thing"]) (ok_is_list c) (hr.mono (by decide)) (by rfl) c.g_is_list c.F_is_list.kp (b_is_list c) tk (sl_cons (sb_var 1) sl_nil))))
  (sss_one ss_never)
  sss_nil)
  (sss_cons (ss_for hp rfl (si_enum (by rfl) c.n_enumerate (sa_cons (se_frz 1) sa_nil)) (sg_tup (n := 2) (by rfl) (sgs_cons (sg_name 2 sc_Slots_init.nd) (sgs_cons (sg_name 3 sc_Slots_init.nd) sgs_nil)))
  (sss_one (ss_if (st_not (st_val (se_callP (ps := ["thing"]) (ok_is_run c) (hr.mono (by decide)) (by rfl) c.g_is_run c.F_is_run.kp (b_is_run c) tk (sl_cons (sb_var 3) sl_nil))))
  (sss_one ss_never)
  sss_nil)))
  (sss_one (ss_fld 0 c.fl_run_rows (se_callP (ps := ["runs"]) (ok_joined_runs c) (hr.mono (by decide)) (by rfl) c.g_joined_runs c.F_joined_runs.kp (b_joined_runs c) tk (sl_cons (sb_var 1) sl_nil))))))
theorem sc_Slots_add : FnScope ["self", "other"] ["self", "other"] (defScope (inClass (top 11) 4)) := ⟨rfl, rfl, rfl, by decide +kernel, rfl, by decide +kernel, by decide +kernel⟩
theorem b_Slots_add (c : Pf K mg) : Binds K c.d_Slots_add ["self", "other"] [] := c.F_Slots_add.bindsN fun _ _ _ _ _ _ us hl => match us, hl with | [_, _], _ => rfl
noncomputable def mb_Slots_add (C : Cad) : MS := (sRet (mMakeP C.Slots 2 (sp_Slots_init C) (mCons (mB2 gAdd (mB1 (fldD (cs_run_rows C) "run_rows") (mVar 0)) (mB1 (fldD (cs_run_rows C) "run_rows") (mVar 1))) mNil)))
noncomputable def sp_Slots_add (C : Cad) : Fn := specOf 2 [false, false] (mb_Slots_add C)
theorem ok_Slots_add (c : Pf K mg) : FnS P w K mg base 5 c.f_Slots_add c.d_Slots_add ["self", "other"] (sp_Slots_add c.C) := fn_sim (k := 4) [false, false] c.F_Slots_add sc_Slots_add rfl fun cdv A outer s H E hr tk hp =>
  (sss_one (ss_ret (se_makeP (ps := ["self", "runs"]) c.mk_Slots (ok_Slots_init c) (hr.mono (by decide)) (by rfl) c.g_Slots (b_Slots_init c) tk (sl_cons (sb_op op_addA v_add (sb_fld c.fl_run_rows (sb_var 0)) (sb_fld c.fl_run_rows (sb_var 1))) sl_nil))))
theorem sc_Slots_eq : FnScope ["self", "other"] ["self", "other"] (defScope (inClass (top 11) 5)) := ⟨rfl, rfl, rfl, by decide +kernel, rfl, by decide +kernel, by decide +kernel⟩
theorem b_Slots_eq (c : Pf K mg) : Binds K c.d_Slots_eq ["self", "other"] [] := c.F_Slots_eq.bindsN fun _ _ _ _ _ _ us hl => match us, hl with | [_, _], _ => rfl
noncomputable def mb_Slots_eq (C : Cad) : MS := (sRet (mAnd (mCold (mB1 (gIsi (cls C) [.ref C.Slots]) (mVar 1))) (mCold (mB2 gEq (mB1 (fldD (cs_run_rows C) "run_rows") (mVar 0)) (mB1 (fldD (cs_run_rows C) "run_rows") (mVar 1))))))
noncomputable def sp_Slots_eq (C : Cad) : Fn := specOf 2 [false, false] (mb_Slots_eq C)
theorem ok_Slots_eq (c : Pf K mg) : FnS P w K mg base 1 c.f_Slots_eq c.d_Slots_eq ["self", "other"] (sp_Slots_eq c.C) := fn_sim (k := 0) [false, false] c.F_Slots_eq sc_Slots_eq rfl fun cdv A outer s H E hr tk hp =>
  (sss_one (ss_ret (se_and (SB.cold (sb_isi c.own (by rfl) c.n_isinstance (sb_var 1) (pe_glob (v := .ref c.C.Slots) (by rfl) c.g_Slots rfl))) (by exact se_one (SB.cold (sb_cmp (op_eqD hr.units) v_eq (sb_fld c.fl_run_rows (sb_var 0)) (sb_fld c.fl_run_rows (sb_var 1))))))))
theorem sc__law_one : FnScope ["_law_state", "_law_things"] ["_law_state", "_law_things"] (defScope (top 17)) := ⟨rfl, rfl, rfl, by decide +kernel, rfl, by decide +kernel, by decide +kernel⟩
theorem b__law_one (c : Pf K mg) : Binds K c.d__law_one ["_law_state", "_law_things"] [] := c.F__law_one.bindsN fun _ _ _ _ _ _ us hl => match us, hl with | [_, _], _ => rfl
noncomputable def mb__law_one (C : Cad) : MS := (sRet (mE2 gIxC (mFrz 1) (mCallM anyD 2 (sp__law_take C) 0 (nCons (mCold (mBN gLen (mCons (mVar 1) mNil))) nNil))))
noncomputable def sp__law_one (C : Cad) : Fn := specOf 2 [true, false] (mb__law_one C)
theorem ok__law_one (c : Pf K mg) : FnS P w K mg base 3 c.f__law_one c.d__law_one ["_law_state", "_law_things"] (sp__law_one c.C) := fn_sim (k := 2) [true, false] c.F__law_one sc__law_one rfl fun cdv A outer s H E hr tk hp =>
  (sss_one (ss_ret (se_ix (se_frz 1) (se_callM (ps := ["_law_state", "_law_many"]) 0 (ok__law_take c) (hr.mono (by decide)) (by rfl) c.g__law_take c.F__law_take.kp (b__law_take c) tk (sa_cons (SB.cold (sb_callB call_lenA v_len (by rfl) c.n_len boot_len (sl_cons (sb_var 1) sl_nil))) sa_nil)))))
theorem sc__law_kinds : FnScope ["_law_state", "_law_many", "_law_found", "_law_k"] ["_law_state", "_law_many"] (defScope (top 21)) := ⟨rfl, rfl, rfl, by decide +kernel, rfl, by decide +kernel, by decide +kernel⟩
theorem b__law_kinds (c : Pf K mg) : Binds K c.d__law_kinds ["_law_state", "_law_many"] [] := c.F__law_kinds.bindsN fun _ _ _ _ _ _ us hl => match us, hl with | [_, _], _ => rfl
noncomputable def mb__law_kinds (C : Cad) : MS := (sSeq (sAsg (nLst nNil) (gN 2))
  (sSeq (sFor (mRng1 (nCons (mE2 gAdd (mCold (mC (.int 1))) (mCallM anyD 2 (sp__law_take C) 0 (nCons (mFrz 1) nNil))) nNil)) (gN 3)
  (sDrop (mAppend 2 (mFz (mCallM anyD 2 (sp__law_one C) 0 (nCons (nLst (nCons (mCold (mC (.str "one"))) (nCons (mCold (mC (.str "one"))) (nCons (mCold (mC (.str "foe"))) (nCons (mCold (mC (.str "foe"))) (nCons (mCold (mC (.str "several"))) (nCons (mCold (mC (.str "none"))) nNil))))))) nNil))))))
  (sRet (mMove 2))))
noncomputable def sp__law_kinds (C : Cad) : Fn := specOf 4 [true, false] (mb__law_kinds C)
theorem ok__law_kinds (c : Pf K mg) : FnS P w K mg base 4 c.f__law_kinds c.d__law_kinds ["_law_state", "_law_many"] (sp__law_kinds c.C) := fn_sim (k := 3) [true, false] c.F__law_kinds sc__law_kinds rfl fun cdv A outer s H E hr tk hp =>
  (sss_cons (ss_asg (se_lst sa_nil) (sg_name 2 sc__law_kinds.nd))
  (sss_cons (ss_for hp rfl (si_rng1 (by rfl) c.n_range (sa_cons (se_op op_addA v_add (SB.cold sb_int) (se_callM (ps := ["_law_state", "_law_many"]) 0 (ok__law_take c) (hr.mono (by decide)) (by rfl) c.g__law_take c.F__law_take.kp (b__law_take c) tk (sa_cons (se_frz 1) sa_nil))) sa_nil)) (sg_name 3 sc__law_kinds.nd)
  (sss_one (ss_expr (se_append 2 (se_fz (se_callM (ps := ["_law_state", "_law_things"]) 0 (ok__law_one c) (hr.mono (by decide)) (by rfl) c.g__law_one c.F__law_one.kp (b__law_one c) tk (sa_cons (se_lst (sa_cons (SB.cold sb_str) (sa_cons (SB.cold sb_str) (sa_cons (SB.cold sb_str) (sa_cons (SB.cold sb_str) (sa_cons (SB.cold sb_str) (sa_cons (SB.cold sb_str) sa_nil))))))) sa_nil)))))))
  (sss_one (ss_ret (se_move 2)))))
theorem sc__law_same : FnScope ["_law_found", "_law_due", "_law_a", "_law_b"] ["_law_found", "_law_due"] (defScope (top 19)) := ⟨rfl, rfl, rfl, by decide +kernel, rfl, by decide +kernel, by decide +kernel⟩
theorem b__law_same (c : Pf K mg) : Binds K c.d__law_same ["_law_found", "_law_due"] [] := c.F__law_same.bindsN fun _ _ _ _ _ _ us hl => match us, hl with | [_, _], _ => rfl
noncomputable def mb__law_same (C : Cad) (self : Fn) : MS := (sSeq (sIf (mCold (mB1 (gIsi (cls C) [.ty "list", .ty "tuple"]) (mVar 1)))
  (sSeq (sIf (mOr (mCold (mB2 gNe (mB1 (gIsi (cls C) [.ty "list"]) (mVar 0)) (mB1 (gIsi (cls C) [.ty "list"]) (mVar 1)))) (mCold (mB2 gNe (mB1 (gIsi (cls C) [.ty "tuple"]) (mVar 0)) (mB1 (gIsi (cls C) [.ty "tuple"]) (mVar 1)))))
  (sRet (mCold (mC (.bl false))))
  sNext)
  (sRet (mAnd (mCold (mB2 gEq (mBN gLen (mCons (mVar 0) mNil)) (mBN gLen (mCons (mVar 1) mNil)))) (mEN gAll (nCons (mFz (mLc (mZip (nCons (mFrz 0) (nCons (mFrz 1) nNil))) [2, 3] (gT 2 (gCons' (gN 2) (gCons' (gN 3) gNil'))) mYes (mUp (mCallP 2 self (mCons (mVar 2) (mCons (mVar 3) mNil)))))) nNil)))))
  sNext)
  (sSeq (sIf (mCold (mB1 (gIsi (cls C) [.ty "int"]) (mVar 1)))
  (sRet (mAnd (mCold (mB1 (gIsi (cls C) [.ty "int"]) (mVar 0))) (mAnd (mCold (mB2 gEq (mB1 (gIsi (cls C) [.ty "bool"]) (mVar 0)) (mB1 (gIsi (cls C) [.ty "bool"]) (mVar 1)))) (mCold (mB2 gEq (mVar 0) (mVar 1))))))
  sNext)
  (sRet (mAnd (mCold (mB2 gIs (mB1 (gIsi (cls C) [.ty "bool", .ty "int", .ty "list", .ty "tuple"]) (mVar 0)) (mC (.bl false)))) (mCold (mB2 gEq (mVar 0) (mVar 1)))))))
noncomputable def sp__law_same (C : Cad) : Nat → Fn
  | 0 => fun _ => .bad
  | n + 1 => specOf 4 [false, false] (mb__law_same C (sp__law_same C n))
theorem ok__law_same (c : Pf K mg) : ∀ n, FnS P w K mg base (1 + n) c.f__law_same c.d__law_same ["_law_found", "_law_due"] (sp__law_same c.C n)
  | 0 => fn_bad
  | n + 1 => fn_sim (k := 1 + n) [false, false] c.F__law_same sc__law_same rfl fun cdv A outer s H E hr tk hp =>
  (sss_cons (ss_if (st_val (SB.cold (sb_isiT c.own (by rfl) c.n_isinstance (sb_var 1) (.cons (pe_bltn (v := .ty "list") (by rfl) c.n_list boot_list rfl) (.cons (pe_bltn (v := .ty "tuple") (by rfl) c.n_tuple boot_tuple rfl) .nil)))))
  (sss_cons (ss_if (SW.st (sw_or (st_cmpB (op_neD hr.units) v_ne (sb_isi c.own (by rfl) c.n_isinstance (sb_var 0) (pe_bltn (v := .ty "list") (by rfl) c.n_list boot_list rfl)) (sb_isi c.own (by rfl) c.n_isinstance (sb_var 1) (pe_bltn (v := .ty "list") (by rfl) c.n_list boot_list rfl))) (sw_or1 (st_cmpB (op_neD hr.units) v_ne (sb_isi c.own (by rfl) c.n_isinstance (sb_var 0) (pe_bltn (v := .ty "tuple") (by rfl) c.n_tuple boot_tuple rfl)) (sb_isi c.own (by rfl) c.n_isinstance (sb_var 1) (pe_bltn (v := .ty "tuple") (by rfl) c.n_tuple boot_tuple rfl))))))
  (sss_one (ss_ret (SB.cold sb_bl)))
  sss_nil)
  (sss_one (ss_ret (se_and (SB.cold (sb_cmp (op_eqD hr.units) v_eq (sb_callB call_lenA v_len (by rfl) c.n_len boot_len (sl_cons (sb_var 0) sl_nil)) (sb_callB call_lenA v_len (by rfl) c.n_len boot_len (sl_cons (sb_var 1) sl_nil)))) (by exact se_one (se_callB (cr_all rfl) v_all (by rfl) c.n_all boot_all (sa_cons (se_fz (se_lc (own := [("_law_a", 2), ("_law_b", 3)]) rfl sc__law_same.nd (si_zip (by rfl) c.n_zip (sa_cons (se_frz 0) (sa_cons (se_frz 1) sa_nil))) (blkOk_by (by kernel_rfl)) (fun _ _ _ _ _ => (sgo_tup (n := 2) (by rfl) (sgso_cons (sgo_name 2 sc__law_same.nd) (sgso_cons (sgo_name 3 sc__law_same.nd) sgso_nil)))) (fun _ _ _ _ _ => sts_nil) (fun _ _ _ _ _ => (se_callP (ps := ["_law_found", "_law_due"]) (ok__law_same c n) hr (by rfl) c.g__law_same c.F__law_same.kp (b__law_same c) (by exact G.takes0) (sl_cons (sb_var 2) (sl_cons (sb_var 3) sl_nil)))))) sa_nil)))))))
  sss_nil)
  (sss_cons (ss_if (st_val (SB.cold (sb_isi c.own (by rfl) c.n_isinstance (sb_var 1) (pe_bltn (v := .ty "int") (by rfl) c.n_int boot_int rfl))))
  (sss_one (ss_ret (se_and (SB.cold (sb_isi c.own (by rfl) c.n_isinstance (sb_var 0) (pe_bltn (v := .ty "int") (by rfl) c.n_int boot_int rfl))) (se_and (SB.cold (sb_cmp (op_eqD hr.units) v_eq (sb_isi c.own (by rfl) c.n_isinstance (sb_var 0) (pe_bltn (v := .ty "bool") (by rfl) c.n_bool boot_bool rfl)) (sb_isi c.own (by rfl) c.n_isinstance (sb_var 1) (pe_bltn (v := .ty "bool") (by rfl) c.n_bool boot_bool rfl)))) (by exact se_one (SB.cold (sb_cmp (op_eqD hr.units) v_eq (sb_var 0) (sb_var 1))))))))
  sss_nil)
  (sss_one (ss_ret (se_and (SB.cold (sb_cmp op_isA v_is (sb_isiT c.own (by rfl) c.n_isinstance (sb_var 0) (.cons (pe_bltn (v := .ty "bool") (by rfl) c.n_bool boot_bool rfl) (.cons (pe_bltn (v := .ty "int") (by rfl) c.n_int boot_int rfl) (.cons (pe_bltn (v := .ty "list") (by rfl) c.n_list boot_list rfl) (.cons (pe_bltn (v := .ty "tuple") (by rfl) c.n_tuple boot_tuple rfl) .nil))))) sb_bl)) (by exact se_one (SB.cold (sb_cmp (op_eqD hr.units) v_eq (sb_var 0) (sb_var 1)))))))))
theorem sc_Slots_runs : FnScope ["self"] ["self"] (defScope (inClass (top 11) 1)) := ⟨rfl, rfl, rfl, by decide +kernel, rfl, by decide +kernel, by decide +kernel⟩
theorem b_Slots_runs (c : Pf K mg) : Binds K c.d_Slots_runs ["self"] [] := c.F_Slots_runs.bindsN fun _ _ _ _ _ _ us hl => match us, hl with | [_], _ => rfl
noncomputable def mb_Slots_runs (C : Cad) : MS := (sRet (mOwnN gList (mCons (mB1 (fldD (cs_run_rows C) "run_rows") (mVar 0)) mNil)))
noncomputable def sp_Slots_runs (C : Cad) : Fn := specOf 1 [false] (mb_Slots_runs C)
theorem ok_Slots_runs (c : Pf K mg) : FnS P w K mg base 1 c.f_Slots_runs c.d_Slots_runs ["self"] (sp_Slots_runs c.C) := fn_sim (k := 0) [false] c.F_Slots_runs sc_Slots_runs rfl fun cdv A outer s H E hr tk hp =>
  (sss_one (ss_ret (se_callTyL (call_listA rfl) v_list (by rfl) c.n_list boot_list (sl_cons (sb_fld c.fl_run_rows (sb_var 0)) sl_nil))))
theorem sc_Slots_many_slots : FnScope ["self", "kind", "many"] ["self"] (defScope (inClass (top 11) 2)) := ⟨rfl, rfl, rfl, by decide +kernel, rfl, by decide +kernel, by decide +kernel⟩
theorem b_Slots_many_slots (c : Pf K mg) : Binds K c.d_Slots_many_slots ["self"] [] := c.F_Slots_many_slots.bindsN fun _ _ _ _ _ _ us hl => match us, hl with | [_], _ => rfl
noncomputable def mb_Slots_many_slots (C : Cad) : MS := (sRet (mEN gSum (nCons (mFz (mLc (mIt (mCold (mB1 (fldD (cs_run_rows C) "run_rows") (mVar 0)))) [1, 2] (gT 2 (gCons' (gN 1) (gCons' (gN 2) gNil'))) mYes (mFrz 2))) nNil)))
noncomputable def sp_Slots_many_slots (C : Cad) : Fn := specOf 3 [false] (mb_Slots_many_slots C)
theorem ok_Slots_many_slots (c : Pf K mg) : FnS P w K mg base 1 c.f_Slots_many_slots c.d_Slots_many_slots ["self"] (sp_Slots_many_slots c.C) := fn_sim (k := 0) [false] c.F_Slots_many_slots sc_Slots_many_slots rfl fun cdv A outer s H E hr tk hp =>
  (sss_one (ss_ret (se_callB (cr_sum rfl) v_sum (by rfl) c.n_sum boot_sum (sa_cons (se_fz (se_lc (own := [("kind", 1), ("many", 2)]) rfl sc_Slots_many_slots.nd (si_seq (SB.cold (sb_fld c.fl_run_rows (sb_var 0)))) (blkOk_by (by kernel_rfl)) (fun _ _ _ _ _ => (sgo_tup (n := 2) (by rfl) (sgso_cons (sgo_name 1 sc_Slots_many_slots.nd) (sgso_cons (sgo_name 2 sc_Slots_many_slots.nd) sgso_nil)))) (fun _ _ _ _ _ => sts_nil) (fun _ _ _ _ _ => (se_frz 2)))) sa_nil))))
theorem sc_check_slot : FnScope ["row", "slot"] ["row", "slot"] (defScope (top 12)) := ⟨rfl, rfl, rfl, by decide +kernel, rfl, by decide +kernel, by decide +kernel⟩
theorem b_check_slot (c : Pf K mg) : Binds K c.d_check_slot ["row", "slot"] [] := c.F_check_slot.bindsN fun _ _ _ _ _ _ us hl => match us, hl with | [_, _], _ => rfl
noncomputable def mb_check_slot (C : Cad) : MS := (sIf (mOr (mNot (mUp (mCallP 1 (sp_is_integer C) (mCons (mVar 1) mNil)))) (mNot (mCold (mChain gLt gLe (mC (.int 0)) (mVar 1) (mCallP 1 (sp_Slots_many_slots C) (mCons (mRecv C.Slots "many_slots" (mVar 0)) mNil))))))
  sNever
  sNext)
noncomputable def sp_check_slot (C : Cad) : Fn := specOf 2 [false, false] (mb_check_slot C)
theorem ok_check_slot (c : Pf K mg) : FnS P w K mg base 2 c.f_check_slot c.d_check_slot ["row", "slot"] (sp_check_slot c.C) := fn_sim (k := 1) [false, false] c.F_check_slot sc_check_slot rfl fun cdv A outer s H E hr tk hp =>
  (sss_one (ss_if (SW.st (sw_or (st_not (st_val (se_callP (ps := ["thing"]) (ok_is_integer c) (hr.mono (by decide)) (by rfl) c.g_is_integer c.F_is_integer.kp (b_is_integer c) tk (sl_cons (sb_var 1) sl_nil)))) (sw_or1 (st_not (st_chain op_lt op_le v_lt v_le sb_int (sb_var 1) (methP0 (ps := ["self"]) c.cl_Slots c.m_Slots_many_slots (ok_Slots_many_slots c) (hr.mono (by decide)) (b_Slots_many_slots c) tk (sb_var 0)).1)))))
  (sss_one ss_never)
  sss_nil))
theorem sc_Slots_kind_of : FnScope ["self", "slot", "left", "kind", "many"] ["self", "slot"] (defScope (inClass (top 11) 3)) := ⟨rfl, rfl, rfl, by decide +kernel, rfl, by decide +kernel, by decide +kernel⟩
theorem b_Slots_kind_of (c : Pf K mg) : Binds K c.d_Slots_kind_of ["self", "slot"] [] := c.F_Slots_kind_of.bindsN fun _ _ _ _ _ _ us hl => match us, hl with | [_, _], _ => rfl
noncomputable def mb_Slots_kind_of (C : Cad) : MS := (sSeq (sDrop (mUp (mCallP 2 (sp_check_slot C) (mCons (mVar 0) (mCons (mVar 1) mNil)))))
  (sSeq (sAsg (mFrz 1) (gN 2))
  (sSeq (sFor (mIt (mCold (mB1 (fldD (cs_run_rows C) "run_rows") (mVar 0)))) (gT 2 (gCons' (gN 3) (gCons' (gN 4) gNil')))
  (sSeq (sIf (mCold (mB2 gLe (mVar 2) (mVar 4)))
  (sRet (mFrz 3))
  sNext)
  (sAsg (mCold (mB2 gSub (mVar 2) (mVar 4))) (gN 2))))
  (sRet (mCold (mC .non))))))
noncomputable def sp_Slots_kind_of (C : Cad) : Fn := specOf 5 [false, false] (mb_Slots_kind_of C)
theorem ok_Slots_kind_of (c : Pf K mg) : FnS P w K mg base 3 c.f_Slots_kind_of c.d_Slots_kind_of ["self", "slot"] (sp_Slots_kind_of c.C) := fn_sim (k := 2) [false, false] c.F_Slots_kind_of sc_Slots_kind_of rfl fun cdv A outer s H E hr tk hp =>
  (sss_cons (ss_expr (se_callP (ps := ["row", "slot"]) (ok_check_slot c) (hr.mono (by decide)) (by rfl) c.g_check_slot c.F_check_slot.kp (b_check_slot c) tk (sl_cons (sb_var 0) (sl_cons (sb_var 1) sl_nil))))
  (sss_cons (ss_asg (se_frz 1) (sg_name 2 sc_Slots_kind_of.nd))
  (sss_cons (ss_for hp rfl (si_seq (SB.cold (sb_fld c.fl_run_rows (sb_var 0)))) (sg_tup (n := 2) (by rfl) (sgs_cons (sg_name 3 sc_Slots_kind_of.nd) (sgs_cons (sg_name 4 sc_Slots_kind_of.nd) sgs_nil)))
  (sss_cons (ss_if (st_cmpB op_le v_le (sb_var 2) (sb_var 4))
  (sss_one (ss_ret (se_frz 3)))
  sss_nil)
  (sss_one (ss_asg (SB.cold (sb_op op_sub v_sub (sb_var 2) (sb_var 4))) (sg_name 2 sc_Slots_kind_of.nd)))))
  (sss_one (ss_ret (SB.cold sb_non))))))
theorem sc__law_runs : FnScope ["_law_kinds_here", "_law_found", "_law_kind"] ["_law_kinds_here"] (defScope (top 22)) := ⟨rfl, rfl, rfl, by decide +kernel, rfl, by decide +kernel, by decide +kernel⟩
theorem b__law_runs (c : Pf K mg) : Binds K c.d__law_runs ["_law_kinds_here"] [] := c.F__law_runs.bindsN fun _ _ _ _ _ _ us hl => match us, hl with | [_], _ => rfl
noncomputable def mb__law_runs (C : Cad) : MS := (sSeq (sAsg (nLst nNil) (gN 1))
  (sSeq (sFor (mIt (mFrz 0)) (gN 2)
  (sIf (mAnd (mCold (mB2 gNe (mVar 1) (mLst mNil))) (mCold (mB2 gEq (mB2 ixD (mB2 ixD (mVar 1) (mB1 gNeg (mC (.int 1)))) (mC (.int 0))) (mVar 2))))
  (sSet 1 (mCold (mTup (mCons (mVar 2) (mCons (mB2 gAdd (mB2 ixD (mB2 ixD (mVar 1) (mB1 gNeg (mC (.int 1)))) (mC (.int 1))) (mC (.int 1))) mNil)))) (mB1 gNeg (mC (.int 1))))
  (sDrop (mAppend 1 (mCold (mTup (mCons (mVar 2) (mCons (mC (.int 1)) mNil))))))))
  (sRet (mMove 1))))
noncomputable def sp__law_runs (C : Cad) : Fn := specOf 3 [false] (mb__law_runs C)
theorem ok__law_runs (c : Pf K mg) : FnS P w K mg base 1 c.f__law_runs c.d__law_runs ["_law_kinds_here"] (sp__law_runs c.C) := fn_sim (k := 0) [false] c.F__law_runs sc__law_runs rfl fun cdv A outer s H E hr tk hp =>
  (sss_cons (ss_asg (se_lst sa_nil) (sg_name 1 sc__law_runs.nd))
  (sss_cons (ss_for hp rfl (si_seq (se_frz 0)) (sg_name 2 sc__law_runs.nd)
  (sss_one (ss_if (SW.st (sw_and (st_cmpB (op_neD hr.units) v_ne (sb_var 1) (sb_lst sl_nil)) (sw_and1 (st_cmpB (op_eqD hr.units) v_eq (sb_ix (u1 hr) (sb_ix (u1 hr) (sb_var 1) (sb_un un_neg v_neg sb_int)) sb_int) (sb_var 2)))))
  (sss_one (ss_set 1 (u1 hr) (SB.cold (sb_tup (sl_cons (sb_var 2) (sl_cons (sb_op op_addA v_add (sb_ix (u1 hr) (sb_ix (u1 hr) (sb_var 1) (sb_un un_neg v_neg sb_int)) sb_int) sb_int) sl_nil)))) (sb_un un_neg v_neg sb_int)))
  (sss_one (ss_expr (se_append 1 (SB.cold (sb_tup (sl_cons (sb_var 2) (sl_cons sb_int sl_nil))))))))))
  (sss_one (ss_ret (se_move 1)))))
theorem sc_law : FnScope ["_law_script", "_law_state", "_law_turn", "_law_kinds_here", "_law_others", "_law_given", "_law_row", "_law_other", "_law_both", "_law_many", "_law_great", "_law_at", "_law_x"] ["_law_script"] (defScope (top 24)) := ⟨rfl, rfl, rfl, by decide +kernel, rfl, by decide +kernel, by decide +kernel⟩
theorem b_law (c : Pf K mg) : Binds K c.d_law ["_law_script"] [] := c.F_law.bindsN fun _ _ _ _ _ _ us hl => match us, hl with | [_], _ => rfl
noncomputable def mb_law (C : Cad) : MS := (sSeq (sAsg (mUp (mCallP 1 (sp__law_fresh C) (mCons (mVar 0) mNil))) (gN 1))
  (sSeq (sFor (mRng1 (nCons (mCold (mC (.int 8))) nNil)) (gN 2)
  (sSeq (sPar 3 4 (nCons (mCallM anyD 2 (sp__law_kinds C) 1 (nCons (mCold (mC (.int 9))) nNil)) (nCons (mCallM anyD 2 (sp__law_kinds C) 1 (nCons (mCold (mC (.int 5))) nNil)) nNil)))
  (sSeq (sAsg (mCallM anyD 2 (sp__law_cut C) 1 (nCons (mFrz 3) nNil)) (gN 5))
  (sSeq (sAsg (nTup (nCons (mMakeP C.Slots 2 (sp_Slots_init C) (mCons (mVar 5) mNil)) (nCons (mMakeF C.Slots 2 (sp_Slots_init C) (nCons (mCallM anyD 2 (sp__law_cut C) 1 (nCons (mFrz 4) nNil)) nNil)) nNil))) (gT 2 (gCons' (gN 6) (gCons' (gN 7) gNil'))))
  (sSeq (sIf (mCold (mB1 (gIsi (cls C) [.ty "list"]) (mVar 5)))
  (sDrop (mAppend 5 (mCold (mTup (mCons (mC (.str "foe")) (mCons (mC (.int 9)) mNil))))))
  sNext)
  (sSeq (sDrop (mAppT (mUp (mCallP 1 (sp_Slots_runs C) (mCons (mRecv C.Slots "runs" (mVar 6)) mNil))) (mTup (mCons (mC (.str "none")) (mCons (mC (.int 3)) mNil)))))
  (sSeq (sIf (mOr (mNot (mUp (mCallP 2 (sp__law_same C 6) (mCons (mCallP 1 (sp_Slots_runs C) (mCons (mRecv C.Slots "runs" (mVar 6)) mNil)) (mCons (mCallP 1 (sp__law_runs C) (mCons (mVar 3) mNil)) mNil))))) (mCold (mB2 gNe (mCallP 1 (sp_Slots_many_slots C) (mCons (mRecv C.Slots "many_slots" (mVar 6)) mNil)) (mBN gLen (mCons (mVar 3) mNil)))))
  (sRet (mCold (mC (.bl false))))
  sNext)
  (sSeq (sIf (mNot (mCallF 2 (sp__law_same C 6) (nCons (mLc (mRng1 (nCons (mCold (mBN gLen (mCons (mVar 3) mNil))) nNil)) [11] (gN 11) mYes (mUp (mCallP 2 (sp_Slots_kind_of C) (mCons (mRecv C.Slots "kind_of" (mVar 6)) (mCons (mB2 gAdd (mVar 11) (mC (.int 1))) mNil))))) (nCons (mFrz 3) nNil))))
  (sRet (mCold (mC (.bl false))))
  sNext)
  (sSeq (sAsg (mOwn1 (gOwn2 C.Slots (sp_Slots_add C)) (mVar 6) (mVar 7)) (gN 8))
  (sSeq (sIf (mOr (mNot (mUp (mCallP 2 (sp__law_same C 6) (mCons (mCallP 1 (sp_Slots_runs C) (mCons (mRecv C.Slots "runs" (mVar 8)) mNil)) (mCons (mCallP 1 (sp__law_runs C) (mCons (mB2 gAdd (mVar 3) (mVar 4)) mNil)) mNil))))) (mE2 (gNeOwn (cls C) C.Slots (sp_Slots_eq C)) (mFrz 8) (mMakeF C.Slots 2 (sp_Slots_init C) (nCons (mCallM anyD 2 (sp__law_cut C) 1 (nCons (mOwn1 gAdd (mVar 3) (mVar 4)) nNil)) nNil))))
  (sRet (mCold (mC (.bl false))))
  sNext)
  (sSeq (sIf (mOr (mE2 (gNeOwn (cls C) C.Slots (sp_Slots_eq C)) (mFrz 6) (mMakeP C.Slots 2 (sp_Slots_init C) (mCons (mCallP 1 (sp__law_runs C) (mCons (mVar 3) mNil)) mNil))) (mEN gAny (nCons (mFz (mLc (mIt (nLst (nCons (mCold (mC .non)) (nCons (mFrz 3) (nCons (mFz (mUp (mCallP 1 (sp__law_runs C) (mCons (mVar 3) mNil)))) (nCons (mCold (mC (.int 5))) nNil)))))) [12] (gN 12) mYes (mCold (mB2 (gEqOwn (cls C) C.Slots (sp_Slots_eq C)) (mVar 6) (mVar 12))))) nNil)))
  (sRet (mCold (mC (.bl false))))
  sNext)
  (sSeq (sIf (mOr (mCold (mB2 gNe (mB2 (gEqOwn (cls C) C.Slots (sp_Slots_eq C)) (mVar 6) (mVar 7)) (mB2 gEq (mVar 3) (mVar 4)))) (mOr (mCold (mB2 (gEqOwn (cls C) C.Slots (sp_Slots_eq C)) (mVar 6) (mVar 8))) (mNot (mUp (mCallP 2 (sp__law_same C 6) (mCons (mCallP 1 (sp_Slots_runs C) (mCons (mRecv C.Slots "runs" (mVar 6)) mNil)) (mCons (mCallP 1 (sp__law_runs C) (mCons (mVar 3) mNil)) mNil)))))))
  (sRet (mCold (mC (.bl false))))
  sNext)
  (sSeq (sAsg (mE2 gAdd (mCold (mB2 gPow (mC (.int 10)) (mC (.int 14)))) (mCallM anyD 2 (sp__law_take C) 1 (nCons (mCold (mB2 gPow (mC (.int 10)) (mC (.int 6)))) nNil))) (gN 9))
  (sSeq (sAsg (mE2 (gOwn2 C.Slots (sp_Slots_add C)) (mFrz 6) (mMakeP C.Slots 2 (sp_Slots_init C) (mCons (mLst (mCons (mTup (mCons (mC (.str "foe")) (mCons (mVar 9) mNil))) (mCons (mTup (mCons (mC (.str "none")) (mCons (mVar 9) mNil))) mNil))) mNil))) (gN 10))
  (sSeq (sIf (mOr (mCold (mB2 gNe (mCallP 1 (sp_Slots_many_slots C) (mCons (mRecv C.Slots "many_slots" (mVar 10)) mNil)) (mB2 gAdd (mBN gLen (mCons (mVar 3) mNil)) (mB2 gMul (mC (.int 2)) (mVar 9))))) (mCold (mB2 gNe (mCallP 2 (sp_Slots_kind_of C) (mCons (mRecv C.Slots "kind_of" (mVar 10)) (mCons (mB2 gAdd (mB2 gAdd (mBN gLen (mCons (mVar 3) mNil)) (mVar 9)) (mC (.int 1))) mNil))) (mC (.str "none")))))
  (sRet (mCold (mC (.bl false))))
  sNext)
  (sIf (mOr (mCold (mB2 gNe (mCallP 2 (sp_Slots_kind_of C) (mCons (mRecv C.Slots "kind_of" (mVar 10)) (mCons (mB2 gAdd (mBN gLen (mCons (mVar 3) mNil)) (mVar 9)) mNil))) (mC (.str "foe")))) (mCold (mB2 gNe (mCallP 2 (sp_Slots_kind_of C) (mCons (mRecv C.Slots "kind_of" (mVar 10)) (mCons (mC (.int 1)) mNil))) (mB2 ixD (mVar 3) (mC (.int 0))))))
  (sRet (mCold (mC (.bl false))))
  sNext))))))))))))))))
  (sRet (mAnd (mE2 gEq (mCallF 1 (sp_Slots_runs C) (nCons (nRecv C.Slots "runs" (mMakeP C.Slots 2 (sp_Slots_init C) (mCons (mLst mNil) mNil))) nNil)) (nLst nNil)) (mAnd (mE2 gEq (mCallF 1 (sp_Slots_many_slots C) (nCons (nRecv C.Slots "many_slots" (mMakeP C.Slots 2 (sp_Slots_init C) (mCons (mTup mNil) mNil))) nNil)) (mCold (mC (.int 0)))) (mE2 (gEqOwn (cls C) C.Slots (sp_Slots_eq C)) (mE2 (gOwn2 C.Slots (sp_Slots_add C)) (mMakeP C.Slots 2 (sp_Slots_init C) (mCons (mLst mNil) mNil)) (mMakeP C.Slots 2 (sp_Slots_init C) (mCons (mLst mNil) mNil))) (mMakeP C.Slots 2 (sp_Slots_init C) (mCons (mLst mNil) mNil))))))))
noncomputable def sp_law (C : Cad) : Fn := specOf 13 [false] (mb_law C)
theorem ok_law (c : Pf K mg) : FnS P w K mg base 12 c.f_law c.d_law ["_law_script"] (sp_law c.C) := fn_sim (k := 11) [false] c.F_law sc_law rfl fun cdv A outer s H E hr tk hp =>
  (sss_cons (ss_asg (se_callP (ps := ["_law_script"]) (ok__law_fresh c) (hr.mono (by decide)) (by rfl) c.g__law_fresh c.F__law_fresh.kp (b__law_fresh c) tk (sl_cons (sb_var 0) sl_nil)) (sg_name 1 sc_law.nd))
  (sss_cons (ss_for hp rfl (si_rng1 (by rfl) c.n_range (sa_cons (SB.cold sb_int) sa_nil)) (sg_name 2 sc_law.nd)
  (sss_cons (ss_par (i := 3) (j := 4) rfl sc_law.nd (sa_cons (se_callM (ps := ["_law_state", "_law_many"]) 1 (ok__law_kinds c) (hr.mono (by decide)) (by rfl) c.g__law_kinds c.F__law_kinds.kp (b__law_kinds c) tk (sa_cons (SB.cold sb_int) sa_nil)) (sa_cons (se_callM (ps := ["_law_state", "_law_many"]) 1 (ok__law_kinds c) (hr.mono (by decide)) (by rfl) c.g__law_kinds c.F__law_kinds.kp (b__law_kinds c) tk (sa_cons (SB.cold sb_int) sa_nil)) sa_nil)))
  (sss_cons (ss_asg (se_callM (ps := ["_law_state", "_law_kinds_here"]) 1 (ok__law_cut c) (hr.mono (by decide)) (by rfl) c.g__law_cut c.F__law_cut.kp (b__law_cut c) tk (sa_cons (se_frz 3) sa_nil)) (sg_name 5 sc_law.nd))
  (sss_cons (ss_asg (se_tup (sa_cons (se_makeP (ps := ["self", "runs"]) c.mk_Slots (ok_Slots_init c) (hr.mono (by decide)) (by rfl) c.g_Slots (b_Slots_init c) tk (sl_cons (sb_var 5) sl_nil)) (sa_cons (se_makeF (ps := ["self", "runs"]) c.mk_Slots (ok_Slots_init c) (hr.mono (by decide)) (by rfl) c.g_Slots (b_Slots_init c) tk (sa_cons (se_callM (ps := ["_law_state", "_law_kinds_here"]) 1 (ok__law_cut c) (hr.mono (by decide)) (by rfl) c.g__law_cut c.F__law_cut.kp (b__law_cut c) tk (sa_cons (se_frz 4) sa_nil)) sa_nil)) sa_nil))) (sg_tup (n := 2) (by rfl) (sgs_cons (sg_name 6 sc_law.nd) (sgs_cons (sg_name 7 sc_law.nd) sgs_nil))))
  (sss_cons (ss_if (st_val (SB.cold (sb_isi c.own (by rfl) c.n_isinstance (sb_var 5) (pe_bltn (v := .ty "list") (by rfl) c.n_list boot_list rfl))))
  (sss_one (ss_expr (se_append 5 (SB.cold (sb_tup (sl_cons sb_str (sl_cons sb_int sl_nil)))))))
  sss_nil)
  (sss_cons (ss_expr (se_appT (methP0 (ps := ["self"]) c.cl_Slots c.m_Slots_runs (ok_Slots_runs c) (hr.mono (by decide)) (b_Slots_runs c) tk (sb_var 6)).2 (sb_tup (sl_cons sb_str (sl_cons sb_int sl_nil)))))
  (sss_cons (ss_if (SW.st (sw_or (st_not (st_val (se_callP (ps := ["_law_found", "_law_due"]) (ok__law_same c 6) (hr.mono (by decide)) (by rfl) c.g__law_same c.F__law_same.kp (b__law_same c) tk (sl_cons (methP0 (ps := ["self"]) c.cl_Slots c.m_Slots_runs (ok_Slots_runs c) (hr.mono (by decide)) (b_Slots_runs c) tk (sb_var 6)).1 (sl_cons (sb_callP (ps := ["_law_kinds_here"]) (ok__law_runs c) (hr.mono (by decide)) (by rfl) c.g__law_runs c.F__law_runs.kp (b__law_runs c) tk (sl_cons (sb_var 3) sl_nil)) sl_nil))))) (sw_or1 (st_cmpB (op_neD hr.units) v_ne (methP0 (ps := ["self"]) c.cl_Slots c.m_Slots_many_slots (ok_Slots_many_slots c) (hr.mono (by decide)) (b_Slots_many_slots c) tk (sb_var 6)).1 (sb_callB call_lenA v_len (by rfl) c.n_len boot_len (sl_cons (sb_var 3) sl_nil))))))
  (sss_one (ss_ret (SB.cold sb_bl)))
  sss_nil)
  (sss_cons (ss_if (st_not (st_val (se_callF (ps := ["_law_found", "_law_due"]) (ok__law_same c 6) (hr.mono (by decide)) (by rfl) c.g__law_same c.F__law_same.kp (b__law_same c) tk (sa_cons (se_lc (own := [("_law_at", 11)]) rfl sc_law.nd (si_rng1 (by rfl) c.n_range (sa_cons (SB.cold (sb_callB call_lenA v_len (by rfl) c.n_len boot_len (sl_cons (sb_var 3) sl_nil))) sa_nil)) (blkOk_by (by kernel_rfl)) (fun _ _ _ _ _ => (sgo_name 11 sc_law.nd)) (fun _ _ _ _ _ => sts_nil) (fun _ _ _ _ _ => (methP (ps := ["self", "slot"]) c.cl_Slots c.m_Slots_kind_of (ok_Slots_kind_of c) (hr.mono (by decide)) (b_Slots_kind_of c) (by exact G.takes0) (sb_var 6) (sl_cons (sb_op op_addA v_add (sb_var 11) sb_int) sl_nil)).2)) (sa_cons (se_frz 3) sa_nil)))))
  (sss_one (ss_ret (SB.cold sb_bl)))
  sss_nil)
  (sss_cons (ss_asg (se_opB (op_binOwn (ok_Slots_add c) (hr.mono (by decide)) (b_Slots_add c) rfl c.sf_Slots c.s_Slots_add c.i_Slots_add) v_own2 (sb_var 6) (sb_var 7)) (sg_name 8 sc_law.nd))
  (sss_cons (ss_if (SW.st (sw_or (st_not (st_val (se_callP (ps := ["_law_found", "_law_due"]) (ok__law_same c 6) (hr.mono (by decide)) (by rfl) c.g__law_same c.F__law_same.kp (b__law_same c) tk (sl_cons (methP0 (ps := ["self"]) c.cl_Slots c.m_Slots_runs (ok_Slots_runs c) (hr.mono (by decide)) (b_Slots_runs c) tk (sb_var 8)).1 (sl_cons (sb_callP (ps := ["_law_kinds_here"]) (ok__law_runs c) (hr.mono (by decide)) (by rfl) c.g__law_runs c.F__law_runs.kp (b__law_runs c) tk (sl_cons (sb_op op_addA v_add (sb_var 3) (sb_var 4)) sl_nil)) sl_nil))))) (sw_or1 (st_cmp (op_neOwn c.e_Slots (ok_Slots_eq c) (hr.mono (by decide)) (b_Slots_eq c) rfl) (v_neOwn c.e_Slots) (se_frz 8) (se_makeF (ps := ["self", "runs"]) c.mk_Slots (ok_Slots_init c) (hr.mono (by decide)) (by rfl) c.g_Slots (b_Slots_init c) tk (sa_cons (se_callM (ps := ["_law_state", "_law_kinds_here"]) 1 (ok__law_cut c) (hr.mono (by decide)) (by rfl) c.g__law_cut c.F__law_cut.kp (b__law_cut c) tk (sa_cons (se_opB op_addA v_add (sb_var 3) (sb_var 4)) sa_nil)) sa_nil))))))
  (sss_one (ss_ret (SB.cold sb_bl)))
  sss_nil)
  (sss_cons (ss_if (SW.st (sw_or (st_cmp (op_neOwn c.e_Slots (ok_Slots_eq c) (hr.mono (by decide)) (b_Slots_eq c) rfl) (v_neOwn c.e_Slots) (se_frz 6) (se_makeP (ps := ["self", "runs"]) c.mk_Slots (ok_Slots_init c) (hr.mono (by decide)) (by rfl) c.g_Slots (b_Slots_init c) tk (sl_cons (sb_callP (ps := ["_law_kinds_here"]) (ok__law_runs c) (hr.mono (by decide)) (by rfl) c.g__law_runs c.F__law_runs.kp (b__law_runs c) tk (sl_cons (sb_var 3) sl_nil)) sl_nil))) (sw_or1 (st_val (se_callB (cr_any rfl) v_any (by rfl) c.n_any boot_any (sa_cons (se_fz (se_lc (own := [("_law_x", 12)]) rfl sc_law.nd (si_seq (se_lst (sa_cons (SB.cold sb_non) (sa_cons (se_frz 3) (sa_cons (se_fz (se_callP (ps := ["_law_kinds_here"]) (ok__law_runs c) (hr.mono (by decide)) (by rfl) c.g__law_runs c.F__law_runs.kp (b__law_runs c) tk (sl_cons (sb_var 3) sl_nil))) (sa_cons (SB.cold sb_int) sa_nil)))))) (blkOk_by (by kernel_rfl)) (fun _ _ _ _ _ => (sgo_name 12 sc_law.nd)) (fun _ _ _ _ _ => sts_nil) (fun _ _ _ _ _ => (SB.cold (sb_cmp (op_eqOwn c.e_Slots (ok_Slots_eq c) (hr.mono (by decide)) (b_Slots_eq c) rfl) (v_eqOwn c.e_Slots) (sb_var 6) (sb_var 12)))))) sa_nil))))))
  (sss_one (ss_ret (SB.cold sb_bl)))
  sss_nil)
  (sss_cons (ss_if (SW.st (sw_or (st_cmpB (op_neD hr.units) v_ne (sb_cmp (op_eqOwn c.e_Slots (ok_Slots_eq c) (hr.mono (by decide)) (b_Slots_eq c) rfl) (v_eqOwn c.e_Slots) (sb_var 6) (sb_var 7)) (sb_cmp (op_eqD hr.units) v_eq (sb_var 3) (sb_var 4))) (sw_or (st_cmpB (op_eqOwn c.e_Slots (ok_Slots_eq c) (hr.mono (by decide)) (b_Slots_eq c) rfl) (v_eqOwn c.e_Slots) (sb_var 6) (sb_var 8)) (sw_or1 (st_not (st_val (se_callP (ps := ["_law_found", "_law_due"]) (ok__law_same c 6) (hr.mono (by decide)) (by rfl) c.g__law_same c.F__law_same.kp (b__law_same c) tk (sl_cons (methP0 (ps := ["self"]) c.cl_Slots c.m_Slots_runs (ok_Slots_runs c) (hr.mono (by decide)) (b_Slots_runs c) tk (sb_var 6)).1 (sl_cons (sb_callP (ps := ["_law_kinds_here"]) (ok__law_runs c) (hr.mono (by decide)) (by rfl) c.g__law_runs c.F__law_runs.kp (b__law_runs c) tk (sl_cons (sb_var 3) sl_nil)) sl_nil)))))))))
  (sss_one (ss_ret (SB.cold sb_bl)))
  sss_nil)
  (sss_cons (ss_asg (se_op op_addA v_add (SB.cold (sb_op op_pow v_pow sb_int sb_int)) (se_callM (ps := ["_law_state", "_law_many"]) 1 (ok__law_take c) (hr.mono (by decide)) (by rfl) c.g__law_take c.F__law_take.kp (b__law_take c) tk (sa_cons (SB.cold (sb_op op_pow v_pow sb_int sb_int)) sa_nil))) (sg_name 9 sc_law.nd))
  (sss_cons (ss_asg (se_op (op_binOwn (ok_Slots_add c) (hr.mono (by decide)) (b_Slots_add c) rfl c.sf_Slots c.s_Slots_add c.i_Slots_add) v_own2 (se_frz 6) (se_makeP (ps := ["self", "runs"]) c.mk_Slots (ok_Slots_init c) (hr.mono (by decide)) (by rfl) c.g_Slots (b_Slots_init c) tk (sl_cons (sb_lst (sl_cons (sb_tup (sl_cons sb_str (sl_cons (sb_var 9) sl_nil))) (sl_cons (sb_tup (sl_cons sb_str (sl_cons (sb_var 9) sl_nil))) sl_nil))) sl_nil))) (sg_name 10 sc_law.nd))
  (sss_cons (ss_if (SW.st (sw_or (st_cmpB (op_neD hr.units) v_ne (methP0 (ps := ["self"]) c.cl_Slots c.m_Slots_many_slots (ok_Slots_many_slots c) (hr.mono (by decide)) (b_Slots_many_slots c) tk (sb_var 10)).1 (sb_op op_addA v_add (sb_callB call_lenA v_len (by rfl) c.n_len boot_len (sl_cons (sb_var 3) sl_nil)) (sb_op op_mulA v_mul sb_int (sb_var 9)))) (sw_or1 (st_cmpB (op_neD hr.units) v_ne (methP (ps := ["self", "slot"]) c.cl_Slots c.m_Slots_kind_of (ok_Slots_kind_of c) (hr.mono (by decide)) (b_Slots_kind_of c) tk (sb_var 10) (sl_cons (sb_op op_addA v_add (sb_op op_addA v_add (sb_callB call_lenA v_len (by rfl) c.n_len boot_len (sl_cons (sb_var 3) sl_nil)) (sb_var 9)) sb_int) sl_nil)).1 sb_str))))
  (sss_one (ss_ret (SB.cold sb_bl)))
  sss_nil)
  (sss_one (ss_if (SW.st (sw_or (st_cmpB (op_neD hr.units) v_ne (methP (ps := ["self", "slot"]) c.cl_Slots c.m_Slots_kind_of (ok_Slots_kind_of c) (hr.mono (by decide)) (b_Slots_kind_of c) tk (sb_var 10) (sl_cons (sb_op op_addA v_add (sb_callB call_lenA v_len (by rfl) c.n_len boot_len (sl_cons (sb_var 3) sl_nil)) (sb_var 9)) sl_nil)).1 sb_str) (sw_or1 (st_cmpB (op_neD hr.units) v_ne (methP (ps := ["self", "slot"]) c.cl_Slots c.m_Slots_kind_of (ok_Slots_kind_of c) (hr.mono (by decide)) (b_Slots_kind_of c) tk (sb_var 10) (sl_cons sb_int sl_nil)).1 (sb_ix (u1 hr) (sb_var 3) sb_int)))))
  (sss_one (ss_ret (SB.cold sb_bl)))
  sss_nil)))))))))))))))))
  (sss_one (ss_ret (se_and (se_cmp (op_eqD hr.units) v_eq (se_methF0 (ps := ["self"]) c.cl_Slots c.m_Slots_runs (ok_Slots_runs c) (hr.mono (by decide)) (b_Slots_runs c) tk (se_makeP (ps := ["self", "runs"]) c.mk_Slots (ok_Slots_init c) (hr.mono (by decide)) (by rfl) c.g_Slots (b_Slots_init c) tk (sl_cons (sb_lst sl_nil) sl_nil))) (se_lst sa_nil)) (se_and (se_cmp (op_eqD hr.units) v_eq (se_methF0 (ps := ["self"]) c.cl_Slots c.m_Slots_many_slots (ok_Slots_many_slots c) (hr.mono (by decide)) (b_Slots_many_slots c) tk (se_makeP (ps := ["self", "runs"]) c.mk_Slots (ok_Slots_init c) (hr.mono (by decide)) (by rfl) c.g_Slots (b_Slots_init c) tk (sl_cons (sb_tup sl_nil) sl_nil))) (SB.cold sb_int)) (by exact se_one (se_cmp (op_eqOwn c.e_Slots (ok_Slots_eq c) (hr.mono (by decide)) (b_Slots_eq c) rfl) (v_eqOwn c.e_Slots) (se_op (op_binOwn (ok_Slots_add c) (hr.mono (by decide)) (b_Slots_add c) rfl c.sf_Slots c.s_Slots_add c.i_Slots_add) v_own2 (se_makeP (ps := ["self", "runs"]) c.mk_Slots (ok_Slots_init c) (hr.mono (by decide)) (by rfl) c.g_Slots (b_Slots_init c) tk (sl_cons (sb_lst sl_nil) sl_nil)) (se_makeP (ps := ["self", "runs"]) c.mk_Slots (ok_Slots_init c) (hr.mono (by decide)) (by rfl) c.g_Slots (b_Slots_init c) tk (sl_cons (sb_lst sl_nil) sl_nil))) (se_makeP (ps := ["self", "runs"]) c.mk_Slots (ok_Slots_init c) (hr.mono (by decide)) (by rfl) c.g_Slots (b_Slots_init c) tk (sl_cons (sb_lst sl_nil) sl_nil))))))))))
end
end K62
set_option Elab.async false
set_option linter.all false
set_option maxRecDepth 100000
set_option maxHeartbeats 4000000
namespace K62
open PySem G
/-! ### the drawing machine -/
def stD (cells : List Int) (nth v : Int) (b : Bool) : D := .lst true [.lst false (cells.map .int), .int nth, .int v, .bl b]
def fillB : MS := (sSeq (sAsg (mCold (mB2 gMod (mBN gInt (mCons (mB2 gMul (mB2 gAdd (mB2 gAdd (mVar 3) (mB2 gMul (mB2 gMul (mC (.int 10007)) (mVar 4)) (mVar 4))) (mB2 gMul (mC (.int 101)) (mVar 4))) (mB2 gAdd (mC (.int 48271)) (mB2 gMul (mC (.int 2)) (mVar 4)))) mNil)) (mVar 5))) (gN 6))
  (sSet 0 (mOwn1 gAdd (mB2 gMul (mB2 ixD (mVar 0) (mC (.int 2))) (mVar 5)) (mB2 gMod (mBN gInt (mCons (mB2 gPow (mVar 6) (mC (.int 5))) mNil)) (mVar 5))) (mC (.int 2))))
def fillP : MS := (sIf (mCold (mB2 ixD (mVar 0) (mC (.int 3))))
  (sSeq (sSet 0 (mCold (mC (.int 0))) (mC (.int 2)))
  (sFor (mEnum (nCons (mCold (mTup (mCons (mC (.int 2147483647)) (mCons (mC (.int 2147483629)) (mCons (mC (.int 2147483587)) (mCons (mC (.int 2147483579)) (mCons (mC (.int 2147483563)) mNil))))))) nNil)) (gT 2 (gCons' (gN 4) (gCons' (gN 5) gNil')))
  fillB))
  sNext)
def fillS : MS := (sIf (mCold (mB2 gGt (mBN gLen (mCons (mVar 1) mNil)) (mC (.int 0))))
  (sAsg (mOwn1 gAdd (mB2 gMul (mC (.int 104729)) (mB2 gDiv (mVar 2) (mBN gLen (mCons (mVar 1) mNil)))) (mB2 ixD (mVar 1) (mB2 gMod (mBN gInt (mCons (mVar 2) mNil)) (mBN gLen (mCons (mVar 1) mNil))))) (gN 3))
  sNext)
def fillT : ME := (mOr (mCold (mB2 gGe (mVar 2) (mBN gLen (mCons (mVar 1) mNil)))) (mCold (mB2 gLt (mVar 3) (mB2 gPow (mC (.int 10)) (mC (.int 18))))))
theorem mb_fill_eq (C : Cad) : mb__law_fill C = (sSeq (sPar 1 2 (nCons (mCold (mB2 ixD (mVar 0) (mC (.int 0)))) (nCons (mCold (mB2 ixD (mVar 0) (mC (.int 1)))) nNil)))
  (sSeq (sAsg (mOwn1 gAdd (mB2 gMul (mC (.int 31)) (mVar 2)) (mC (.int 7))) (gN 3))
  (sSeq fillS
  (sSeq (sSet 0 (mOwn1 gAdd (mVar 2) (mC (.int 1))) (mC (.int 1)))
  (sSeq (sSet 0 fillT (mC (.int 3)))
  (sSeq (sSet 0 (mCold (mB2 G.gSub (mVar 3) (mB2 gPow (mC (.int 10)) (mC (.int 18))))) (mC (.int 2)))
  fillP)))))) := rfl
theorem fill_step (cells : List Int) (nth v seed : Int) (b : Bool) (k p : Int) (a1 a2 a6 : Option D) (hk : 0 ≤ k) (hk2 : k ≤ 4) (hp : 0 < p) (hp2 : p < 2147483648) (hv : 0 ≤ v) : ∃ v' far, 0 ≤ v' ∧
    fillB [some (stD cells nth v b), a1, a2, some (.int seed), some (.int k), some (.int p), a6] = .nx [some (stD cells nth v' b), a1, a2, some (.int seed), some (.int k), some (.int p), far] := by
  have m1 : mulOk 10007 k = true := mul_l (by omega)
  have m2 : mulOk (10007 * k) k = true := mul_r (by omega)
  have m3 : mulOk 101 k = true := mul_l (by omega)
  have m4 : mulOk 2 k = true := mul_l (by omega)
  have m5 : mulOk (seed + 10007 * k * k + 101 * k) (48271 + 2 * k) = true := mul_r (by omega)
  have m6 : modOk ((seed + 10007 * k * k + 101 * k) * (48271 + 2 * k)) p = true := mod_p hp
  have m7 : mulOk v p = true := mul_r (by omega)
  have f0 := Int.emod_nonneg ((seed + 10007 * k * k + 101 * k) * (48271 + 2 * k)) (show p ≠ 0 by omega)
  have f1 := Int.emod_lt_of_pos ((seed + 10007 * k * k + 101 * k) * (48271 + 2 * k)) hp
  generalize hf : ((seed + 10007 * k * k + 101 * k) * (48271 + 2 * k)) % p = far at f0 f1
  have m8 : powOk far 5 = true := pow_p (by omega) (by omega) (by omega)
  have m9 : modOk (far ^ 5) p = true := mod_p hp
  refine ⟨v * p + far ^ 5 % p, some (.int far), ?_, ?_⟩
  · have h1 : 0 ≤ v * p := Int.mul_nonneg hv (by omega)
    have h2 := Int.emod_nonneg (far ^ 5) (show p ≠ 0 by omega)
    omega
  · simp [fillB, m1, m2, m3, m4, m5, m6, hf, stD, ix2, m7, m8, m9]
theorem fill_for (cells : List Int) (nth seed : Int) (b : Bool) (a1 a2 : Option D) (ps : List Int) (hps : ∀ p ∈ ps, 0 < p ∧ p < 2147483648) : ∀ (k : Nat), k + ps.length ≤ 5 → ∀ (v : Int) (a4 a5 a6 : Option D), 0 ≤ v → ∃ v' a4' a5' a6', 0 ≤ v' ∧
    forN (gT 2 (gCons' (gN 4) (gCons' (gN 5) gNil'))) fillB ((ps.zipIdx k).map fun p => .tup [.int (p.2 : Nat), .int p.1])
  [some (stD cells nth v b), a1, a2, some (.int seed), a4, a5, a6] = .nx [some (stD cells nth v' b), a1, a2, some (.int seed), a4', a5', a6'] := by
  induction ps with
  | nil => intro k _ v a4 a5 a6 hv; exact ⟨v, a4, a5, a6, hv, rfl⟩
  | cons p ps ih =>
    intro k hk v a4 a5 a6 hv
    have hp := hps p List.mem_cons_self
    simp only [List.length_cons] at hk
    obtain ⟨v1, far, h1, h2⟩ := fill_step cells nth v seed b (k : Int) p a1 a2 a6 (by omega) (by omega) hp.1 hp.2 hv
    obtain ⟨v', a4', a5', a6', h3, h4⟩ := ih (fun q h => hps q (List.mem_cons_of_mem _ h)) (k + 1) (by omega) v1 (some (.int k)) (some (.int p)) far h1
    refine ⟨v', a4', a5', a6', h3, ?_⟩
    rw [List.zipIdx_cons, List.map_cons, forN_cons]
    simp [h2, h4]
theorem fill_seed (cells : List Int) (nth s0 : Int) (a0 a4 a5 a6 : Option D) (hn : 0 ≤ nth) (hl : cells.length ≤ 100) : ∃ seed : Int, fillS [a0, some (.lst false (cells.map .int)), some (.int nth), some (.int s0), a4, a5, a6] = .nx [a0, some (.lst false (cells.map .int)), some (.int nth), some (.int seed), a4, a5, a6] := by
  by_cases hc : cells = []
  · subst hc
    exact ⟨s0, by simp [fillS]⟩
  · have hpos : 0 < cells.length := List.length_pos_iff.mpr hc
    have h0 := Int.emod_nonneg nth (show (cells.length : Int) ≠ 0 by omega)
    have h1 := Int.emod_lt_of_pos nth (show (0 : Int) < cells.length by omega)
    have d1 : divOk nth cells.length = true := div_p (by omega) (by omega)
    have d2 : modOk nth cells.length = true := mod_p (by omega)
    have d3 : mulOk 104729 (nth / (cells.length : Int)) = true := mul_l (by omega)
    obtain ⟨hlt, hat⟩ := atI_in (xs := cells.map D.int) (i := nth % (cells.length : Int)) h0 (by simpa using h1)
    have hix : ixD (.lst false (cells.map .int)) (.int (nth % (cells.length : Int))) = some (.int (cells[(nth % (cells.length : Int)).toNat]'(by simpa using hlt))) := by
      show L2.atI (cells.map D.int) _ = _
      rw [hat]
      simp
    refine ⟨104729 * (nth / (cells.length : Int)) + cells[(nth % (cells.length : Int)).toNat]'(by simpa using hlt), ?_⟩
    simp [fillS, d1, d2, d3, hix, hpos]
theorem fill_prime (cells : List Int) (nth seed v : Int) (w : Bool) (a1 a2 : Option D) (hw : w = false → 0 ≤ v) : ∃ v' r, 0 ≤ v' ∧ fillP [some (stD cells nth v w), a1, a2, some (.int seed), none, none, none] = .nx (some (stD cells nth v' w) :: r) := by
  cases w with
  | false => exact ⟨v, [a1, a2, some (.int seed), none, none, none], hw rfl, by simp [fillP, stD, ix3]⟩
  | true =>
    obtain ⟨v', a4, a5, a6, h1, h2⟩ := fill_for cells nth seed true a1 a2 [2147483647, 2147483629, 2147483587, 2147483579, 2147483563] (by simp) 0 (by simp) 0 none none none (by omega)
    refine ⟨v', [a1, a2, some (.int seed), a4, a5, a6], h1, ?_⟩
    have e : enumD [.int 2147483647, .int 2147483629, .int 2147483587, .int 2147483579, .int 2147483563] = ((([2147483647, 2147483629, 2147483587, 2147483579, 2147483563] : List Int).zipIdx 0).map fun p => D.tup [.int (p.2 : Nat), .int p.1]) := rfl
    have t : Rl.tup (.ok [.int 2147483647, .int 2147483629, .int 2147483587, .int 2147483579, .int 2147483563]) = .ok (.tup [.int 2147483647, .int 2147483629, .int 2147483587, .int 2147483579, .int 2147483563]) := tup_ok rfl (le_size (by simp))
    have t2 : ∀ e, Rb.cold (.ok (.tup [.int 2147483647, .int 2147483629, .int 2147483587, .int 2147483579, .int 2147483563])) e = .ok (.tup [.int 2147483647, .int 2147483629, .int 2147483587, .int 2147483579, .int 2147483563]) e := fun e => cold_ok rfl e
    rw [← e] at h2
    simp only [stD] at h2 ⊢
    simp [fillP, ix3, t, t2, h2]
theorem fill_ok (C : Cad) (cells : List Int) (nth v : Int) (b : Bool) (hn : 0 ≤ nth) (hl : cells.length ≤ 100) : ∃ v' b', 0 ≤ v' ∧ sp__law_fill C [stD cells nth v b] = .ok .non [stD cells (nth + 1) v' b'] := by
  have m1 : mulOk 31 nth = true := mul_l (by omega)
  have e18 : powOk 10 18 = true := rfl
  obtain ⟨seed, hs⟩ := fill_seed cells nth (31 * nth + 7) (some (stD cells nth v b)) none none none hn hl
  obtain ⟨w, hw, ht⟩ : ∃ w : Bool, (w = false → 0 ≤ seed - 1000000000000000000) ∧ ∀ a0 a4 a5 a6, fillT [a0, some (.lst false (cells.map .int)), some (.int nth), some (.int seed), a4, a5, a6] = .ok (.bl w) [a0, some (.lst false (cells.map .int)), some (.int nth), some (.int seed), a4, a5, a6] := by
    by_cases hc : (cells.length : Int) ≤ nth
    · exact ⟨true, by simp, fun _ _ _ _ => by simp [fillT, hc]⟩
    · by_cases hd : seed < 1000000000000000000
      · exact ⟨true, by simp, fun _ _ _ _ => by simp [fillT, hc, e18, hd]⟩
      · exact ⟨false, by omega, fun _ _ _ _ => by simp [fillT, hc, e18, hd]⟩
  obtain ⟨v', r, h1, h2⟩ := fill_prime cells (nth + 1) seed (seed - 1000000000000000000) w (some (.lst false (cells.map .int))) (some (.int nth)) hw
  refine ⟨v', w, h1, ?_⟩
  have : mb__law_fill C (startE 7 [stD cells nth v b]) = .nx (some (stD cells (nth + 1) v' w) :: r) := by
    show mb__law_fill C [some (stD cells nth v b), none, none, none, none, none, none] = _
    rw [mb_fill_eq]
    simp only [stD] at hs h2 ⊢
    simp [ix0, ix1, cold_ok (cold_ints cells), m1, hs, ht, e18, h2]
  unfold sp__law_fill
  rw [spec_nx this]
  simp [fin]
end K62
set_option Elab.async false
set_option linter.all false
set_option maxRecDepth 100000
set_option maxHeartbeats 4000000
namespace K62
open PySem G
/-- a state of the machine -/
def St (d : D) : Prop := ∃ cells nth v b, d = stD cells nth v b ∧ 0 ≤ nth ∧ 0 ≤ v ∧ cells.length ≤ 100
def takeC : ME := (mAnd (mCold (mB2 gLt (mVar 2) (mC (.int 64)))) (mOr (mCold (mB2 gEq (mB2 ixD (mVar 0) (mC (.int 2))) (mC (.int 0)))) (mAnd (mCold (mB2 ixD (mVar 0) (mC (.int 3)))) (mCold (mB2 gLt (mB2 ixD (mVar 0) (mC (.int 2))) (mB2 gMul (mVar 1) (mC (.int 4096))))))))
def takeI : MS := (sIf (mAnd (mCold (mB2 ixD (mVar 0) (mC (.int 3)))) (mCold (mB2 gLt (mB2 ixD (mVar 0) (mC (.int 2))) (mB2 gMul (mVar 1) (mC (.int 4096))))))
  (sSet 0 (mOwn1 gAdd (mB2 ixD (mVar 0) (mC (.int 2))) (mB2 gMul (mB2 gMul (mVar 1) (mC (.int 4096))) (mB2 gAdd (mC (.int 1)) (mB2 gMod (mBN gInt (mCons (mB2 ixD (mVar 0) (mC (.int 2))) mNil)) (mC (.int 4093)))))) (mC (.int 2)))
  sNext)
noncomputable def takeB (C : Cad) : MS := (sSeq (sDrop (mCallM anyD 1 (sp__law_fill C) 0 nNil)) (sSeq (sAug 2 gAddI (mCold (mC (.int 1)))) takeI))
theorem mb_take_eq (C : Cad) : mb__law_take C = (sSeq (sAsg (mCold (mC (.int 0))) (gN 2))
  (sSeq (sWhile takeC (takeB C))
  (sSeq (sAsg (mCold (mB2 gMod (mBN gInt (mCons (mB2 ixD (mVar 0) (mC (.int 2))) mNil)) (mVar 1))) (gN 3))
  (sSeq (sSet 0 (mCold (mB2 gDiv (mB2 ixD (mVar 0) (mC (.int 2))) (mVar 1))) (mC (.int 2)))
  (sRet (mFrz 3)))))) := rfl
theorem take_test (cells : List Int) (nth v : Int) (b : Bool) (many laps : Int) (a3 : Option D) : ∃ w, (w = true → laps < 64) ∧ takeC [some (stD cells nth v b), some (.int many), some (.int laps), a3] = .ok (.bl w) [some (stD cells nth v b), some (.int many), some (.int laps), a3] := by
  have m1 : mulOk many 4096 = true := mul_r (by omega)
  by_cases h1 : laps < 64
  · by_cases h2 : v = 0
    · exact ⟨true, fun _ => h1, by simp [takeC, stD, ix2, ix3, gEq_int, h1, h2]⟩
    · cases b with
      | false => exact ⟨false, by simp, by simp [takeC, stD, ix2, ix3, gEq_int, h1, h2]⟩
      | true => exact ⟨decide (v < many * 4096), fun _ => h1, by simp [takeC, stD, ix2, ix3, gEq_int, h1, h2, m1]⟩
  · exact ⟨false, by simp, by simp [takeC, h1]⟩
theorem take_inner (cells : List Int) (nth v : Int) (b : Bool) (many : Int) (a2 a3 : Option D) (hv : 0 ≤ v) (hm : 0 < many) (hm2 : many < 2 ^ 50) : ∃ v', 0 ≤ v' ∧ takeI [some (stD cells nth v b), some (.int many), a2, a3] = .nx [some (stD cells nth v' b), some (.int many), a2, a3] := by
  have m1 : mulOk many 4096 = true := mul_r (by omega)
  have h0 := Int.emod_nonneg v (show (4093 : Int) ≠ 0 by omega)
  have h1 := Int.emod_lt_of_pos v (show (0 : Int) < 4093 by omega)
  have m2 : mulOk (many * 4096) (1 + v % 4093) = true := mul_r (by omega)
  have m3 : modOk v 4093 = true := rfl
  cases b with
  | false => exact ⟨v, hv, by simp [takeI, stD, ix3]⟩
  | true =>
    by_cases h2 : v < many * 4096
    · refine ⟨v + many * 4096 * (1 + v % 4093), ?_, by simp [takeI, stD, ix2, ix3, h2, m1, m2, m3]⟩
      have : 0 ≤ many * 4096 * (1 + v % 4093) := Int.mul_nonneg (by omega) (by omega)
      omega
    · exact ⟨v, hv, by simp [takeI, stD, ix2, ix3, h2, m1]⟩
theorem take_ok (C : Cad) {s : D} (hs : St s) {many : Int} (hm : 0 < many) (hm2 : many < 2 ^ 50) : ∃ (digit : Int) (s' : D), 0 ≤ digit ∧ digit < many ∧ St s' ∧ sp__law_take C [s, .int many] = .ok (.int digit) [s', .int many] := by
  obtain ⟨e', h1, s1, laps, rfl, hs1⟩ := sWhile_to (c := takeC) (b := takeB C) (fun k e => ∃ s laps, e = [some s, some (.int many), some (.int laps), none] ∧ St s ∧ (64 - laps).toNat ≤ k) (fun e => ∃ s laps, e = [some s, some (.int many), some (.int laps), none] ∧ St s) (fun k e ⟨s, laps, he, ⟨cells, nth, v, b, hs, hn, hv, hl⟩, hk⟩ => by
    subst he hs
    obtain ⟨w, hw, ht⟩ := take_test cells nth v b many laps none
    cases w with
    | false => exact .inr ⟨_, ht, _, _, rfl, cells, nth, v, b, rfl, hn, hv, hl⟩
    | true =>
      obtain ⟨v1, b1, hv1, hf⟩ := fill_ok C cells nth v b hn hl
      obtain ⟨v2, hv2, h2⟩ := take_inner cells (nth + 1) v1 b1 many (some (.int (laps + 1))) none hv1 hm hm2
      have := hw rfl
      refine .inl ⟨_, [some (stD cells (nth + 1) v2 b1), some (.int many), some (.int (laps + 1)), none], k - 1, ht, by omega, ?_, _, _, rfl, ⟨cells, nth + 1, v2, b1, rfl, by omega, hv2, hl⟩, by omega⟩
      have c1 := callM_ok (n := 1) (i := 0) (f := sp__law_fill C) (m := nNil) (e := [some (stD cells nth v b), some (.int many), some (.int laps), none]) rfl rfl rfl rfl hf
      have c2 := aug_int (i := 2) (m := mCold (mC (.int 1))) (e := [some (stD cells (nth + 1) v1 b1), some (.int many), some (.int laps), none]) (a := laps) (b := 1) (by simp) (by simp)
      simp only [List.set_cons_zero, List.set_cons_succ] at c1 c2
      simp [takeB, c1, c2, h2]) 64 [some s, some (.int many), some (.int 0), none] ⟨s, 0, rfl, hs, by omega⟩
  obtain ⟨cells, nth, v, b, rfl, hn, hv, hl⟩ := hs1
  have d1 : divOk v many = true := div_p hm (by omega)
  have d2 : modOk v many = true := mod_p hm
  refine ⟨v % many, stD cells nth (v / many) b, Int.emod_nonneg v (by omega), Int.emod_lt_of_pos v hm, ⟨cells, nth, v / many, b, rfl, hn, Int.ediv_nonneg hv (by omega), hl⟩, ?_⟩
  have : mb__law_take C (startE 4 [s, .int many]) = .rt (.int (v % many)) [some (stD cells nth (v / many) b), some (.int many), some (.int laps), some (.int (v % many))] := by
    show mb__law_take C [some s, some (.int many), none, none] = _
    rw [mb_take_eq]
    simp only [stD] at h1 ⊢
    simp [h1, ix2, d1, d2, D.frz]
  unfold sp__law_take
  rw [spec_rt this]
  simp [fin, D.cold]
end K62
set_option Elab.async false
set_option linter.all false
set_option maxRecDepth 100000
set_option maxHeartbeats 4000000
namespace K62
open PySem G
theorem one_ok (C : Cad) {s : D} (hs : St s) {ds : List D} (h0 : ds ≠ []) (hl : ds.length ≤ 1000) (hc : colds ds = true) : ∃ d s', d ∈ ds ∧ d.cold = true ∧ St s' ∧ sp__law_one C [s, .lst false ds] = .ok d [s', .lst false ds] := by
  have hpos : 0 < ds.length := List.length_pos_iff.mpr h0
  obtain ⟨digit, s', d0, d1, hs', ht⟩ := take_ok C hs (many := ds.length) (by omega) (by omega)
  obtain ⟨hlt, hat⟩ := atI_in (xs := ds) d0 d1
  have hcold : (ds[digit.toNat]'hlt).cold = true := cold_mem hc (List.getElem_mem hlt)
  refine ⟨ds[digit.toNat]'hlt, s', List.getElem_mem hlt, hcold, hs', ?_⟩
  have c1 := callM_eq (n := 2) (i := 0) (f := sp__law_take C) (m := nCons (mCold (mBN gLen (mCons (mVar 1) mNil))) nNil) (e := [some s, some (.lst false ds)]) (ds := [.int ds.length]) rfl (by simp) rfl ht
  have hix : gIxC (.lst false ds) (.int digit) = some (ds[digit.toNat]'hlt) := by
    show ((L2.atI ds digit).bind fun z => if z.cold = true then some z else none) = _
    rw [hat]
    simp [hcold]
  have : mb__law_one C (startE 2 [s, .lst false ds]) = .rt (ds[digit.toNat]'hlt) [some s', some (.lst false ds)] := by
    show mb__law_one C [some s, some (.lst false ds)] = _
    unfold mb__law_one
    simp only [List.set_cons_zero] at c1
    simp [frzs_id hc, c1, hix]
  unfold sp__law_one
  rw [spec_rt this]
  simp [fin, hc]
theorem handed_ok (C : Cad) {s : D} (hs : St s) {ds : List D} (hc : colds ds = true) : ∃ d s', (d = .lst true ds ∨ d = .tup ds) ∧ St s' ∧ sp__law_handed C [s, .lst false ds] = .ok d [s', .lst false ds] := by
  obtain ⟨digit, s', d0, d1, hs', ht⟩ := take_ok C hs (many := 2) (by omega) (by omega)
  have c1 := callM_eq (n := 2) (i := 0) (f := sp__law_take C) (m := nCons (mCold (mC (.int 2))) nNil) (e := [some s, some (.lst false ds)]) (ds := [.int 2]) rfl (by simp) rfl ht
  simp only [List.set_cons_zero] at c1
  have gl : gList [.lst false ds] = some (.lst true ds) := by simp [gList, hc]
  have gt : gTuple [.lst false ds] = some (.tup ds) := by simp [gTuple, hc]
  by_cases hd : digit = 0
  · refine ⟨.lst true ds, s', .inl rfl, hs', ?_⟩
    have : mb__law_handed C (startE 2 [s, .lst false ds]) = .rt (.lst true ds) [some s', some (.lst false ds)] := by
      show mb__law_handed C [some s, some (.lst false ds)] = _
      unfold mb__law_handed
      simp [c1, gEq_int, hd, gl]
    unfold sp__law_handed
    rw [spec_rt this]
    simp [fin, hc]
  · refine ⟨.tup ds, s', .inr rfl, hs', ?_⟩
    have : mb__law_handed C (startE 2 [s, .lst false ds]) = .rt (.tup ds) [some s', some (.lst false ds)] := by
      show mb__law_handed C [some s, some (.lst false ds)] = _
      unfold mb__law_handed
      simp [c1, gEq_int, hd, gt]
    unfold sp__law_handed
    rw [spec_rt this]
    simp [fin, hc]
/-! ### in_lists: a thing's lists as lists or tuples -/
theorem in_atom (C : Cad) (n : Nat) {s d : D} (h1 : gIsi (cls C) [.ty "list", .ty "tuple"] d = some (.bl false)) (hc : d.cold = true) : sp__law_in_lists C (n + 1) [s, d] = .ok d [s, d] := by
  have : mb__law_in_lists C (sp__law_in_lists C n) (startE 3 [s, d]) = .rt d [some s, some d, none] := by
    show mb__law_in_lists C (sp__law_in_lists C n) [some s, some d, none] = _
    unfold mb__law_in_lists
    simp [h1, frz_id hc]
  show specOf 3 [true, false] (mb__law_in_lists C (sp__law_in_lists C n)) [s, d] = _
  rw [spec_rt this]
  simp [fin, hc]
/-- a list or tuple, by what its items become -/
theorem in_seq (C : Cad) (n : Nat) {s d : D} {ds : List D} (hs : St s) (hd : d = .lst false ds ∨ d = .tup ds) (hc : colds ds = true) (hl : ds.length ≤ 1000) (R : D → D → Prop) (h : ∀ x ∈ ds, ∀ s, St s → ∃ z s', R x z ∧ St s' ∧ sp__law_in_lists C n [s, x] = .ok z [s', x]) :
    ∃ zs r s', All2 R ds zs ∧ (r = .lst true (frzs zs) ∨ r = .tup (frzs zs)) ∧ St s' ∧ sp__law_in_lists C (n + 1) [s, d] = .ok r [s', d] := by
  have hdc : d.cold = true := by rcases hd with rfl | rfl <;> simp [hc]
  obtain ⟨zs, e', h1, s1, x1, he', hs1, pre, hp, hR⟩ := compN_inv (own := [2]) (g := gN 2) (mt := mYes) (me := mCallM anyD 2 (sp__law_in_lists C n) 0 (nCons (mFrz 2) nNil)) (fun rest e acc => ∃ s x, e = [some s, some d, x] ∧ St s ∧ ∃ pre, ds = pre ++ rest ∧ All2 R pre acc) (fun x rest e acc ⟨s, y, he, hs, pre, hp, hR⟩ => by
    subst he
    have hx : x ∈ ds := by rw [hp]; simp
    obtain ⟨z, s', hz, hs', hsp⟩ := h x hx s hs
    have hxc : x.cold = true := cold_mem hc hx
    have c1 := callM_eq (n := 2) (i := 0) (f := sp__law_in_lists C n) (m := nCons (mFrz 2) nNil) (e := [some s, some d, some x]) (ds := [x]) rfl (by simp [frz_id hxc]) rfl (by simpa [frz_id hxc] using hsp)
    have hlen := hR.length
    refine ⟨[some s, some d, some x], [some s, some d, some x], z, _, by simp [wipeE], by simp, c1, ?_, s', some x, by simp, hs', pre ++ [x], by simp [hp], ?_⟩
    · have : ds.length = pre.length + rest.length + 1 := by rw [hp]; simp; omega
      have : sizeLine ≥ 1000 := by decide
      omega
    · exact hR.app (.cons hz .nil)) ds [some s, some d, none] [] ⟨s, none, rfl, hs, [], rfl, .nil⟩
  subst he'
  have hpre : pre = ds := by simpa using hp.symm
  subst hpre
  obtain ⟨r, s', hr, hs', hh⟩ := handed_ok C hs1 (ds := frzs zs) (frzs_cold zs)
  refine ⟨zs, r, s', hR, hr, hs', ?_⟩
  have c2 := callM_ok (n := 2) (i := 0) (f := sp__law_handed C) (m := nCons (mLc (mIt (mFrz 1)) [2] (gN 2) mYes (mCallM anyD 2 (sp__law_in_lists C n) 0 (nCons (mFrz 2) nNil))) nNil) (e := [some s, some d, none]) (e1 := [some s1, some d, none]) (ds := [.lst true zs]) rfl (by
    have hit : itemsD d = some pre := by rcases hd with rfl | rfl <;> simp [frzs_id hc]
    simp [frz_id hdc, hit, h1, wipeE]) rfl rfl (by simpa using hh)
  have : mb__law_in_lists C (sp__law_in_lists C n) (startE 3 [s, d]) = .rt r [some s', some d, none] := by
    show mb__law_in_lists C (sp__law_in_lists C n) [some s, some d, none] = _
    have ht : gIsi (cls C) [.ty "list", .ty "tuple"] d = some (.bl true) := by rcases hd with rfl | rfl <;> rfl
    unfold mb__law_in_lists
    simp only [List.set_cons_zero] at c2
    simp [ht, c2]
  show specOf 3 [true, false] (mb__law_in_lists C (sp__law_in_lists C n)) [s, d] = _
  rw [spec_rt this]
  simp [fin, hdc]
end K62
set_option Elab.async false
set_option linter.all false
set_option maxRecDepth 100000
set_option maxHeartbeats 4000000
namespace K62
open PySem G
def k4 : List Str := ["one", "foe", "several", "none"]
theorem k4_lay {k : Str} (h : k ∈ k4) : PyData.canLay0 (.str k) = true := by
  simp only [k4, List.mem_cons, List.not_mem_nil, or_false] at h
  rcases h with rfl | rfl | rfl | rfl <;> decide +kernel
theorem colds_strs (ks : List Str) : colds (ks.map D.str) = true := by
  induction ks with
  | nil => rfl
  | cons n ns ih => simp [ih]
theorem kinds_ok (C : Cad) {s : D} (hs : St s) {many : Int} (hm : 0 < many) (hm2 : many ≤ 100) : ∃ (ks : List Str) (s' : D), ks ≠ [] ∧ ks.length ≤ many ∧ (∀ k ∈ ks, k ∈ k4) ∧ St s' ∧ sp__law_kinds C [s, .int many] = .ok (.lst true (ks.map .str)) [s', .int many] := by
  obtain ⟨digit, s1, d0, d1, hs1, ht⟩ := take_ok C hs hm (by omega)
  have c1 := callM_eq (n := 2) (i := 0) (f := sp__law_take C) (m := nCons (mFrz 1) nNil) (e := [some s, some (.int many), some (.lst true []), none]) (ds := [.int many]) rfl (by simp) rfl ht
  simp only [List.set_cons_zero] at c1
  obtain ⟨e', h1, s2, ks, x, he, hs2, hk, hlen⟩ := forN_inv (g := gN 3) (b := sDrop (mAppend 2 (mFz (mCallM anyD 2 (sp__law_one C) 0 (nCons (nLst (nCons (mCold (mC (.str "one"))) (nCons (mCold (mC (.str "one"))) (nCons (mCold (mC (.str "foe"))) (nCons (mCold (mC (.str "foe"))) (nCons (mCold (mC (.str "several"))) (nCons (mCold (mC (.str "none"))) nNil))))))) nNil)))))
    (fun rest e => ∃ s ks x, e = [some s, some (.int many), some (.lst true (ks.map D.str)), x] ∧ St s ∧ (∀ k ∈ ks, k ∈ k4) ∧ ks.length + rest.length = (1 + digit).toNat) (fun d rest e ⟨s, ks, x, he, hs, hk, hlen⟩ => by
      subst he
      obtain ⟨d', s', hd, hdc, hs', ho⟩ := one_ok C hs (ds := [.str "one", .str "one", .str "foe", .str "foe", .str "several", .str "none"]) (by simp) (by simp) rfl
      obtain ⟨k, hk', rfl⟩ : ∃ k, k ∈ k4 ∧ d' = .str k := by
        simp only [List.mem_cons, List.not_mem_nil, or_false] at hd
        rcases hd with rfl | rfl | rfl | rfl | rfl | rfl <;> exact ⟨_, by simp [k4], rfl⟩
      have c2 := callM_eq (n := 2) (i := 0) (f := sp__law_one C) (m := nCons (nLst (nCons (mCold (mC (.str "one"))) (nCons (mCold (mC (.str "one"))) (nCons (mCold (mC (.str "foe"))) (nCons (mCold (mC (.str "foe"))) (nCons (mCold (mC (.str "several"))) (nCons (mCold (mC (.str "none"))) nNil))))))) nNil) (e := [some s, some (.int many), some (.lst true (ks.map D.str)), some d]) (ds := [.lst true [.str "one", .str "one", .str "foe", .str "foe", .str "several", .str "none"]]) rfl (by simp [nlst_ok]) rfl (by simpa using ho)
      simp only [List.set_cons_zero] at c2
      have c3 := append_ok (i := 2) (m := mFz (mCallM anyD 2 (sp__law_one C) 0 (nCons (nLst (nCons (mCold (mC (.str "one"))) (nCons (mCold (mC (.str "one"))) (nCons (mCold (mC (.str "foe"))) (nCons (mCold (mC (.str "foe"))) (nCons (mCold (mC (.str "several"))) (nCons (mCold (mC (.str "none"))) nNil))))))) nNil))) (e := [some s, some (.int many), some (.lst true (ks.map D.str)), some d]) (e1 := [some s', some (.int many), some (.lst true (ks.map D.str)), some d]) (d := .str k) rfl (by simp [c2]) rfl (by
        have := size_big
        simp only [List.length_cons] at hlen
        simp; omega)
      refine ⟨[some s, some (.int many), some (.lst true (ks.map D.str)), some d], [some s', some (.int many), some (.lst true ((ks ++ [k]).map D.str)), some d], by simp, .inl (by simp [c3]), s', ks ++ [k], some d, rfl, hs', ?_, ?_⟩
      · intro k2 h2
        rcases List.mem_append.mp h2 with h2 | h2
        · exact hk k2 h2
        · rw [List.mem_singleton.mp h2]; exact hk'
      · simp only [List.length_append, List.length_cons, List.length_nil] at hlen ⊢
        omega) (rangeD 0 (1 + digit).toNat) [some s1, some (.int many), some (.lst true []), none] ⟨s1, [], none, rfl, hs1, by simp, by simp [rangeD]⟩
  subst he
  simp only [List.length_nil, Nat.add_zero] at hlen
  refine ⟨ks, s2, ?_, by omega, hk, hs2, ?_⟩
  · intro z; subst z; simp at hlen; omega
  have : mb__law_kinds C (startE 4 [s, .int many]) = .rt (.lst true (ks.map .str)) [some s2, some (.int many), none, x] := by
    show mb__law_kinds C [some s, some (.int many), none, none] = _
    unfold mb__law_kinds
    simp [nlst_ok, c1, rng1_ok (show 0 ≤ 1 + digit by omega) (show 1 + digit < 2 ^ 62 by omega), h1]
  unfold sp__law_kinds
  rw [spec_rt this]
  simp [fin]
end K62
set_option Elab.async false
set_option linter.all false
set_option maxRecDepth 100000
set_option maxHeartbeats 4000000
namespace K62
open PySem G
def expand (rs : List (Str × Int)) : List Str := rs.flatMap fun p => List.replicate p.2.toNat p.1
def tupOf (p : Str × Int) : D := .tup [.str p.1, .int p.2]
def isRun (z : D) (p : Str × Int) : Prop := z = .lst false [.str p.1, .int p.2] ∨ z = .tup [.str p.1, .int p.2]
def okRun (p : Str × Int) : Prop := 0 < p.2 ∧ p.1 ∈ k4
theorem colds_tups (rs : List (Str × Int)) : colds (rs.map tupOf) = true := by
  induction rs with
  | nil => rfl
  | cons p rs ih => simp [ih, tupOf]
theorem all2_eq {as bs : List D} (h : All2 (fun x z => z = x) as bs) : bs = as := by
  induction h with
  | nil => rfl
  | cons a _ ih => rw [a, ih]
theorem in_pair (C : Cad) (n : Nat) {s : D} (hs : St s) (p : Str × Int) : ∃ z s', (z = .lst true [.str p.1, .int p.2] ∨ z = .tup [.str p.1, .int p.2]) ∧ St s' ∧ sp__law_in_lists C (n + 2) [s, tupOf p] = .ok z [s', tupOf p] := by
  obtain ⟨zs, r, s', h1, h2, h3, h4⟩ := in_seq C (n + 1) (d := tupOf p) (ds := [.str p.1, .int p.2]) hs (.inr rfl) rfl (by simp) (fun x z => z = x) (fun x hx s hs => by
    simp only [List.mem_cons, List.not_mem_nil, or_false] at hx
    rcases hx with rfl | rfl
    · exact ⟨_, s, rfl, hs, in_atom C n rfl rfl⟩
    · exact ⟨_, s, rfl, hs, in_atom C n rfl rfl⟩)
  rw [all2_eq h1] at h2
  exact ⟨r, s', by simpa using h2, h3, h4⟩
theorem runs_of : ∀ {rs : List (Str × Int)} {zs : List D}, All2 (fun x z => ∃ p, x = tupOf p ∧ (z = D.lst true [.str p.1, .int p.2] ∨ z = .tup [.str p.1, .int p.2])) (rs.map tupOf) zs → All2 isRun (frzs zs) rs
  | [], _, h => by cases h; exact .nil
  | p :: rs, _, .cons h t => by
    obtain ⟨q, hq, hz⟩ := h
    have : p = q := by
      simp only [tupOf, D.tup.injEq, List.cons.injEq, D.str.injEq, D.int.injEq, and_true] at hq
      exact Prod.ext hq.1 hq.2
    subst this
    refine .cons ?_ (runs_of t)
    rcases hz with rfl | rfl
    · exact .inl (by simp)
    · exact .inr (by simp)
theorem in_runs (C : Cad) {s : D} (hs : St s) (rs : List (Str × Int)) (hl : rs.length ≤ 1000) : ∃ zs r s', All2 isRun zs rs ∧ (r = .lst true zs ∨ r = .tup zs) ∧ St s' ∧ sp__law_in_lists C 6 [s, .lst false (rs.map tupOf)] = .ok r [s', .lst false (rs.map tupOf)] := by
  obtain ⟨zs, r, s', h1, h2, h3, h4⟩ := in_seq C 5 (d := .lst false (rs.map tupOf)) (ds := rs.map tupOf) hs (.inl rfl) (colds_tups rs) (by simpa using hl) (fun x z => ∃ p, x = tupOf p ∧ (z = D.lst true [.str p.1, .int p.2] ∨ z = .tup [.str p.1, .int p.2])) (fun x hx s hs => by
    obtain ⟨p, _, rfl⟩ := List.mem_map.mp hx
    obtain ⟨z, s', h1, h2, h3⟩ := in_pair C 3 hs p
    exact ⟨z, s', ⟨p, rfl, h1⟩, h2, h3⟩)
  exact ⟨frzs zs, r, s', runs_of h1, h2, h3, h4⟩
theorem expand_app (a b : List (Str × Int)) : expand (a ++ b) = expand a ++ expand b := by simp [expand]
theorem expand_len : ∀ (rs : List (Str × Int)), (∀ p ∈ rs, okRun p) → rs.length ≤ (expand rs).length
  | [], _ => by simp [expand]
  | p :: rs, h => by
    have := expand_len rs fun q hq => h q (List.mem_cons_of_mem _ hq)
    have h1 := (h p List.mem_cons_self).1
    simp only [expand, List.flatMap_cons, List.length_append, List.length_replicate, List.length_cons] at this ⊢
    omega
/-! ### cut -/
noncomputable def cutC (C : Cad) : ME := (mAnd (mCold (mB2 gLt (mB2 gAdd (mVar 3) (mVar 4)) (mBN gLen (mCons (mVar 1) mNil)))) (mAnd (mCold (mB2 gEq (mB2 ixD (mVar 1) (mB2 gAdd (mVar 3) (mVar 4))) (mB2 ixD (mVar 1) (mVar 3)))) (mE2 gGt (mCallM anyD 2 (sp__law_take C) 0 (nCons (mCold (mC (.int 3))) nNil)) (mCold (mC (.int 0))))))
def cutA : MS := (sSeq (sDrop (mAppend 2 (mCold (mTup (mCons (mB2 ixD (mVar 1) (mVar 3)) (mCons (mVar 4) mNil)))))) (sAug 3 gAddI (mFrz 4)))
noncomputable def cutB (C : Cad) : MS := (sSeq (sAsg (mCold (mC (.int 1))) (gN 4)) (sSeq (sWhile (cutC C) (sAug 4 gAddI (mCold (mC (.int 1))))) cutA))
theorem mb_cut_eq (C : Cad) : mb__law_cut C = (sSeq (sPar 2 3 (nCons (nLst nNil) (nCons (mCold (mC (.int 0))) nNil)))
  (sSeq (sWhile (mCold (mB2 gLt (mVar 3) (mBN gLen (mCons (mVar 1) mNil)))) (cutB C))
  (sRet (mCallM anyD 2 (sp__law_in_lists C 6) 0 (nCons (mFrz 2) nNil))))) := rfl
theorem ix_strs {ks : List Str} {i : Int} (h0 : 0 ≤ i) (h1 : i < ks.length) : ixD (.lst false (ks.map .str)) (.int i) = some (.str (ks[i.toNat]'(by omega))) := by
  obtain ⟨hlt, hat⟩ := atI_in (xs := ks.map D.str) h0 (by simpa using h1)
  show L2.atI (ks.map D.str) i = _
  rw [hat]
  simp
theorem cut_test (C : Cad) {s : D} (hs : St s) (ks : List Str) (hk : ∀ k ∈ ks, k ∈ k4) (found : D) (a m : Int) (ha : 0 ≤ a) (hm : 1 ≤ m) (ham : a + m ≤ ks.length) : ∃ w s', St s' ∧ (w = true → ∃ h : a + m < ks.length, ks[(a + m).toNat]'(by omega) = ks[a.toNat]'(by omega)) ∧
    cutC C [some s, some (.lst false (ks.map .str)), some found, some (.int a), some (.int m)] = .ok (.bl w) [some s', some (.lst false (ks.map .str)), some found, some (.int a), some (.int m)] := by
  by_cases h1 : a + m < ks.length
  · have i1 := ix_strs (ks := ks) (i := a + m) (by omega) h1
    have i2 := ix_strs (ks := ks) (i := a) (by omega) (by omega)
    have e1 := gEq_str (k4_lay (hk _ (List.getElem_mem (show (a + m).toNat < ks.length by omega)))) (k4_lay (hk _ (List.getElem_mem (show a.toNat < ks.length by omega))))
    by_cases h2 : ks[(a + m).toNat]'(by omega) = ks[a.toNat]'(by omega)
    · obtain ⟨digit, s', d0, d1, hs', ht⟩ := take_ok C hs (many := 3) (by omega) (by omega)
      have c1 := callM_eq (n := 2) (i := 0) (f := sp__law_take C) (m := nCons (mCold (mC (.int 3))) nNil) (e := [some s, some (.lst false (ks.map .str)), some found, some (.int a), some (.int m)]) (ds := [.int 3]) rfl (by simp) rfl ht
      simp only [List.set_cons_zero] at c1
      refine ⟨decide (0 < digit), s', hs', fun _ => ⟨h1, h2⟩, ?_⟩
      rw [h2] at i1 e1
      simp [cutC, h1, i1, i2, e1, c1]
    · exact ⟨false, s, hs, by simp, by simp [cutC, h1, i1, i2, e1, h2]⟩
  · exact ⟨false, s, hs, by simp, by simp [cutC, h1]⟩
theorem take_rep {α : Type} {ks : List α} {a : Nat} {x : α} : ∀ (m : Nat), a + m ≤ ks.length → (∀ j (h : a + j < ks.length), j < m → ks[a + j]'h = x) → ks.take (a + m) = ks.take a ++ List.replicate m x
  | 0, _, _ => by simp
  | m + 1, h, hx => by
    have ih := take_rep m (by omega) fun j hj hm => hx j hj (by omega)
    rw [← Nat.add_assoc, List.take_succ_eq_append_getElem (by omega), ih, hx m (by omega) (by omega), List.replicate_succ', List.append_assoc]
theorem cut_turn (C : Cad) {s : D} (hs : St s) (ks : List Str) (hk : ∀ k ∈ ks, k ∈ k4) (hl : ks.length ≤ 100) (rs : List (Str × Int)) (hrs : ∀ p ∈ rs, okRun p) (a : Int) (x : Option D) (ha : 0 ≤ a) (ha2 : a < ks.length) (he : expand rs = ks.take a.toNat) :
    ∃ s' p m, St s' ∧ okRun p ∧ 1 ≤ m ∧ a + m ≤ ks.length ∧ expand (rs ++ [p]) = ks.take (a + m).toNat ∧
      cutB C [some s, some (.lst false (ks.map .str)), some (.lst true (rs.map tupOf)), some (.int a), x] = .nx [some s', some (.lst false (ks.map .str)), some (.lst true ((rs ++ [p]).map tupOf)), some (.int (a + m)), some (.int m)] := by
  have hlen := expand_len rs hrs
  rw [he, List.length_take] at hlen
  obtain ⟨e', h1, s1, m, he1, hs1, hm1, ham, hall⟩ := sWhile_to (c := cutC C) (b := sAug 4 gAddI (mCold (mC (.int 1))))
    (fun k e => ∃ s m, e = [some s, some (.lst false (ks.map .str)), some (.lst true (rs.map tupOf)), some (.int a), some (.int m)] ∧ St s ∧ 1 ≤ m ∧ a + m ≤ ks.length ∧ (∀ j (h : a.toNat + j < ks.length), j < m.toNat → ks[a.toNat + j]'h = ks[a.toNat]'(by omega)) ∧ (ks.length - (a + m)).toNat ≤ k)
    (fun e => ∃ s m, e = [some s, some (.lst false (ks.map .str)), some (.lst true (rs.map tupOf)), some (.int a), some (.int m)] ∧ St s ∧ 1 ≤ m ∧ a + m ≤ ks.length ∧ (∀ j (h : a.toNat + j < ks.length), j < m.toNat → ks[a.toNat + j]'h = ks[a.toNat]'(by omega)))
    (fun k e ⟨s, m, he, hs, hm, ham, hall, hk'⟩ => by
      subst he
      obtain ⟨w, s', hs', hw, ht⟩ := cut_test C hs ks hk (.lst true (rs.map tupOf)) a m ha hm ham
      cases w with
      | false => exact .inr ⟨_, ht, s', m, rfl, hs', hm, ham, hall⟩
      | true =>
        obtain ⟨h1, h2⟩ := hw rfl
        have c2 := aug_int (i := 4) (m := mCold (mC (.int 1))) (e := [some s', some (.lst false (ks.map .str)), some (.lst true (rs.map tupOf)), some (.int a), some (.int m)]) (a := m) (b := 1) (by simp) (by simp)
        refine .inl ⟨_, [some s', some (.lst false (ks.map .str)), some (.lst true (rs.map tupOf)), some (.int a), some (.int (m + 1))], k - 1, ht, by omega, by simpa using c2, s', m + 1, rfl, hs', by omega, by omega, fun j h hj => ?_, by omega⟩
        by_cases hjm : j < m.toNat
        · exact hall j h hjm
        · have : a.toNat + j = (a + m).toNat := by omega
          rw [← h2]
          congr 1) _ [some s, some (.lst false (ks.map .str)), some (.lst true (rs.map tupOf)), some (.int a), some (.int 1)] ⟨s, 1, rfl, hs, by omega, by omega, fun j h hj => by
            have : j = 0 := by omega
            subst this
            rfl, Nat.le_refl _⟩
  subst he1
  have hp : okRun (ks[a.toNat]'(by omega), m) := ⟨by show 0 < m; omega, hk _ (List.getElem_mem _)⟩
  refine ⟨s1, (ks[a.toNat]'(by omega), m), m, hs1, hp, hm1, ham, ?_, ?_⟩
  · have e1 : (a + m).toNat = a.toNat + m.toNat := by omega
    rw [expand_app, he, e1, take_rep (x := ks[a.toNat]'(by omega)) m.toNat (by omega) hall]
    simp [expand]
  · have i2 := ix_strs (ks := ks) (i := a) (by omega) (by omega)
    have c3 := append_ok (i := 2) (m := mCold (mTup (mCons (mB2 ixD (mVar 1) (mVar 3)) (mCons (mVar 4) mNil)))) (e := [some s1, some (.lst false (ks.map .str)), some (.lst true (rs.map tupOf)), some (.int a), some (.int m)]) (e1 := [some s1, some (.lst false (ks.map .str)), some (.lst true (rs.map tupOf)), some (.int a), some (.int m)]) (d := tupOf (ks[a.toNat]'(by omega), m)) rfl (by simp [i2, tupOf, cold_ok]) rfl (by
      have := size_big
      simp; omega)
    have c4 := aug_int (i := 3) (m := mFrz 4) (e := [some s1, some (.lst false (ks.map .str)), some (.lst true ((rs ++ [(ks[a.toNat]'(by omega), m)]).map tupOf)), some (.int a), some (.int m)]) (a := a) (b := m) (by simp) (by simp)
    simp only [List.set_cons_zero, List.set_cons_succ, List.map_append, List.map_cons, List.map_nil] at c3 c4
    simp [cutB, cutA, h1, c3, c4]
theorem cut_ok (C : Cad) {s : D} (hs : St s) (ks : List Str) (hk : ∀ k ∈ ks, k ∈ k4) (hl : ks.length ≤ 100) : ∃ rs zs r s', (∀ p ∈ rs, okRun p) ∧ expand rs = ks ∧ All2 isRun zs rs ∧ (r = .lst true zs ∨ r = .tup zs) ∧ St s' ∧ sp__law_cut C [s, .lst false (ks.map .str)] = .ok r [s', .lst false (ks.map .str)] := by
  obtain ⟨e', h1, s1, rs, a, x, he1, hs1, hrs, hex⟩ := sWhile_to (c := mCold (mB2 gLt (mVar 3) (mBN gLen (mCons (mVar 1) mNil)))) (b := cutB C)
    (fun k e => ∃ s rs a x, e = [some s, some (.lst false (ks.map .str)), some (.lst true (rs.map tupOf)), some (.int a), x] ∧ St s ∧ (∀ p ∈ rs, okRun p) ∧ expand rs = ks.take a.toNat ∧ 0 ≤ a ∧ a ≤ ks.length ∧ (ks.length - a).toNat ≤ k)
    (fun e => ∃ s rs a x, e = [some s, some (.lst false (ks.map .str)), some (.lst true (rs.map tupOf)), some (.int a), x] ∧ St s ∧ (∀ p ∈ rs, okRun p) ∧ expand rs = ks)
    (fun k e ⟨s, rs, a, x, he, hs, hrs, hex, ha, ha2, hk'⟩ => by
      subst he
      by_cases h : a < ks.length
      · obtain ⟨s', p, m, hs', hp, hm, ham, hex', hc⟩ := cut_turn C hs ks hk hl rs hrs a x ha h hex
        refine .inl ⟨_, _, k - 1, by simp [h], by omega, hc, s', rs ++ [p], a + m, some (.int m), rfl, hs', ?_, hex', by omega, ham, by omega⟩
        intro q hq
        rcases List.mem_append.mp hq with hq | hq
        · exact hrs q hq
        · rw [List.mem_singleton.mp hq]; exact hp
      · refine .inr ⟨_, by simp [h], s, rs, a, x, rfl, hs, hrs, ?_⟩
        rw [hex, List.take_of_length_le (by omega)]) ks.length [some s, some (.lst false (ks.map .str)), some (.lst true []), some (.int 0), none] ⟨s, [], 0, none, rfl, hs, by simp, by simp [expand], by omega, by omega, by omega⟩
  subst he1
  have hlen := expand_len rs hrs
  rw [hex] at hlen
  obtain ⟨zs, r, s', h2, h3, h4, h5⟩ := in_runs C hs1 rs (by omega)
  refine ⟨rs, zs, r, s', hrs, hex, h2, h3, h4, ?_⟩
  have c1 := callM_ok (n := 2) (i := 0) (f := sp__law_in_lists C 6) (m := nCons (mFrz 2) nNil) (e := [some s1, some (.lst false (ks.map .str)), some (.lst true (rs.map tupOf)), some (.int a), x]) (e1 := [some s1, some (.lst false (ks.map .str)), some (.lst false (rs.map tupOf)), some (.int a), x]) (ds := [.lst false (rs.map tupOf)]) rfl (by simp [frzs_id (colds_tups rs)]) rfl rfl (by simpa [frzs_id (colds_tups rs)] using h5)
  have : mb__law_cut C (startE 5 [s, .lst false (ks.map .str)]) = .rt r [some s', some (.lst false (ks.map .str)), some (.lst false (rs.map tupOf)), some (.int a), x] := by
    show mb__law_cut C [some s, some (.lst false (ks.map .str)), none, none, none] = _
    rw [mb_cut_eq]
    simp only [List.set_cons_zero] at c1
    simp [nlst_ok, h1, c1]
  unfold sp__law_cut
  rw [spec_rt this]
  simp [fin, colds_strs]
end K62
set_option Elab.async false
set_option linter.all false
set_option maxRecDepth 100000
set_option maxHeartbeats 4000000
namespace K62
open PySem G
/-! ### runs joined -/
def joinStep (acc : List (Str × Int)) (p : Str × Int) : List (Str × Int) := match acc.getLast? with
  | some q => if q.1 = p.1 then acc.dropLast ++ [(p.1, q.2 + p.2)] else acc ++ [p]
  | none => acc ++ [p]
def joined (rs : List (Str × Int)) : List (Str × Int) := rs.foldl joinStep []
theorem join_nil (p : Str × Int) : joinStep [] p = [p] := rfl
theorem join_app (acc : List (Str × Int)) (q p : Str × Int) : joinStep (acc ++ [q]) p = if q.1 = p.1 then acc ++ [(p.1, q.2 + p.2)] else acc ++ [q] ++ [p] := by
  unfold joinStep
  rw [List.getLast?_concat]
  simp only [List.dropLast_concat]
theorem acc_cases (acc : List (Str × Int)) : acc = [] ∨ ∃ a q, acc = a ++ [q] := by
  cases h : acc.reverse with
  | nil => left; simpa using h
  | cons x xs => right; exact ⟨xs.reverse, x, by rw [← List.reverse_reverse acc, h]; simp⟩
theorem join_ok {acc : List (Str × Int)} {p : Str × Int} (h : ∀ q ∈ acc, okRun q) (hp : okRun p) : ∀ q ∈ joinStep acc p, okRun q := by
  rcases acc_cases acc with rfl | ⟨a, q, rfl⟩
  · rw [join_nil]; intro r hr; rw [List.mem_singleton.mp hr]; exact hp
  · have hq : okRun q := h q (by simp)
    have ha : ∀ r ∈ a, okRun r := fun r hr => h r (by simp [hr])
    rw [join_app]
    intro r hr
    split at hr
    · rcases List.mem_append.mp hr with hr | hr
      · exact ha r hr
      · rw [List.mem_singleton.mp hr]
        exact ⟨by have := hq.1; have := hp.1; show 0 < q.2 + p.2; omega, hp.2⟩
    · simp only [List.mem_append, List.mem_singleton] at hr
      rcases hr with (hr | hr) | hr
      · exact ha r hr
      · rw [hr]; exact hq
      · rw [hr]; exact hp
theorem join_expand {acc : List (Str × Int)} {p : Str × Int} (h : ∀ q ∈ acc, okRun q) (hp : okRun p) : expand (joinStep acc p) = expand acc ++ List.replicate p.2.toNat p.1 := by
  rcases acc_cases acc with rfl | ⟨a, q, rfl⟩
  · simp [join_nil, expand]
  · have hq : okRun q := h q (by simp)
    rw [join_app]
    split
    · rename_i e
      have h1 := hq.1
      have h2 := hp.1
      have e1 : (q.2 + p.2).toNat = q.2.toNat + p.2.toNat := by omega
      rw [expand_app, expand_app]
      simp only [expand, List.flatMap_cons, List.flatMap_nil, List.append_nil]
      rw [e1, List.append_assoc, e, List.replicate_append_replicate]
    · rw [expand_app, expand_app]
      simp [expand]
theorem fold_ok : ∀ (rs acc : List (Str × Int)), (∀ q ∈ acc, okRun q) → (∀ q ∈ rs, okRun q) → (∀ q ∈ rs.foldl joinStep acc, okRun q) ∧ expand (rs.foldl joinStep acc) = expand acc ++ expand rs
  | [], acc, h, _ => ⟨h, by simp [expand]⟩
  | p :: rs, acc, h, hr => by
    have hp := hr p List.mem_cons_self
    obtain ⟨h1, h2⟩ := fold_ok rs (joinStep acc p) (join_ok h hp) fun q hq => hr q (List.mem_cons_of_mem _ hq)
    refine ⟨h1, ?_⟩
    show expand (rs.foldl joinStep (joinStep acc p)) = _
    rw [h2, join_expand h hp]
    simp [expand]
theorem joined_ok {rs : List (Str × Int)} (h : ∀ q ∈ rs, okRun q) : (∀ q ∈ joined rs, okRun q) ∧ expand (joined rs) = expand rs := by
  have := fold_ok rs [] (by simp) h
  exact ⟨this.1, by simpa [expand, joined] using this.2⟩
def ones (ks : List Str) : List (Str × Int) := ks.map fun k => (k, 1)
theorem join_two (acc : List (Str × Int)) (k : Str) (m : Int) : joinStep (joinStep acc (k, m)) (k, 1) = joinStep acc (k, m + 1) := by
  rcases acc_cases acc with rfl | ⟨a, q, rfl⟩
  · rw [join_nil, join_nil]
    have := join_app [] (k, m) (k, 1)
    simpa using this
  · rw [join_app a q (k, m), join_app a q (k, m + 1)]
    split
    · rename_i e
      rw [join_app]
      simp [Int.add_assoc]
    · rw [join_app]
      simp
theorem fold_rep (k : Str) : ∀ (n : Nat) (acc : List (Str × Int)), (List.replicate (n + 1) (k, (1 : Int))).foldl joinStep acc = joinStep acc (k, (n : Int) + 1)
  | 0, acc => by simp
  | n + 1, acc => by
    rw [List.replicate_succ', List.foldl_append, fold_rep k n acc]
    simp only [List.foldl_cons, List.foldl_nil]
    rw [join_two]
    congr 2
theorem joined_ones : ∀ (rs acc : List (Str × Int)), (∀ q ∈ rs, okRun q) → (ones (expand rs)).foldl joinStep acc = rs.foldl joinStep acc
  | [], acc, _ => by simp [expand, ones]
  | p :: rs, acc, h => by
    have hp := (h p List.mem_cons_self).1
    have e : ones (expand (p :: rs)) = List.replicate ((p.2.toNat - 1) + 1) (p.1, (1 : Int)) ++ ones (expand rs) := by
      have : p.2.toNat - 1 + 1 = p.2.toNat := by omega
      rw [this]
      simp [ones, expand]
    rw [e, List.foldl_append, fold_rep, joined_ones rs _ fun q hq => h q (List.mem_cons_of_mem _ hq)]
    have : (((p.2.toNat - 1 : Nat) : Int) + 1) = p.2 := by omega
    rw [this]
    rfl
/-- runs by what they stand for -/
theorem joined_eq {rs : List (Str × Int)} (h : ∀ q ∈ rs, okRun q) : joined rs = joined (ones (expand rs)) := (joined_ones rs [] h).symm
theorem ones_ok {ks : List Str} (h : ∀ k ∈ ks, k ∈ k4) : ∀ q ∈ ones ks, okRun q := fun q hq => by
  obtain ⟨k, hk, rfl⟩ := List.mem_map.mp hq
  exact ⟨by show (0 : Int) < 1; omega, h k hk⟩
theorem expand_ones (ks : List Str) : expand (ones ks) = ks := by
  induction ks with
  | nil => rfl
  | cons k ks ih =>
    have : expand (ones (k :: ks)) = k :: expand (ones ks) := by simp [expand, ones]
    rw [this, ih]
end K62
set_option Elab.async false
set_option linter.all false
set_option maxRecDepth 100000
set_option maxHeartbeats 4000000
namespace K62
open PySem G
/-! ### what the package's functions give -/
theorem is_list_ok (C : Cad) {d : D} (h : gIsi (cls C) [.ty "list", .ty "tuple"] d = some (.bl true)) (hc : d.cold = true) : sp_is_list C [d] = .ok (.bl true) [d] := by
  have : mb_is_list C (startE 1 [d]) = .rt (.bl true) [some d] := by
    show mb_is_list C [some d] = _
    unfold mb_is_list
    simp [h]
  unfold sp_is_list
  rw [spec_rt this]
  simp [fin, hc]
theorem is_integer_ok (C : Cad) (i : Int) : sp_is_integer C [.int i] = .ok (.bl true) [.int i] := by
  have : mb_is_integer C (startE 1 [.int i]) = .rt (.bl true) [some (.int i)] := by
    show mb_is_integer C [some (.int i)] = _
    unfold mb_is_integer
    simp
  unfold sp_is_integer
  rw [spec_rt this]
  simp [fin]
theorem isRun_cold {z : D} {p : Str × Int} (h : isRun z p) : z.cold = true := by rcases h with rfl | rfl <;> simp
theorem isRun_list {cs : List Addr} {z : D} {p : Str × Int} (h : isRun z p) : gIsi cs [.ty "list", .ty "tuple"] z = some (.bl true) := by rcases h with rfl | rfl <;> rfl
theorem isRun_len {z : D} {p : Str × Int} (h : isRun z p) : gLen [z] = some (.int 2) := by rcases h with rfl | rfl <;> rfl
theorem isRun_0 {z : D} {p : Str × Int} (h : isRun z p) : ixD z (.int 0) = some (.str p.1) := by rcases h with rfl | rfl <;> rfl
theorem isRun_1 {z : D} {p : Str × Int} (h : isRun z p) : ixD z (.int 1) = some (.int p.2) := by rcases h with rfl | rfl <;> rfl
theorem notIn_k4 {k : Str} (h : k ∈ k4) : gNotIn (.str k) d_KINDS = some (.bl false) := by
  simp only [k4, List.mem_cons, List.not_mem_nil, or_false] at h
  rcases h with rfl | rfl | rfl | rfl <;> rfl
theorem free_bl (ds : List D) (b : Bool) : keepR ds (.bl b) = true := rfl
theorem free_str (ds : List D) (b : Str) : keepR ds (.str b) = true := rfl
theorem free_int (ds : List D) (b : Int) : keepR ds (.int b) = true := rfl
theorem is_run_ok (C : Cad) {z : D} {p : Str × Int} (h : isRun z p) (hp : okRun p) : sp_is_run C [z] = .ok (.bl true) [z] := by
  have hc := isRun_cold h
  have c1 : Rl.callP (.ok [z]) 1 (sp_is_list C) = .ok (.bl true) := callP_ok rfl (by simpa [frz_id hc] using is_list_ok C (isRun_list h) hc) rfl
  have c2 : Rl.callP (.ok [.int p.2]) 1 (sp_is_integer C) = .ok (.bl true) := callP_ok rfl (by simpa using is_integer_ok C p.2) rfl
  have : mb_is_run C (startE 1 [z]) = .rt (.bl true) [some z] := by
    show mb_is_run C [some z] = _
    unfold mb_is_run
    have := hp.1
    simp [c1, c2, isRun_len h, isRun_0 h, isRun_1 h, notIn_k4 hp.2, gNe_int, this]
  unfold sp_is_run
  rw [spec_rt this]
  simp [fin, hc]
/-! ### joined_runs -/
theorem ix_last {o : Bool} {ds : List D} {d : D} : ixD (.lst o (ds ++ [d])) (.int (-1)) = some d := by
  show L2.atI (ds ++ [d]) (-1) = _
  unfold L2.atI L2.ixN
  have h1 : ¬ (0 : Int) ≤ -1 := by omega
  have h2 : -((ds ++ [d]).length : Int) ≤ -1 := by simp; omega
  rw [if_neg h1, if_pos h2]
  have : ((-1 : Int) + ((ds ++ [d]).length : Int)).toNat = ds.length := by rw [List.length_append]; simp only [List.length_cons, List.length_nil]; omega
  rw [this]
  simp
theorem ixN_last {n : Nat} : L2.ixN (n + 1) (-1) = some n := by
  unfold L2.ixN
  have h1 : ¬ (0 : Int) ≤ -1 := by omega
  have h2 : -((n + 1 : Nat) : Int) ≤ -1 := by omega
  rw [if_neg h1, if_pos h2]
  congr 1
  omega
theorem okDs_tups {n : Nat} (hn : 1 ≤ n) : ∀ {rs : List (Str × Int)}, (∀ p ∈ rs, okRun p) → okDs n (rs.map tupOf) = true
  | [], _ => by simp [okDs]
  | p :: rs, h => by
    have h1 := k4_lay (h p List.mem_cons_self).2
    obtain ⟨m, rfl⟩ : ∃ m, n = m + 1 := ⟨n - 1, by omega⟩
    have h2 : okD m (.str p.1) = true := by cases m <;> simpa [okD] using h1
    have h3 : okD m (.int p.2) = true := by cases m <;> rfl
    simp [okDs, tupOf, okD, h1, h2, h3, okDs_tups hn fun q hq => h q (List.mem_cons_of_mem _ hq)]
theorem okD_tups {o : Bool} {rs : List (Str × Int)} (h : ∀ p ∈ rs, okRun p) : okD 64 (.lst o (rs.map tupOf)) = true := by
  simp [okD, okDs_tups (n := 63) (by omega) h]
theorem ne_nil {o : Bool} {rs : List (Str × Int)} (h : ∀ p ∈ rs, okRun p) : gNe (.lst o (rs.map tupOf)) (.lst true []) = some (.bl (decide (rs ≠ []))) := by
  rw [gNe_of (okD_tups h) rfl]
  cases rs <;> simp [py, pys, PyData.eqv, PyData.eqvAll]
def joinB (mk : MB) : MS := (sIf (mAnd (mCold (mB2 gNe (mVar 1) (mLst mNil))) (mCold (mB2 gEq (mB2 ixD (mB2 ixD (mVar 1) (mB1 gNeg (mC (.int 1)))) (mC (.int 0))) (mVar 2))))
  (sSet 1 (mCold (mTup (mCons (mVar 2) (mCons (mB2 gAdd (mB2 ixD (mB2 ixD (mVar 1) (mB1 gNeg (mC (.int 1)))) (mC (.int 1))) mk) mNil)))) (mB1 gNeg (mC (.int 1))))
  (sDrop (mAppend 1 (mCold (mTup (mCons (mVar 2) (mCons mk mNil)))))))
theorem join_body {mk : MB} {e : G.Env} {acc : List (Str × Int)} {p : Str × Int} (hacc : ∀ q ∈ acc, okRun q) (hp : okRun p) (h1 : e[1]? = some (some (.lst true (acc.map tupOf)))) (h2 : e[2]? = some (some (.str p.1))) (hmk : mk e = .ok (.int p.2)) (hl : acc.length ≤ 100000) :
    joinB mk e = .nx (e.set 1 (some (.lst true ((joinStep acc p).map tupOf)))) := by
  have n1 := ne_nil (o := true) hacc
  rcases acc_cases acc with rfl | ⟨a, q, rfl⟩
  · have c := append_ok (i := 1) (m := mCold (mTup (mCons (mVar 2) (mCons mk mNil)))) (e := e) (e1 := e) (d := tupOf p) h1 (by simp [h2, hmk, tupOf, cold_ok]) h1 (by simp; exact Nat.lt_of_lt_of_le (by decide) size_big)
    simp only [List.map_nil] at n1 h1
    simp [joinB, h1, n1, c, join_nil]
  · have hq : okRun q := hacc q (by simp)
    have el : (a ++ [q]).map tupOf = a.map tupOf ++ [tupOf q] := by simp
    have e1 := gEq_str (k4_lay hq.2) (k4_lay hp.2)
    have i0 : ixD (tupOf q) (.int 0) = some (.str q.1) := rfl
    have i1 : ixD (tupOf q) (.int 1) = some (.int q.2) := rfl
    rw [el] at h1 n1
    rw [join_app]
    by_cases hk : q.1 = p.1
    · have t1 : ∀ x y : D, Rl.tup (.ok [.str p.1, .int (q.2 + p.2)]) = .ok (tupOf (p.1, q.2 + p.2)) := fun _ _ => by simp [tupOf]
      have len : (a.map tupOf ++ [tupOf q]).length = a.length + 1 := by simp
      have st : (a.map tupOf ++ [tupOf q]).set a.length (tupOf (p.1, q.2 + p.2)) = a.map tupOf ++ [tupOf (p.1, q.2 + p.2)] := by
        have : a.length = (a.map tupOf).length := by simp
        rw [this, List.set_append_right _ _ (Nat.le_refl _)]
        simp
      have n2 : gNe (.lst true (a.map tupOf ++ [tupOf q])) (.lst true []) = some (.bl true) := by rw [n1]; simp
      rw [hk] at e1 i0
      have c1 : Rb.cold (.ok (.tup [.str p.1, .int (q.2 + p.2)])) e = .ok (tupOf (p.1, q.2 + p.2)) e := cold_ok rfl e
      simp [joinB, h1, h2, hmk, n2, ix_last, i0, i1, e1, c1, len, ixN_last, st, hk]
    · have n2 : gNe (.lst true (a.map tupOf ++ [tupOf q])) (.lst true []) = some (.bl true) := by rw [n1]; simp
      have c := append_ok (i := 1) (m := mCold (mTup (mCons (mVar 2) (mCons mk mNil)))) (e := e) (e1 := e) (d := tupOf p) h1 (by simp [h2, hmk, tupOf, cold_ok]) h1 (by
        have := size_big
        simp at hl ⊢; omega)
      simp [joinB, h1, h2, n2, ix_last, i0, e1, hk, c]
end K62
set_option Elab.async false
set_option linter.all false
set_option maxRecDepth 100000
set_option maxHeartbeats 4000000
namespace K62
open PySem G
theorem mb_joined_eq (C : Cad) : mb_joined_runs C = (sSeq (sAsg (nLst nNil) (gN 1)) (sSeq (sFor (mIt (mFrz 0)) (gT 2 (gCons' (gN 2) (gCons' (gN 3) gNil'))) (joinB (mVar 3))) (sRet (mMove 1)))) := rfl
theorem mb_runs_eq (C : Cad) : mb__law_runs C = (sSeq (sAsg (nLst nNil) (gN 1)) (sSeq (sFor (mIt (mFrz 0)) (gN 2) (joinB (mC (.int 1)))) (sRet (mMove 1)))) := rfl
theorem join_len (acc : List (Str × Int)) (p : Str × Int) : (joinStep acc p).length ≤ acc.length + 1 := by
  rcases acc_cases acc with rfl | ⟨a, q, rfl⟩
  · simp [join_nil]
  · rw [join_app]; split <;> simp
theorem fold_len : ∀ (rs acc : List (Str × Int)), (rs.foldl joinStep acc).length ≤ acc.length + rs.length
  | [], acc => by simp
  | p :: rs, acc => by
    have := fold_len rs (joinStep acc p)
    have := join_len acc p
    simp only [List.foldl_cons, List.length_cons]
    omega
theorem joined_len (rs : List (Str × Int)) : (joined rs).length ≤ rs.length := by simpa [joined] using fold_len rs []
theorem isRun_t {z : D} {p : Str × Int} (h : isRun z p) (e : G.Env) (he : 4 ≤ e.length) : gT 2 (gCons' (gN 2) (gCons' (gN 3) gNil')) z e = some ((e.set 2 (some (.str p.1))).set 3 (some (.int p.2))) := by
  have h2 : 2 < e.length := by omega
  have h3 : 3 < e.length := by omega
  rcases h with rfl | rfl <;> simp [h2, h3]
theorem join_for (a0 : Option D) : ∀ (zs : List D) (rs acc : List (Str × Int)) (a2 a3 : Option D), All2 isRun zs rs → (∀ q ∈ acc, okRun q) → (∀ q ∈ rs, okRun q) → acc.length + rs.length ≤ 100000 → ∃ a2' a3',
    forN (gT 2 (gCons' (gN 2) (gCons' (gN 3) gNil'))) (joinB (mVar 3)) zs [a0, some (.lst true (acc.map tupOf)), a2, a3] = .nx [a0, some (.lst true ((rs.foldl joinStep acc).map tupOf)), a2', a3']
  | _, _, acc, a2, a3, .nil, _, _, _ => ⟨a2, a3, rfl⟩
  | _, _, acc, a2, a3, .cons (a := z) (b := p) (as := zs) (bs := rs) h t, hacc, hrs, hl => by
    have hp := hrs p List.mem_cons_self
    simp only [List.length_cons] at hl
    have hj := join_len acc p
    obtain ⟨a2', a3', h1⟩ := join_for a0 zs rs (joinStep acc p) (some (.str p.1)) (some (.int p.2)) t (join_ok hacc hp) (fun q hq => hrs q (List.mem_cons_of_mem _ hq)) (by omega)
    have hb := join_body (mk := mVar 3) (e := [a0, some (.lst true (acc.map tupOf)), some (.str p.1), some (.int p.2)]) hacc hp rfl rfl (by simp) (by omega)
    refine ⟨a2', a3', ?_⟩
    rw [forN_cons, isRun_t h _ (by simp)]
    simp only [List.set_cons_succ, List.set_cons_zero] at hb ⊢
    simp [hb, h1]
theorem all2_cold {zs : List D} {rs : List (Str × Int)} (h : All2 isRun zs rs) : colds zs = true := by
  induction h with
  | nil => rfl
  | cons a _ ih => simp [isRun_cold a, ih]
theorem joined_runs_ok (C : Cad) {d : D} {zs : List D} {rs : List (Str × Int)} (hd : d = .lst false zs ∨ d = .tup zs) (h : All2 isRun zs rs) (hr : ∀ q ∈ rs, okRun q) (hl : rs.length ≤ 100000) : sp_joined_runs C [d] = .ok (.lst true ((joined rs).map tupOf)) [d] := by
  have hz := all2_cold h
  have hdc : d.cold = true := by rcases hd with rfl | rfl <;> simp [hz]
  have hit : itemsD d = some zs := by rcases hd with rfl | rfl <;> simp [frzs_id hz]
  obtain ⟨a2, a3, h1⟩ := join_for (some d) zs rs [] none none h (by simp) hr (by simpa using hl)
  have : mb_joined_runs C (startE 4 [d]) = .rt (.lst true ((joined rs).map tupOf)) [some d, none, a2, a3] := by
    show mb_joined_runs C [some d, none, none, none] = _
    rw [mb_joined_eq]
    simp only [List.map_nil] at h1
    simp [nlst_ok, frz_id hdc, hit, h1, joined]
  unfold sp_joined_runs
  rw [spec_rt this]
  simp [fin, hdc]
theorem runs_for (a0 : Option D) : ∀ (ks : List Str) (acc : List (Str × Int)) (a2 : Option D), (∀ q ∈ acc, okRun q) → (∀ k ∈ ks, k ∈ k4) → acc.length + ks.length ≤ 100000 → ∃ a2',
    forN (gN 2) (joinB (mC (.int 1))) (ks.map .str) [a0, some (.lst true (acc.map tupOf)), a2] = .nx [a0, some (.lst true (((ones ks).foldl joinStep acc).map tupOf)), a2']
  | [], acc, a2, _, _, _ => ⟨a2, rfl⟩
  | k :: ks, acc, a2, hacc, hk, hl => by
    have hp : okRun (k, 1) := ⟨by show (0 : Int) < 1; omega, hk k List.mem_cons_self⟩
    simp only [List.length_cons] at hl
    have hj := join_len acc (k, 1)
    obtain ⟨a2', h1⟩ := runs_for a0 ks (joinStep acc (k, 1)) (some (.str k)) (join_ok hacc hp) (fun q hq => hk q (List.mem_cons_of_mem _ hq)) (by omega)
    have hb := join_body (mk := mC (.int 1)) (e := [a0, some (.lst true (acc.map tupOf)), some (.str k)]) (p := (k, 1)) hacc hp rfl rfl (by simp) (by omega)
    refine ⟨a2', ?_⟩
    rw [List.map_cons, forN_cons]
    simp only [List.set_cons_succ, List.set_cons_zero] at hb ⊢
    simp [hb, h1, ones]
theorem law_runs_ok (C : Cad) {ks : List Str} (hk : ∀ k ∈ ks, k ∈ k4) (hl : ks.length ≤ 100000) : sp__law_runs C [.lst false (ks.map .str)] = .ok (.lst true ((joined (ones ks)).map tupOf)) [.lst false (ks.map .str)] := by
  have hz := colds_strs ks
  obtain ⟨a2, h1⟩ := runs_for (some (.lst false (ks.map .str))) ks [] none (by simp) hk (by simpa using hl)
  have : mb__law_runs C (startE 3 [.lst false (ks.map .str)]) = .rt (.lst true ((joined (ones ks)).map tupOf)) [some (.lst false (ks.map .str)), none, a2] := by
    show mb__law_runs C [some (.lst false (ks.map .str)), none, none] = _
    rw [mb_runs_eq]
    simp only [List.map_nil] at h1
    simp [nlst_ok, frzs_id hz, h1, joined]
  unfold sp__law_runs
  rw [spec_rt this]
  simp [fin, hz]
/-! ### Slots -/
def slo (C : Cad) (o : Bool) (rows : List (Str × Int)) : D := .ins o C.Slots [("run_rows", .lst o (rows.map tupOf))]
theorem slo_frz (C : Cad) (o : Bool) (rows : List (Str × Int)) : (slo C o rows).frz = slo C false rows := by
  show D.ins false C.Slots [("run_rows", .lst false (frzs (rows.map tupOf)))] = _
  rw [frzs_id (colds_tups rows)]
  rfl
theorem slo_cold (C : Cad) (rows : List (Str × Int)) : (slo C false rows).cold = true := by
  show (!false && (((D.lst false (rows.map tupOf)).cold) && true)) = true
  simp [colds_tups]
theorem slo_fld (C : Cad) (o : Bool) (rows : List (Str × Int)) : fldD (cs_run_rows C) "run_rows" (slo C o rows) = some (.lst o (rows.map tupOf)) := by
  show (if C.Slots ∈ cs_run_rows C then _ else _) = _
  rw [if_pos (by simp [cs_run_rows])]
  rfl
theorem frees_tups : ∀ (rs : List (Str × Int)), frees (rs.map tupOf) = true
  | [] => rfl
  | p :: rs => by
    show ((tupOf p).free && frees (rs.map tupOf)) = true
    rw [frees_tups rs]
    rfl
theorem slo_free (C : Cad) (rows : List (Str × Int)) : (slo C true rows).free = true := by
  show (true && ((true && frees (rows.map tupOf)) && true)) = true
  simp [frees_tups]
theorem init_for (C : Cad) : ∀ (zs : List D) (rs : List (Str × Int)) (k : Nat) (a0 a1 a2 a3 : Option D), All2 isRun zs rs → (∀ q ∈ rs, okRun q) → ∃ a2' a3',
    forN (gT 2 (gCons' (gN 2) (gCons' (gN 3) gNil'))) (sIf (mNot (mUp (mCallP 1 (sp_is_run C) (mCons (mVar 3) mNil)))) sNever sNext) ((zs.zipIdx k).map fun p => .tup [.int (p.2 : Nat), p.1]) [a0, a1, a2, a3] = .nx [a0, a1, a2', a3']
  | _, _, k, a0, a1, a2, a3, .nil, _ => ⟨a2, a3, rfl⟩
  | _, _, k, a0, a1, a2, a3, .cons (a := z) (b := p) (as := zs) (bs := rs) h t, hrs => by
    obtain ⟨a2', a3', h1⟩ := init_for C zs rs (k + 1) a0 a1 (some (.int k)) (some z) t fun q hq => hrs q (List.mem_cons_of_mem _ hq)
    have c1 : Rl.callP (.ok [z]) 1 (sp_is_run C) = .ok (.bl true) := callP_ok rfl (by simpa [frz_id (isRun_cold h)] using is_run_ok C h (hrs p List.mem_cons_self)) rfl
    refine ⟨a2', a3', ?_⟩
    rw [List.zipIdx_cons, List.map_cons, forN_cons]
    simp [c1, h1]
theorem init_ok (C : Cad) {d : D} {zs : List D} {rs : List (Str × Int)} (hd : d = .lst false zs ∨ d = .tup zs) (h : All2 isRun zs rs) (hr : ∀ q ∈ rs, okRun q) (hl : rs.length ≤ 100000) : sp_Slots_init C [.ins true C.Slots [], d] = .ok .non [slo C true (joined rs), d] := by
  have hz := all2_cold h
  have hdc : d.cold = true := by rcases hd with rfl | rfl <;> simp [hz]
  have hli : gIsi (cls C) [.ty "list", .ty "tuple"] d = some (.bl true) := by rcases hd with rfl | rfl <;> rfl
  have c1 : Rl.callP (.ok [d]) 1 (sp_is_list C) = .ok (.bl true) := callP_ok rfl (by simpa [frz_id hdc] using is_list_ok C hli hdc) rfl
  have c2 : Rl.callP (.ok [d]) 1 (sp_joined_runs C) = .ok (.lst true ((joined rs).map tupOf)) := callP_ok rfl (by simpa [frz_id hdc] using joined_runs_ok C hd h hr hl) (by
    show (_ || colds [d]) = true
    simp [hdc])
  have hen : Ra.enum (.ok [d] [some (.ins true C.Slots []), some d, none, none]) = .ok (enumD zs) [some (.ins true C.Slots []), some d, none, none] := by rcases hd with rfl | rfl <;> simp [frzs_id hz]
  obtain ⟨a2, a3, h1⟩ := init_for C zs rs 0 (some (.ins true C.Slots [])) (some d) none none h hr
  have h1' : forN (gT 2 (gCons' (gN 2) (gCons' (gN 3) gNil'))) (sIf (mNot (mUp (mCallP 1 (sp_is_run C) (mCons (mVar 3) mNil)))) sNever sNext) (enumD zs) [some (.ins true C.Slots []), some d, none, none] = _ := h1
  have hf := oFld_ok (i := 0) (Cs := cs_run_rows C) (f := "run_rows") (d := .lst true ((joined rs).map tupOf)) (e := [some (.ins true C.Slots []), some d, a2, a3]) (C := C.Slots) (fs := []) (by simp [cs_run_rows]) (by simp)
  have : mb_Slots_init C (startE 4 [.ins true C.Slots [], d]) = .nx [some (slo C true (joined rs)), some d, a2, a3] := by
    show mb_Slots_init C [some (.ins true C.Slots []), some d, none, none] = _
    unfold mb_Slots_init
    simp [c1, frz_id hdc, hen, h1', c2, hf]
    rfl
  unfold sp_Slots_init
  rw [spec_nx this]
  simp [fin, hdc]
end K62
set_option Elab.async false
set_option linter.all false
set_option maxRecDepth 100000
set_option maxHeartbeats 4000000
namespace K62
open PySem G
theorem runs_ok (C : Cad) (rows : List (Str × Int)) : sp_Slots_runs C [slo C false rows] = .ok (.lst true (rows.map tupOf)) [slo C false rows] := by
  have gl : gList [.lst false (rows.map tupOf)] = some (.lst true (rows.map tupOf)) := by simp [gList, colds_tups]
  have : mb_Slots_runs C (startE 1 [slo C false rows]) = .rt (.lst true (rows.map tupOf)) [some (slo C false rows)] := by
    show mb_Slots_runs C [some (slo C false rows)] = _
    unfold mb_Slots_runs
    simp [slo_fld, gl]
  unfold sp_Slots_runs
  rw [spec_rt this]
  simp [fin, slo_cold]
def total (rows : List (Str × Int)) : Int := (rows.map (·.2)).sum
theorem total_expand : ∀ {rows : List (Str × Int)}, (∀ p ∈ rows, okRun p) → total rows = (expand rows).length
  | [], _ => rfl
  | p :: rows, h => by
    have ih := total_expand fun q hq => h q (List.mem_cons_of_mem _ hq)
    have h1 := (h p List.mem_cons_self).1
    simp only [total, List.map_cons, List.sum_cons, expand, List.flatMap_cons, List.length_append, List.length_replicate] at ih ⊢
    omega
theorem all_ints : ∀ (rows : List (Str × Int)), allD intD (rows.map fun p => D.int p.2) = some (rows.map (·.2))
  | [] => rfl
  | p :: rows => by simp [allD, intD, all_ints rows]
theorem many_ok (C : Cad) {rows : List (Str × Int)} (hl : rows.length ≤ 100000) : sp_Slots_many_slots C [slo C false rows] = .ok (.int (total rows)) [slo C false rows] := by
  have hc := compN_map (own := [1, 2]) (g := gT 2 (gCons' (gN 1) (gCons' (gN 2) gNil'))) (me := mFrz 2) (e := [some (slo C false rows), none, none]) (fun d => (ixD d (.int 1)).getD .non) (fun d => ∃ p, d = tupOf p) (by simp [wipeE]) (fun d ⟨p, hd⟩ => by
    subst hd
    exact ⟨[some (slo C false rows), some (.str p.1), some (.int p.2)], [some (slo C false rows), some (.str p.1), some (.int p.2)], by simp [tupOf], by
      have : (ixD (tupOf p) (.int 1)).getD .non = .int p.2 := rfl
      rw [this]
      simp, by simp [wipeE]⟩) (rows.map tupOf) [] [some (slo C false rows), none, none] (by simp [wipeE]) (fun d hd => by
        obtain ⟨p, _, rfl⟩ := List.mem_map.mp hd
        exact ⟨p, rfl⟩) (by
        have := size_big
        simp; omega)
  have e1 : (rows.map tupOf).map (fun d => (ixD d (.int 1)).getD .non) = rows.map fun p => D.int p.2 := by
    rw [List.map_map]
    rfl
  rw [e1] at hc
  have fz : frzs (rows.map fun p => D.int p.2) = rows.map fun p => D.int p.2 := by
    have := frzs_ints (rows.map (·.2))
    rw [List.map_map] at this
    exact this
  have gs : gSum [.lst false (rows.map fun p => D.int p.2)] = some (.int (total rows)) := by simp [gSum, all_ints, total]
  have ck : ∀ e, Rb.cold (.ok (.lst false (rows.map tupOf))) e = .ok (.lst false (rows.map tupOf)) e := fun e => cold_ok (by simp [colds_tups]) e
  have : mb_Slots_many_slots C (startE 3 [slo C false rows]) = .rt (.int (total rows)) [some (slo C false rows), none, none] := by
    show mb_Slots_many_slots C [some (slo C false rows), none, none] = _
    unfold mb_Slots_many_slots
    simp only [List.nil_append] at hc
    simp [slo_fld, ck, frzs_id (colds_tups rows), hc, fz, gs]
  unfold sp_Slots_many_slots
  rw [spec_rt this]
  simp [fin, slo_cold]
theorem recv_slo (C : Cad) (o : Bool) (rows : List (Str × Int)) {mn : Str} (h : ((mn == ("run_rows" : Str)) = false)) : isRecv C.Slots mn (slo C o rows) = true := by
  show (decide (C.Slots = C.Slots) && (List.lookup mn [("run_rows", _)]).isNone) = true
  simp [List.lookup, h]
theorem call_many (C : Cad) {o : Bool} {rows : List (Str × Int)} (hl : rows.length ≤ 100000) : Rl.callP (.ok [slo C o rows]) 1 (sp_Slots_many_slots C) = .ok (.int (total rows)) := callP_ok rfl (by simpa [slo_frz] using many_ok C hl) rfl
theorem check_ok (C : Cad) {rows : List (Str × Int)} (hl : rows.length ≤ 100000) {slot : Int} (h1 : 1 ≤ slot) (h2 : slot ≤ total rows) : sp_check_slot C [slo C false rows, .int slot] = .ok .non [slo C false rows, .int slot] := by
  have c2 : Rl.callP (.ok [.int slot]) 1 (sp_is_integer C) = .ok (.bl true) := callP_ok rfl (by simpa using is_integer_ok C slot) rfl
  have ch : Rb.chain (.ok (.int 0)) (.ok (.int slot)) (.ok (.int (total rows))) gLt gLe = .ok (.bl true) := by
    rw [chain_ok (x := true) (y := true) (by simp; omega) (by simp; omega)]
    rfl
  have : mb_check_slot C (startE 2 [slo C false rows, .int slot]) = .nx [some (slo C false rows), some (.int slot)] := by
    show mb_check_slot C [some (slo C false rows), some (.int slot)] = _
    unfold mb_check_slot
    simp [c2, recv_ok (recv_slo C false rows (mn := "many_slots") (by decide)), call_many C hl, ch]
  unfold sp_check_slot
  rw [spec_nx this]
  simp [fin, slo_cold]
def kindB : MS := (sSeq (sIf (mCold (mB2 gLe (mVar 2) (mVar 4))) (sRet (mFrz 3)) sNext) (sAsg (mCold (mB2 G.gSub (mVar 2) (mVar 4))) (gN 2)))
theorem mb_kind_eq (C : Cad) : mb_Slots_kind_of C = (sSeq (sDrop (mUp (mCallP 2 (sp_check_slot C) (mCons (mVar 0) (mCons (mVar 1) mNil)))))
  (sSeq (sAsg (mFrz 1) (gN 2))
  (sSeq (sFor (mIt (mCold (mB1 (fldD (cs_run_rows C) "run_rows") (mVar 0)))) (gT 2 (gCons' (gN 3) (gCons' (gN 4) gNil'))) kindB)
  (sRet (mCold (mC .non)))))) := rfl
theorem kind_for (a0 a1 : Option D) : ∀ (rows : List (Str × Int)) (left : Int) (a3 a4 : Option D), (∀ p ∈ rows, okRun p) → (h1 : 1 ≤ left) → (h : left ≤ (expand rows).length) → ∃ e',
    forN (gT 2 (gCons' (gN 3) (gCons' (gN 4) gNil'))) kindB (rows.map tupOf) [a0, a1, some (.int left), a3, a4] = .rt (.str ((expand rows)[(left - 1).toNat]'(by omega))) (a0 :: a1 :: e')
  | [], left, a3, a4, _, h1, h => by simp [expand] at h; omega
  | p :: rows, left, a3, a4, hr, h1, h => by
    have hp := (hr p List.mem_cons_self).1
    have ex : expand (p :: rows) = List.replicate p.2.toNat p.1 ++ expand rows := by simp [expand]
    by_cases hle : left ≤ p.2
    · refine ⟨[some (.int left), some (.str p.1), some (.int p.2)], ?_⟩
      have e1 : (expand (p :: rows))[(left - 1).toNat]'(by omega) = p.1 := by
        simp only [ex]
        rw [List.getElem_append_left (by simp; omega)]
        simp
      rw [e1, List.map_cons, forN_cons]
      simp [tupOf, kindB, hle]
    · have hlen : (expand (p :: rows)).length = p.2.toNat + (expand rows).length := by rw [ex]; simp
      obtain ⟨e', h2⟩ := kind_for a0 a1 rows (left - p.2) (some (.str p.1)) (some (.int p.2)) (fun q hq => hr q (List.mem_cons_of_mem _ hq)) (by omega) (by omega)
      refine ⟨e', ?_⟩
      have e1 : (expand (p :: rows))[(left - 1).toNat]'(by omega) = (expand rows)[(left - p.2 - 1).toNat]'(by omega) := by
        simp only [ex]
        rw [List.getElem_append_right (by simp; omega)]
        congr 1
        simp
        omega
      have hg : gT 2 (gCons' (gN 3) (gCons' (gN 4) gNil')) (tupOf p) [a0, a1, some (.int left), a3, a4] = some [a0, a1, some (.int left), some (.str p.1), some (.int p.2)] := by simp [tupOf]
      have hb : kindB [a0, a1, some (.int left), some (.str p.1), some (.int p.2)] = .nx [a0, a1, some (.int (left - p.2)), some (.str p.1), some (.int p.2)] := by simp [kindB, hle]
      rw [e1, List.map_cons, forN_cons, hg, oF_some, hb, rsfor_nx]
      exact h2
theorem kind_ok (C : Cad) {rows : List (Str × Int)} (hr : ∀ p ∈ rows, okRun p) (hl : rows.length ≤ 100000) {slot : Int} (h1 : 1 ≤ slot) (h2 : slot ≤ (expand rows).length) : sp_Slots_kind_of C [slo C false rows, .int slot] = .ok (.str ((expand rows)[(slot - 1).toNat]'(by omega))) [slo C false rows, .int slot] := by
  have ht := total_expand hr
  have c1 : Rl.callP (.ok [slo C false rows, .int slot]) 2 (sp_check_slot C) = .ok .non := callP_ok rfl (by simpa [slo_frz] using check_ok C hl h1 (by omega)) rfl
  obtain ⟨e', h3⟩ := kind_for (some (slo C false rows)) (some (.int slot)) rows slot none none hr h1 h2
  have ck : ∀ e, Rb.cold (.ok (.lst false (rows.map tupOf))) e = .ok (.lst false (rows.map tupOf)) e := fun e => cold_ok (by simp [colds_tups]) e
  have : mb_Slots_kind_of C (startE 5 [slo C false rows, .int slot]) = .rt (.str ((expand rows)[(slot - 1).toNat]'(by omega))) (some (slo C false rows) :: some (.int slot) :: e') := by
    show mb_Slots_kind_of C [some (slo C false rows), some (.int slot), none, none, none] = _
    rw [mb_kind_eq]
    simp [c1, slo_fld, ck, frzs_id (colds_tups rows), h3]
  unfold sp_Slots_kind_of
  rw [spec_rt this]
  simp [fin, slo_cold]
end K62
set_option Elab.async false
set_option linter.all false
set_option maxRecDepth 100000
set_option maxHeartbeats 4000000
namespace K62
open PySem G
theorem all2_tups : ∀ (rs : List (Str × Int)), All2 isRun (rs.map tupOf) rs
  | [] => .nil
  | p :: rs => .cons (.inr rfl) (all2_tups rs)
theorem mem_app {r1 r2 : List (Str × Int)} (h1 : ∀ p ∈ r1, okRun p) (h2 : ∀ p ∈ r2, okRun p) : ∀ p ∈ r1 ++ r2, okRun p := fun p hp => (List.mem_append.mp hp).elim (h1 p) (h2 p)
theorem add_ok (C : Cad) {r1 r2 : List (Str × Int)} (h1 : ∀ p ∈ r1, okRun p) (h2 : ∀ p ∈ r2, okRun p) (hl1 : r1.length ≤ 1000) (hl2 : r2.length ≤ 1000) : sp_Slots_add C [slo C false r1, slo C false r2] = .ok (slo C true (joined (r1 ++ r2))) [slo C false r1, slo C false r2] := by
  have ga : gAdd (.lst false (r1.map tupOf)) (.lst false (r2.map tupOf)) = some (.lst true ((r1 ++ r2).map tupOf)) := by
    have : r1.length + r2.length ≤ sizeLine := Nat.le_trans (by omega) size_big
    simp [gAdd, colds_tups, this]
  have c : ∀ e, Rl.mk (.ok [.lst true ((r1 ++ r2).map tupOf)]) C.Slots 2 (sp_Slots_init C) e = .ok (slo C true (joined (r1 ++ r2))) e := fun e =>
    makeP_ok (dr := [.lst false ((r1 ++ r2).map tupOf)]) rfl (by
      simp only [frzs_cons, frz_lst, frzs_nil, frzs_id (colds_tups (r1 ++ r2))]
      exact init_ok C (.inl rfl) (all2_tups (r1 ++ r2)) (mem_app h1 h2) (by simp; omega)) (by
      show ((slo C true (joined (r1 ++ r2))).free || _) = true
      rw [slo_free]
      rfl)
  have : mb_Slots_add C (startE 2 [slo C false r1, slo C false r2]) = .rt (slo C true (joined (r1 ++ r2))) [some (slo C false r1), some (slo C false r2)] := by
    show mb_Slots_add C [some (slo C false r1), some (slo C false r2)] = _
    unfold mb_Slots_add
    simp only [ev_ret, ev_makeP, ev_cons, ev_b2, ev_b1, ev_var, List.getElem?_cons_zero, List.getElem?_cons_succ, oV_some, b1_ok, slo_fld, ofO_some, b2_ok, ga, ev_nil, cons_ok, c, ret_ok]
  unfold sp_Slots_add
  rw [spec_rt this]
  simp [fin, slo_cold]
/-! ### own == -/
theorem eqv_tups : ∀ (a b : List (Str × Int)), PyData.eqvAll (pys (a.map tupOf)) (pys (b.map tupOf)) = decide (a = b)
  | [], [] => by simp [pys, PyData.eqvAll]
  | [], _ :: _ => by simp [pys, PyData.eqvAll]
  | _ :: _, [] => by simp [pys, PyData.eqvAll]
  | (k, m) :: a, (k', m') :: b => by
    have ih := eqv_tups a b
    simp only [List.map_cons, pys, PyData.eqvAll, ih, tupOf, py, PyData.eqv, Bool.and_true]
    by_cases h1 : k = k' <;> by_cases h2 : m = m' <;> by_cases h3 : a = b <;> simp [h1, h2, h3]
theorem gEq_tups {o o' : Bool} {a b : List (Str × Int)} (ha : ∀ p ∈ a, okRun p) (hb : ∀ p ∈ b, okRun p) : gEq (.lst o (a.map tupOf)) (.lst o' (b.map tupOf)) = some (.bl (decide (a = b))) := by
  rw [gEq_of (okD_tups ha) (okD_tups hb)]
  simp only [py, PyData.eqv, eqv_tups]
theorem isi_slo (C : Cad) (o : Bool) (rows : List (Str × Int)) : gIsi (cls C) [.ref C.Slots] (slo C o rows) = some (.bl true) := by
  simp [gIsi, isiA, isi1, tyD, slo, cls]
theorem eq_ok (C : Cad) {r1 r2 : List (Str × Int)} (h1 : ∀ p ∈ r1, okRun p) (h2 : ∀ p ∈ r2, okRun p) : sp_Slots_eq C [slo C false r1, slo C false r2] = .ok (.bl (decide (r1 = r2))) [slo C false r1, slo C false r2] := by
  have : mb_Slots_eq C (startE 2 [slo C false r1, slo C false r2]) = .rt (.bl (decide (r1 = r2))) [some (slo C false r1), some (slo C false r2)] := by
    show mb_Slots_eq C [some (slo C false r1), some (slo C false r2)] = _
    unfold mb_Slots_eq
    simp [isi_slo, slo_fld, gEq_tups h1 h2]
  unfold sp_Slots_eq
  rw [spec_rt this]
  simp [fin, slo_cold]
theorem eq_other (C : Cad) {r1 : List (Str × Int)} {d : D} (hd : gIsi (cls C) [.ref C.Slots] d = some (.bl false)) (hc : d.cold = true) : sp_Slots_eq C [slo C false r1, d] = .ok (.bl false) [slo C false r1, d] := by
  have : mb_Slots_eq C (startE 2 [slo C false r1, d]) = .rt (.bl false) [some (slo C false r1), some d] := by
    show mb_Slots_eq C [some (slo C false r1), some d] = _
    unfold mb_Slots_eq
    simp [hd]
  unfold sp_Slots_eq
  rw [spec_rt this]
  simp [fin, slo_cold, hc]
theorem gEqOwn_slo (C : Cad) {o o' : Bool} {r1 r2 : List (Str × Int)} (h1 : ∀ p ∈ r1, okRun p) (h2 : ∀ p ∈ r2, okRun p) : gEqOwn (cls C) C.Slots (sp_Slots_eq C) (slo C o r1) (slo C o' r2) = some (.bl (decide (r1 = r2))) := by
  have e : frzs [slo C o r1, slo C o' r2] = [slo C false r1, slo C false r2] := by simp only [frzs_cons, frzs_nil, slo_frz]
  have t : tyOk (cls C) (slo C o' r2) = true := by simp [tyOk, tyD, slo, cls]
  show (if C.Slots = C.Slots then (if tyOk (cls C) (slo C o' r2) = true then (match sp_Slots_eq C (frzs [slo C o r1, slo C o' r2]) with
    | .ok r _ => if keepR [slo C o r1, slo C o' r2] r = true then some r else none
    | _ => none) else none) else none) = _
  rw [if_pos rfl, if_pos t, e, eq_ok C h1 h2]
  rfl
theorem gEqOwn_no (C : Cad) {o : Bool} {r1 : List (Str × Int)} {d : D} (hd : gIsi (cls C) [.ref C.Slots] d = some (.bl false)) (hc : d.cold = true) (t : tyOk (cls C) d = true) : gEqOwn (cls C) C.Slots (sp_Slots_eq C) (slo C o r1) d = some (.bl false) := by
  have e : frzs [slo C o r1, d] = [slo C false r1, d] := by simp only [frzs_cons, frzs_nil, slo_frz, frz_id hc]
  show (if C.Slots = C.Slots then (if tyOk (cls C) d = true then (match sp_Slots_eq C (frzs [slo C o r1, d]) with
    | .ok r _ => if keepR [slo C o r1, d] r = true then some r else none
    | _ => none) else none) else none) = _
  rw [if_pos rfl, if_pos t, e, eq_other C hd hc]
  rfl
theorem gNeOwn_slo (C : Cad) {o o' : Bool} {r1 r2 : List (Str × Int)} (h1 : ∀ p ∈ r1, okRun p) (h2 : ∀ p ∈ r2, okRun p) : gNeOwn (cls C) C.Slots (sp_Slots_eq C) (slo C o r1) (slo C o' r2) = some (.bl (!decide (r1 = r2))) := by
  unfold gNeOwn
  rw [gEqOwn_slo C h1 h2]
theorem gOwn2_slo (C : Cad) {o o' : Bool} {r1 r2 : List (Str × Int)} (h1 : ∀ p ∈ r1, okRun p) (h2 : ∀ p ∈ r2, okRun p) (hl1 : r1.length ≤ 1000) (hl2 : r2.length ≤ 1000) : gOwn2 C.Slots (sp_Slots_add C) (slo C o r1) (slo C o' r2) = some (slo C true (joined (r1 ++ r2))) := by
  have e : frzs [slo C o r1, slo C o' r2] = [slo C false r1, slo C false r2] := by simp only [frzs_cons, frzs_nil, slo_frz]
  show (if C.Slots = C.Slots then (if C.Slots = C.Slots then (match sp_Slots_add C (frzs [slo C o r1, slo C o' r2]) with
    | .ok r _ => if keepR [slo C o r1, slo C o' r2] r = true then some r else none
    | _ => none) else none) else none) = _
  rw [if_pos rfl, if_pos rfl, e, add_ok C h1 h2 hl1 hl2]
  simp only
  rw [if_pos]
  show ((slo C true (joined (r1 ++ r2))).free || _) = true
  rw [slo_free]
  rfl
/-! ### same -/
theorem same_str (C : Cad) (n : Nat) {k : Str} (h : k ∈ k4) : sp__law_same C (n + 1) [.str k, .str k] = .ok (.bl true) [.str k, .str k] := by
  have e := gEq_str (k4_lay h) (k4_lay h)
  have i : gIs (.bl false) (.bl false) = some (.bl true) := rfl
  have : mb__law_same C (sp__law_same C n) (startE 4 [.str k, .str k]) = .rt (.bl true) [some (.str k), some (.str k), none, none] := by
    show mb__law_same C (sp__law_same C n) [some (.str k), some (.str k), none, none] = _
    unfold mb__law_same
    simp [e, i]
  show specOf 4 [false, false] (mb__law_same C (sp__law_same C n)) [.str k, .str k] = _
  rw [spec_rt this]
  simp [fin]
theorem same_int (C : Cad) (n : Nat) (i : Int) : sp__law_same C (n + 1) [.int i, .int i] = .ok (.bl true) [.int i, .int i] := by
  have eb : gEq (.bl false) (.bl false) = some (.bl true) := rfl
  have : mb__law_same C (sp__law_same C n) (startE 4 [.int i, .int i]) = .rt (.bl true) [some (.int i), some (.int i), none, none] := by
    show mb__law_same C (sp__law_same C n) [some (.int i), some (.int i), none, none] = _
    unfold mb__law_same
    simp [gEq_int, eb]
  show specOf 4 [false, false] (mb__law_same C (sp__law_same C n)) [.int i, .int i] = _
  rw [spec_rt this]
  simp [fin]
theorem zip_self : ∀ (ds : List D), zipD ds ds = ds.map fun x => .tup [x, x]
  | [] => rfl
  | x :: ds => by
    have := zip_self ds
    simp only [zipD, List.zip_cons_cons, List.map_cons] at this ⊢
    rw [this]
theorem all_true : ∀ (ds : List D), allD blD (ds.map fun _ => D.bl true) = some (ds.map fun _ => true)
  | [] => rfl
  | x :: ds => by simp [allD, blD, all_true ds]
theorem same_seq (C : Cad) (n : Nat) {d : D} {ds : List D} (hd : d = .lst false ds ∨ d = .tup ds) (hc : colds ds = true) (hl : ds.length ≤ 100000) (h : ∀ x ∈ ds, sp__law_same C n [x, x] = .ok (.bl true) [x, x]) : sp__law_same C (n + 1) [d, d] = .ok (.bl true) [d, d] := by
  have hdc : d.cold = true := by rcases hd with rfl | rfl <;> simp [hc]
  have hz : ∀ e, Ra.zip (.ok [d, d] e) = .ok (ds.map fun x => .tup [x, x]) e := fun e => by rcases hd with rfl | rfl <;> simp [frzs_id hc, zip_self]
  have hm := compN_map (own := [2, 3]) (g := gT 2 (gCons' (gN 2) (gCons' (gN 3) gNil'))) (me := mUp (mCallP 2 (sp__law_same C n) (mCons (mVar 2) (mCons (mVar 3) mNil)))) (e := [some d, some d, none, none]) (fun _ => .bl true) (fun x => ∃ y ∈ ds, x = .tup [y, y]) (by simp [wipeE]) (fun x ⟨y, hy, hx⟩ => by
    subst hx
    have hyc := cold_mem hc hy
    have c1 : Rl.callP (.ok [y, y]) 2 (sp__law_same C n) = .ok (.bl true) := callP_ok rfl (by simpa [frz_id hyc] using h y hy) rfl
    exact ⟨[some d, some d, some y, some y], [some d, some d, some y, some y], by simp, by simp [c1], by simp [wipeE]⟩) (ds.map fun x => .tup [x, x]) [] [some d, some d, none, none] (by simp [wipeE]) (fun x hx => by
      obtain ⟨y, hy, rfl⟩ := List.mem_map.mp hx
      exact ⟨y, hy, rfl⟩) (by
      have := size_big
      simp; omega)
  simp only [List.nil_append, List.map_map] at hm
  have e1 : (List.map ((fun _ => D.bl true) ∘ fun x => D.tup [x, x]) ds) = ds.map fun _ => D.bl true := rfl
  rw [e1] at hm
  have fz : frzs (ds.map fun _ => D.bl true) = ds.map fun _ => D.bl true := frzs_id (by
    clear hm h hz hl hdc hd hc e1
    induction ds with
    | nil => rfl
    | cons x xs ih => simp [ih])
  have ga : gAll [.lst false (ds.map fun _ => D.bl true)] = some (.bl true) := by simp [gAll, all_true]
  have t1 : gIsi (cls C) [.ty "list", .ty "tuple"] d = some (.bl true) := by rcases hd with rfl | rfl <;> rfl
  have t2 : ∃ b, gIsi (cls C) [.ty "list"] d = some (.bl b) := by rcases hd with rfl | rfl <;> exact ⟨_, rfl⟩
  have t3 : ∃ b, gIsi (cls C) [.ty "tuple"] d = some (.bl b) := by rcases hd with rfl | rfl <;> exact ⟨_, rfl⟩
  obtain ⟨b2, t2⟩ := t2
  obtain ⟨b3, t3⟩ := t3
  have nb : ∀ b : Bool, gNe (.bl b) (.bl b) = some (.bl false) := fun b => by cases b <;> rfl
  have hlen : gLen [d] = some (.int ds.length) := by rcases hd with rfl | rfl <;> rfl
  have : mb__law_same C (sp__law_same C n) (startE 4 [d, d]) = .rt (.bl true) [some d, some d, none, none] := by
    show mb__law_same C (sp__law_same C n) [some d, some d, none, none] = _
    unfold mb__law_same
    simp [t1, t2, t3, nb, hlen, gEq_int, frz_id hdc, hz, hm, fz, ga]
  show specOf 4 [false, false] (mb__law_same C (sp__law_same C n)) [d, d] = _
  rw [spec_rt this]
  simp [fin, hdc]
theorem same_tups (C : Cad) {rs : List (Str × Int)} (h : ∀ p ∈ rs, okRun p) (hl : rs.length ≤ 100000) : sp__law_same C 6 [.lst false (rs.map tupOf), .lst false (rs.map tupOf)] = .ok (.bl true) [.lst false (rs.map tupOf), .lst false (rs.map tupOf)] :=
  same_seq C 5 (.inl rfl) (colds_tups rs) (by simpa using hl) fun x hx => by
    obtain ⟨p, hp, rfl⟩ := List.mem_map.mp hx
    exact same_seq C 4 (ds := [.str p.1, .int p.2]) (.inr rfl) rfl (by simp) fun y hy => by
      simp only [List.mem_cons, List.not_mem_nil, or_false] at hy
      rcases hy with rfl | rfl
      · exact same_str C 3 (h p hp).2
      · exact same_int C 3 p.2
theorem same_strs (C : Cad) {ks : List Str} (h : ∀ k ∈ ks, k ∈ k4) (hl : ks.length ≤ 100000) : sp__law_same C 6 [.lst false (ks.map .str), .lst false (ks.map .str)] = .ok (.bl true) [.lst false (ks.map .str), .lst false (ks.map .str)] :=
  same_seq C 5 (.inl rfl) (colds_strs ks) (by simpa using hl) fun x hx => by
    obtain ⟨k, hk, rfl⟩ := List.mem_map.mp hx
    exact same_str C 4 (h k hk)
end K62
set_option Elab.async false
set_option linter.all false
set_option maxRecDepth 100000
set_option maxHeartbeats 4000000
namespace K62
open PySem G
noncomputable def lS1 (C : Cad) : MS := (sPar 3 4 (nCons (mCallM anyD 2 (sp__law_kinds C) 1 (nCons (mCold (mC (.int 9))) nNil)) (nCons (mCallM anyD 2 (sp__law_kinds C) 1 (nCons (mCold (mC (.int 5))) nNil)) nNil)))
noncomputable def lS2 (C : Cad) : MS := (sAsg (mCallM anyD 2 (sp__law_cut C) 1 (nCons (mFrz 3) nNil)) (gN 5))
noncomputable def lS3 (C : Cad) : MS := (sAsg (nTup (nCons (mMakeP C.Slots 2 (sp_Slots_init C) (mCons (mVar 5) mNil)) (nCons (mMakeF C.Slots 2 (sp_Slots_init C) (nCons (mCallM anyD 2 (sp__law_cut C) 1 (nCons (mFrz 4) nNil)) nNil)) nNil))) (gT 2 (gCons' (gN 6) (gCons' (gN 7) gNil'))))
noncomputable def lS4 (C : Cad) : MS := (sIf (mCold (mB1 (gIsi (cls C) [.ty "list"]) (mVar 5)))
  (sDrop (mAppend 5 (mCold (mTup (mCons (mC (.str "foe")) (mCons (mC (.int 9)) mNil))))))
  sNext)
noncomputable def lS5 (C : Cad) : MS := (sDrop (mAppT (mUp (mCallP 1 (sp_Slots_runs C) (mCons (mRecv C.Slots "runs" (mVar 6)) mNil))) (mTup (mCons (mC (.str "none")) (mCons (mC (.int 3)) mNil)))))
noncomputable def lS6 (C : Cad) : MS := (sIf (mOr (mNot (mUp (mCallP 2 (sp__law_same C 6) (mCons (mCallP 1 (sp_Slots_runs C) (mCons (mRecv C.Slots "runs" (mVar 6)) mNil)) (mCons (mCallP 1 (sp__law_runs C) (mCons (mVar 3) mNil)) mNil))))) (mCold (mB2 gNe (mCallP 1 (sp_Slots_many_slots C) (mCons (mRecv C.Slots "many_slots" (mVar 6)) mNil)) (mBN gLen (mCons (mVar 3) mNil)))))
  (sRet (mCold (mC (.bl false))))
  sNext)
noncomputable def lS7 (C : Cad) : MS := (sIf (mNot (mCallF 2 (sp__law_same C 6) (nCons (mLc (mRng1 (nCons (mCold (mBN gLen (mCons (mVar 3) mNil))) nNil)) [11] (gN 11) mYes (mUp (mCallP 2 (sp_Slots_kind_of C) (mCons (mRecv C.Slots "kind_of" (mVar 6)) (mCons (mB2 gAdd (mVar 11) (mC (.int 1))) mNil))))) (nCons (mFrz 3) nNil))))
  (sRet (mCold (mC (.bl false))))
  sNext)
noncomputable def lS8 (C : Cad) : MS := (sAsg (mOwn1 (gOwn2 C.Slots (sp_Slots_add C)) (mVar 6) (mVar 7)) (gN 8))
noncomputable def lS9 (C : Cad) : MS := (sIf (mOr (mNot (mUp (mCallP 2 (sp__law_same C 6) (mCons (mCallP 1 (sp_Slots_runs C) (mCons (mRecv C.Slots "runs" (mVar 8)) mNil)) (mCons (mCallP 1 (sp__law_runs C) (mCons (mB2 gAdd (mVar 3) (mVar 4)) mNil)) mNil))))) (mE2 (gNeOwn (cls C) C.Slots (sp_Slots_eq C)) (mFrz 8) (mMakeF C.Slots 2 (sp_Slots_init C) (nCons (mCallM anyD 2 (sp__law_cut C) 1 (nCons (mOwn1 gAdd (mVar 3) (mVar 4)) nNil)) nNil))))
  (sRet (mCold (mC (.bl false))))
  sNext)
noncomputable def lS10 (C : Cad) : MS := (sIf (mOr (mE2 (gNeOwn (cls C) C.Slots (sp_Slots_eq C)) (mFrz 6) (mMakeP C.Slots 2 (sp_Slots_init C) (mCons (mCallP 1 (sp__law_runs C) (mCons (mVar 3) mNil)) mNil))) (mEN gAny (nCons (mFz (mLc (mIt (nLst (nCons (mCold (mC .non)) (nCons (mFrz 3) (nCons (mFz (mUp (mCallP 1 (sp__law_runs C) (mCons (mVar 3) mNil)))) (nCons (mCold (mC (.int 5))) nNil)))))) [12] (gN 12) mYes (mCold (mB2 (gEqOwn (cls C) C.Slots (sp_Slots_eq C)) (mVar 6) (mVar 12))))) nNil)))
  (sRet (mCold (mC (.bl false))))
  sNext)
noncomputable def lS11 (C : Cad) : MS := (sIf (mOr (mCold (mB2 gNe (mB2 (gEqOwn (cls C) C.Slots (sp_Slots_eq C)) (mVar 6) (mVar 7)) (mB2 gEq (mVar 3) (mVar 4)))) (mOr (mCold (mB2 (gEqOwn (cls C) C.Slots (sp_Slots_eq C)) (mVar 6) (mVar 8))) (mNot (mUp (mCallP 2 (sp__law_same C 6) (mCons (mCallP 1 (sp_Slots_runs C) (mCons (mRecv C.Slots "runs" (mVar 6)) mNil)) (mCons (mCallP 1 (sp__law_runs C) (mCons (mVar 3) mNil)) mNil)))))))
  (sRet (mCold (mC (.bl false))))
  sNext)
noncomputable def lS12 (C : Cad) : MS := (sAsg (mE2 gAdd (mCold (mB2 gPow (mC (.int 10)) (mC (.int 14)))) (mCallM anyD 2 (sp__law_take C) 1 (nCons (mCold (mB2 gPow (mC (.int 10)) (mC (.int 6)))) nNil))) (gN 9))
noncomputable def lS13 (C : Cad) : MS := (sAsg (mE2 (gOwn2 C.Slots (sp_Slots_add C)) (mFrz 6) (mMakeP C.Slots 2 (sp_Slots_init C) (mCons (mLst (mCons (mTup (mCons (mC (.str "foe")) (mCons (mVar 9) mNil))) (mCons (mTup (mCons (mC (.str "none")) (mCons (mVar 9) mNil))) mNil))) mNil))) (gN 10))
noncomputable def lS14 (C : Cad) : MS := (sIf (mOr (mCold (mB2 gNe (mCallP 1 (sp_Slots_many_slots C) (mCons (mRecv C.Slots "many_slots" (mVar 10)) mNil)) (mB2 gAdd (mBN gLen (mCons (mVar 3) mNil)) (mB2 gMul (mC (.int 2)) (mVar 9))))) (mCold (mB2 gNe (mCallP 2 (sp_Slots_kind_of C) (mCons (mRecv C.Slots "kind_of" (mVar 10)) (mCons (mB2 gAdd (mB2 gAdd (mBN gLen (mCons (mVar 3) mNil)) (mVar 9)) (mC (.int 1))) mNil))) (mC (.str "none")))))
  (sRet (mCold (mC (.bl false))))
  sNext)
noncomputable def lS15 (C : Cad) : MS := (sIf (mOr (mCold (mB2 gNe (mCallP 2 (sp_Slots_kind_of C) (mCons (mRecv C.Slots "kind_of" (mVar 10)) (mCons (mB2 gAdd (mBN gLen (mCons (mVar 3) mNil)) (mVar 9)) mNil))) (mC (.str "foe")))) (mCold (mB2 gNe (mCallP 2 (sp_Slots_kind_of C) (mCons (mRecv C.Slots "kind_of" (mVar 10)) (mCons (mC (.int 1)) mNil))) (mB2 ixD (mVar 3) (mC (.int 0))))))
  (sRet (mCold (mC (.bl false))))
  sNext)
noncomputable def lBody (C : Cad) : MS := sSeq (lS1 C) (sSeq (lS2 C) (sSeq (lS3 C) (sSeq (lS4 C) (sSeq (lS5 C) (sSeq (lS6 C) (sSeq (lS7 C) (sSeq (lS8 C) (sSeq (lS9 C) (sSeq (lS10 C) (sSeq (lS11 C) (sSeq (lS12 C) (sSeq (lS13 C) (sSeq (lS14 C) (lS15 C))))))))))))))
theorem mb_law_eq (C : Cad) : mb_law C = sSeq (sAsg (mUp (mCallP 1 (sp__law_fresh C) (mCons (mVar 0) mNil))) (gN 1)) (sSeq (sFor (mRng1 (nCons (mCold (mC (.int 8))) nNil)) (gN 2) (lBody C)) (sRet (mAnd (mE2 gEq (mCallF 1 (sp_Slots_runs C) (nCons (nRecv C.Slots "runs" (mMakeP C.Slots 2 (sp_Slots_init C) (mCons (mLst mNil) mNil))) nNil)) (nLst nNil)) (mAnd (mE2 gEq (mCallF 1 (sp_Slots_many_slots C) (nCons (nRecv C.Slots "many_slots" (mMakeP C.Slots 2 (sp_Slots_init C) (mCons (mTup mNil) mNil))) nNil)) (mCold (mC (.int 0)))) (mE2 (gEqOwn (cls C) C.Slots (sp_Slots_eq C)) (mE2 (gOwn2 C.Slots (sp_Slots_add C)) (mMakeP C.Slots 2 (sp_Slots_init C) (mCons (mLst mNil) mNil)) (mMakeP C.Slots 2 (sp_Slots_init C) (mCons (mLst mNil) mNil))) (mMakeP C.Slots 2 (sp_Slots_init C) (mCons (mLst mNil) mNil))))))) := rfl

/-! ### what a row of slots is, by its kinds -/
def J (ks : List Str) : List (Str × Int) := joined (ones ks)
theorem J_ok {ks : List Str} (h : ∀ k ∈ ks, k ∈ k4) : ∀ q ∈ J ks, okRun q := (joined_ok (ones_ok h)).1
theorem J_ex {ks : List Str} (h : ∀ k ∈ ks, k ∈ k4) : expand (J ks) = ks := by
  have := (joined_ok (ones_ok h)).2
  rw [expand_ones] at this
  exact this
theorem J_len (ks : List Str) : (J ks).length ≤ ks.length := by
  have := joined_len (ones ks)
  simpa [ones, J] using this
theorem J_of {rs : List (Str × Int)} (h : ∀ q ∈ rs, okRun q) {ks : List Str} (e : expand rs = ks) : joined rs = J ks := by
  rw [joined_eq h, e]
  rfl
theorem J_inj {a b : List Str} (ha : ∀ k ∈ a, k ∈ k4) (hb : ∀ k ∈ b, k ∈ k4) : (J a = J b) ↔ a = b := ⟨fun h => by rw [← J_ex ha, h, J_ex hb], fun h => by rw [h]⟩
theorem J_app {a b : List Str} (ha : ∀ k ∈ a, k ∈ k4) (hb : ∀ k ∈ b, k ∈ k4) : joined (J a ++ J b) = J (a ++ b) := J_of (mem_app (J_ok ha) (J_ok hb)) (by rw [expand_app, J_ex ha, J_ex hb])
theorem k4_app {a b : List Str} (ha : ∀ k ∈ a, k ∈ k4) (hb : ∀ k ∈ b, k ∈ k4) : ∀ k ∈ a ++ b, k ∈ k4 := fun k h => (List.mem_append.mp h).elim (ha k) (hb k)
theorem mk_ok (C : Cad) {d : D} {zs : List D} {rs : List (Str × Int)} {ks : List Str} (hd : d = .lst true zs ∨ d = .tup zs) (h : All2 isRun zs rs) (hr : ∀ q ∈ rs, okRun q) (he : expand rs = ks) (hl : ks.length ≤ 1000) : sp_Slots_init C [.ins true C.Slots [], d.frz] = .ok .non [slo C true (J ks), d.frz] := by
  have hz := all2_cold h
  have hd' : d.frz = .lst false zs ∨ d.frz = .tup zs := by rcases hd with rfl | rfl <;> simp [frzs_id hz]
  have := expand_len rs hr
  rw [← J_of hr he]
  exact init_ok C hd' h hr (by rw [he] at this; omega)
theorem mkP_ok (C : Cad) {d : D} {zs : List D} {rs : List (Str × Int)} {ks : List Str} (e : G.Env) (hd : d = .lst true zs ∨ d = .tup zs) (h : All2 isRun zs rs) (hr : ∀ q ∈ rs, okRun q) (he : expand rs = ks) (hl : ks.length ≤ 1000) : Rl.mk (.ok [d]) C.Slots 2 (sp_Slots_init C) e = .ok (slo C true (J ks)) e :=
  makeP_ok (dr := [d.frz]) rfl (mk_ok C hd h hr he hl) (by
    show ((slo C true (J ks)).free || _) = true
    rw [slo_free]
    rfl)
theorem mkF_ok (C : Cad) {d : D} {zs : List D} {rs : List (Str × Int)} {ks : List Str} (e : G.Env) (hd : d = .lst true zs ∨ d = .tup zs) (h : All2 isRun zs rs) (hr : ∀ q ∈ rs, okRun q) (he : expand rs = ks) (hl : ks.length ≤ 1000) : Ra.mk (.ok [d] e) C.Slots 2 (sp_Slots_init C) = .ok (slo C true (J ks)) e :=
  makeF_ok (dr := [d.frz]) rfl (mk_ok C hd h hr he hl)
theorem frz_strs (ks : List Str) : frzs (ks.map D.str) = ks.map D.str := frzs_id (colds_strs ks)
section
variable (C : Cad) {s : D} {ks ot : List Str} {a0 a2 a3 a4 a5 a6 a7 a8 a9 a10 a11 a12 : Option D}
theorem lS1_ok (hs : St s) : ∃ s' ks ot, St s' ∧ ks ≠ [] ∧ ks.length ≤ 9 ∧ (∀ k ∈ ks, k ∈ k4) ∧ ot ≠ [] ∧ ot.length ≤ 5 ∧ (∀ k ∈ ot, k ∈ k4) ∧
    lS1 C [a0, some s, a2, a3, a4, a5, a6, a7, a8, a9, a10, a11, a12] = .nx [a0, some s', a2, some (.lst true (ks.map .str)), some (.lst true (ot.map .str)), a5, a6, a7, a8, a9, a10, a11, a12] := by
  obtain ⟨ks, s1, k1, k2, k3, hs1, h1⟩ := kinds_ok C hs (many := 9) (by omega) (by omega)
  obtain ⟨ot, s2, o1, o2, o3, hs2, h2⟩ := kinds_ok C hs1 (many := 5) (by omega) (by omega)
  have c1 := callM_eq (n := 2) (i := 1) (f := sp__law_kinds C) (m := nCons (mCold (mC (.int 9))) nNil) (e := [a0, some s, a2, a3, a4, a5, a6, a7, a8, a9, a10, a11, a12]) (ds := [.int 9]) rfl (by simp) rfl h1
  have c2 := callM_eq (n := 2) (i := 1) (f := sp__law_kinds C) (m := nCons (mCold (mC (.int 5))) nNil) (e := [a0, some s1, a2, a3, a4, a5, a6, a7, a8, a9, a10, a11, a12]) (ds := [.int 5]) rfl (by simp) rfl h2
  simp only [List.set_cons_zero, List.set_cons_succ] at c1 c2
  exact ⟨s2, ks, ot, hs2, k1, by omega, k3, o1, by omega, o3, by simp [lS1, c1, c2]⟩
theorem cut_call (hs : St s) (hk : ∀ k ∈ ks, k ∈ k4) (hl : ks.length ≤ 100) : ∃ rs zs r s', (∀ p ∈ rs, okRun p) ∧ expand rs = ks ∧ All2 isRun zs rs ∧ (r = .lst true zs ∨ r = .tup zs) ∧ St s' ∧ ∀ (m : MA) (e e1 : G.Env) (o : Bool), e[1]? = some (some s) → m e = .ok [.lst o (ks.map .str)] e1 → e1[1]? = some (some s) → mCallM anyD 2 (sp__law_cut C) 1 m e = .ok r (e1.set 1 (some s')) := by
  obtain ⟨rs, zs, r, s', h1, h2, h3, h4, h5, h6⟩ := cut_ok C hs ks hk hl
  exact ⟨rs, zs, r, s', h1, h2, h3, h4, h5, fun m e e1 o he hm he1 => callM_ok he hm rfl he1 (by simpa [frz_strs] using h6)⟩
theorem lS23_ok (hs : St s) (hk : ∀ k ∈ ks, k ∈ k4) (hl : ks.length ≤ 100) (ho : ∀ k ∈ ot, k ∈ k4) (hl2 : ot.length ≤ 100) : ∃ s' r zs, St s' ∧ zs.length ≤ 100 ∧ (r = .lst true zs ∨ r = .tup zs) ∧
    sSeq (lS2 C) (lS3 C) [a0, some s, a2, some (.lst true (ks.map .str)), some (.lst true (ot.map .str)), a5, a6, a7, a8, a9, a10, a11, a12] = .nx [a0, some s', a2, some (.lst false (ks.map .str)), some (.lst false (ot.map .str)), some r, some (slo C false (J ks)), some (slo C false (J ot)), a8, a9, a10, a11, a12] := by
  obtain ⟨rs, zs, r, s1, h1, h2, h3, h4, hs1, h6⟩ := cut_call C hs hk hl
  obtain ⟨rs', zs', r', s2, i1, i2, i3, i4, hs2, i6⟩ := cut_call C hs1 ho hl2
  have c1 := h6 (nCons (mFrz 3) nNil) [a0, some s, a2, some (.lst true (ks.map .str)), some (.lst true (ot.map .str)), a5, a6, a7, a8, a9, a10, a11, a12] [a0, some s, a2, some (.lst false (ks.map .str)), some (.lst true (ot.map .str)), a5, a6, a7, a8, a9, a10, a11, a12] false rfl (by simp [frz_strs]) rfl
  have c2 := i6 (nCons (mFrz 4) nNil) [a0, some s1, a2, some (.lst false (ks.map .str)), some (.lst true (ot.map .str)), some r, a6, a7, a8, a9, a10, a11, a12] [a0, some s1, a2, some (.lst false (ks.map .str)), some (.lst false (ot.map .str)), some r, a6, a7, a8, a9, a10, a11, a12] false rfl (by simp [frz_strs]) rfl
  simp only [List.set_cons_zero, List.set_cons_succ] at c1 c2
  have m1 := fun e => mkP_ok C e h4 h3 h1 h2 (by omega)
  have m2 := fun e => mkF_ok C e i4 i3 i1 i2 (by omega)
  have zl : zs.length ≤ 100 := by
    have e1 := h3.length
    have e2 := expand_len rs h1
    rw [h2] at e2
    omega
  refine ⟨s2, r, zs, hs2, zl, h4, ?_⟩
  simp [lS2, lS3, c1, c2, m1, m2, ntup_ok, slo_frz]
theorem lS4_ok {r : D} {zs : List D} (hr : r = .lst true zs ∨ r = .tup zs) (hz : zs.length ≤ 100) : ∃ r', lS4 C [a0, a2, a3, a4, a5, some r, a6, a7, a8, a9, a10, a11, a12] = .nx [a0, a2, a3, a4, a5, some r', a6, a7, a8, a9, a10, a11, a12] := by
  rcases hr with rfl | rfl
  · have c := append_ok (i := 5) (m := mCold (mTup (mCons (mC (.str "foe")) (mCons (mC (.int 9)) mNil)))) (e := [a0, a2, a3, a4, a5, some (.lst true zs), a6, a7, a8, a9, a10, a11, a12]) (e1 := [a0, a2, a3, a4, a5, some (.lst true zs), a6, a7, a8, a9, a10, a11, a12]) (d := tupOf ("foe", 9)) rfl (by simp [tupOf, cold_ok]) rfl (Nat.lt_of_le_of_lt hz (by decide))
    simp only [List.set_cons_zero, List.set_cons_succ] at c
    exact ⟨_, by simp [lS4, c]; rfl⟩
  · exact ⟨_, by simp [lS4]; rfl⟩
theorem call_runs (o : Bool) (rows : List (Str × Int)) : Rl.callP (.ok [slo C o rows]) 1 (sp_Slots_runs C) = .ok (.lst true (rows.map tupOf)) := callP_ok rfl (by simpa [slo_frz] using runs_ok C rows) (by
  show ((D.lst true (rows.map tupOf)).free || _) = true
  have : (D.lst true (rows.map tupOf)).free = true := by show (true && frees (rows.map tupOf)) = true; rw [frees_tups]; rfl
  rw [this]
  rfl)
theorem call_lruns {o : Bool} (hk : ∀ k ∈ ks, k ∈ k4) (hl : ks.length ≤ 1000) : Rl.callP (.ok [.lst o (ks.map .str)]) 1 (sp__law_runs C) = .ok (.lst true ((J ks).map tupOf)) := callP_ok rfl (by simpa [frz_strs, J] using law_runs_ok C hk (by omega)) (by
  show ((D.lst true ((J ks).map tupOf)).free || _) = true
  have : (D.lst true ((J ks).map tupOf)).free = true := by show (true && frees ((J ks).map tupOf)) = true; rw [frees_tups]; rfl
  rw [this]
  rfl)
theorem call_same {o o' : Bool} (hk : ∀ k ∈ ks, k ∈ k4) (hl : ks.length ≤ 1000) : Rl.callP (.ok [.lst o ((J ks).map tupOf), .lst o' ((J ks).map tupOf)]) 2 (sp__law_same C 6) = .ok (.bl true) := callP_ok rfl (by
  have := J_len ks
  simpa [frzs_id (colds_tups (J ks))] using same_tups C (J_ok hk) (by omega)) rfl
theorem lS5_ok (rows : List (Str × Int)) (hl : rows.length ≤ 1000) : lS5 C [a0, a2, a3, a4, a5, a6, some (slo C false rows), a7, a8, a9, a10, a11, a12] = .nx [a0, a2, a3, a4, a5, a6, some (slo C false rows), a7, a8, a9, a10, a11, a12] := by
  have c := appT_ok (ds := rows.map tupOf) (e := [a0, a2, a3, a4, a5, a6, some (slo C false rows), a7, a8, a9, a10, a11, a12]) (ma := mTup (mCons (mC (.str "none")) (mCons (mC (.int 3)) mNil))) (d := .tup [.str "none", .int 3]) (by
    have := size_big
    simp; omega) (by simp)
  simp [lS5, recv_ok (recv_slo C false rows (mn := "runs") (by decide)), call_runs, c]
theorem total_J (hk : ∀ k ∈ ks, k ∈ k4) : total (J ks) = ks.length := by rw [total_expand (J_ok hk), J_ex hk]
theorem lS6_ok (hk : ∀ k ∈ ks, k ∈ k4) (hl : ks.length ≤ 1000) : lS6 C [a0, a2, a3, some (.lst false (ks.map .str)), a4, a5, some (slo C false (J ks)), a7, a8, a9, a10, a11, a12] = .nx [a0, a2, a3, some (.lst false (ks.map .str)), a4, a5, some (slo C false (J ks)), a7, a8, a9, a10, a11, a12] := by
  have := J_len ks
  simp [lS6, recv_ok (recv_slo C false (J ks) (mn := "runs") (by decide)), recv_ok (recv_slo C false (J ks) (mn := "many_slots") (by decide)), call_runs, call_lruns C hk hl, call_same C hk hl, call_many C (o := false) (rows := J ks) (by omega), total_J hk, gNe_int]
theorem lS8_ok (hk : ∀ k ∈ ks, k ∈ k4) (hl : ks.length ≤ 500) (ho : ∀ k ∈ ot, k ∈ k4) (hl2 : ot.length ≤ 500) : lS8 C [a0, a2, a3, a4, a5, a6, some (slo C false (J ks)), some (slo C false (J ot)), a8, a9, a10, a11, a12] = .nx [a0, a2, a3, a4, a5, a6, some (slo C false (J ks)), some (slo C false (J ot)), some (slo C true (J (ks ++ ot))), a9, a10, a11, a12] := by
  have g := gOwn2_slo C (o := false) (o' := false) (J_ok hk) (J_ok ho) (by have := J_len ks; omega) (by have := J_len ot; omega)
  rw [J_app hk ho] at g
  simp [lS8, g]
end
end K62
set_option Elab.async false
set_option linter.all false
set_option maxRecDepth 100000
set_option maxHeartbeats 4000000
namespace K62
open PySem G
section
variable (C : Cad) {s : D} {ks ot : List Str} {a0 a2 a3 a4 a5 a6 a7 a8 a9 a10 a11 a12 : Option D}
theorem call_kind {o : Bool} {rows : List (Str × Int)} (hr : ∀ p ∈ rows, okRun p) (hl : rows.length ≤ 100000) {slot : Int} (h1 : 1 ≤ slot) (h2 : slot ≤ (expand rows).length) : Rl.callP (.ok [slo C o rows, .int slot]) 2 (sp_Slots_kind_of C) = .ok (.str ((expand rows)[(slot - 1).toNat]'(by omega))) := callP_ok rfl (by
  simp only [frzs_cons, frzs_nil, slo_frz, frz_int]
  exact kind_ok C hr hl h1 h2) rfl
theorem getD_eq {l l' : List Str} (e : l = l') {i : Nat} (h : i < l.length) : l[i]'h = l'[i]'(e ▸ h) := by subst e; rfl
theorem kinds_map (hk : ∀ k ∈ ks, k ∈ k4) (hl : ks.length ≤ 1000) (a11 : Option D) : compN [11] (gN 11) mYes (mUp (mCallP 2 (sp_Slots_kind_of C) (mCons (mRecv C.Slots "kind_of" (mVar 6)) (mCons (mB2 gAdd (mVar 11) (mC (.int 1))) mNil)))) (rangeD 0 ks.length) [a0, a2, a3, a4, a5, a7, some (slo C false (J ks)), a8, a9, a10, a6, a11, a12] [] = .ok (ks.map .str) [a0, a2, a3, a4, a5, a7, some (slo C false (J ks)), a8, a9, a10, a6, none, a12] := by
  have jl := J_len ks
  have hm := compN_map (own := [11]) (g := gN 11) (me := mUp (mCallP 2 (sp_Slots_kind_of C) (mCons (mRecv C.Slots "kind_of" (mVar 6)) (mCons (mB2 gAdd (mVar 11) (mC (.int 1))) mNil)))) (e := [a0, a2, a3, a4, a5, a7, some (slo C false (J ks)), a8, a9, a10, a6, none, a12])
    (fun d => match d with
      | .int i => .str (ks.getD i.toNat Str.empty)
      | _ => .non) (fun d => ∃ j : Nat, j < ks.length ∧ d = .int j) (by simp [wipeE]) (fun d ⟨j, hj, hd⟩ => by
        subst hd
        have ex := J_ex hk
        have hlen : (expand (J ks)).length = ks.length := by rw [ex]
        have c := call_kind C (o := false) (J_ok hk) (by omega) (slot := (j : Int) + 1) (by omega) (by omega)
        have e1 : (expand (J ks))[((j : Int) + 1 - 1).toNat]'(by omega) = ks.getD ((j : Int)).toNat Str.empty := by
          have e2 : ((j : Int) + 1 - 1).toNat = j := by omega
          have e3 : ((j : Int)).toNat = j := by omega
          rw [e3]
          rw [getD_eq ex]
          simp [hj]
        rw [e1] at c
        exact ⟨[a0, a2, a3, a4, a5, a7, some (slo C false (J ks)), a8, a9, a10, a6, some (.int j), a12], [a0, a2, a3, a4, a5, a7, some (slo C false (J ks)), a8, a9, a10, a6, some (.int j), a12], by simp, by
          simp [recv_ok (recv_slo C false (J ks) (mn := "kind_of") (by decide)), -Int.toNat_natCast, c], by simp [wipeE]⟩) (rangeD 0 ks.length) [] [a0, a2, a3, a4, a5, a7, some (slo C false (J ks)), a8, a9, a10, a6, a11, a12] (by simp [wipeE]) (fun d hd => by
          obtain ⟨j, hj, rfl⟩ := List.mem_map.mp hd
          exact ⟨j, List.mem_range.mp hj, by simp⟩) (by
          have := size_big
          simp [rangeD]; omega)
  rw [hm]
  congr 1
  rw [List.nil_append]
  apply List.ext_getElem
  · simp [rangeD]
  · intro i h1 h2
    have : i < ks.length := by simpa using h2
    simp [rangeD, this]
theorem lS7_r (hl : ks.length ≤ 1000) (e : G.Env) : Ra.rng1 (.ok [.int (ks.length : Int)] e) = .ok (rangeD 0 ks.length) e := by
  have h2 : (ks.length : Int) < 2 ^ 62 := by
    have : (1000 : Int) < 2 ^ 62 := by decide
    omega
  have := rng1_ok (j := ks.length) (e := e) (by omega) h2
  rwa [Int.toNat_natCast] at this
theorem lS7_s (hk : ∀ k ∈ ks, k ∈ k4) (hl : ks.length ≤ 1000) (e : G.Env) : Ra.callF (.ok [.lst true (ks.map .str), .lst false (ks.map .str)] e) 2 (sp__law_same C 6) = .ok (.bl true) e := by
  have h := same_strs C hk (show ks.length ≤ 100000 by omega)
  refine callF_ok (ds' := [.lst false (ks.map .str), .lst false (ks.map .str)]) rfl ?_
  rw [frzs_cons, frzs_cons, frzs_nil, frz_lst, frz_lst, frz_strs]
  exact h
theorem lS7_a (hl : ks.length ≤ 1000) : (mRng1 (nCons (mCold (mBN gLen (mCons (mVar 3) mNil))) nNil)) [a0, a2, a3, some (.lst false (ks.map .str)), a4, a5, a6, a7, a8, a9, a10, a11, a12] = .ok (rangeD 0 ks.length) [a0, a2, a3, some (.lst false (ks.map .str)), a4, a5, a6, a7, a8, a9, a10, a11, a12] := by
  have h1 : (nCons (mCold (mBN gLen (mCons (mVar 3) mNil))) nNil) [a0, a2, a3, some (.lst false (ks.map .str)), a4, a5, a6, a7, a8, a9, a10, a11, a12] = .ok [.int (ks.length : Int)] [a0, a2, a3, some (.lst false (ks.map .str)), a4, a5, a6, a7, a8, a9, a10, a11, a12] := by simp
  rw [ev_rng1, h1]
  exact lS7_r hl _
theorem lS7_ok (hk : ∀ k ∈ ks, k ∈ k4) (hl : ks.length ≤ 1000) : lS7 C [a0, a2, a3, some (.lst false (ks.map .str)), a4, a5, some (slo C false (J ks)), a7, a8, a9, a10, a11, a12] = .nx [a0, a2, a3, some (.lst false (ks.map .str)), a4, a5, some (slo C false (J ks)), a7, a8, a9, a10, none, a12] := by
  have km := kinds_map C (a0 := a0) (a2 := a2) (a3 := a3) (a4 := some (.lst false (ks.map .str))) (a5 := a4) (a7 := a5) (a8 := a7) (a9 := a8) (a10 := a9) (a6 := a10) (a12 := a12) hk hl a11
  have hs := lS7_s C hk hl
  have hf := frz_strs ks
  have hi := lS7_a (ks := ks) (a0 := a0) (a2 := a2) (a3 := a3) (a4 := a4) (a5 := a5) (a6 := some (slo C false (J ks))) (a7 := a7) (a8 := a8) (a9 := a9) (a10 := a10) (a11 := a11) (a12 := a12) hl
  unfold lS7
  generalize sp__law_same C 6 = f at hs ⊢
  generalize (mUp (mCallP 2 (sp_Slots_kind_of C) (mCons (mRecv C.Slots "kind_of" (mVar 6)) (mCons (mB2 gAdd (mVar 11) (mC (.int 1))) mNil)))) = me at km ⊢
  generalize slo C false (J ks) = sl at km hi ⊢
  generalize rangeD 0 ks.length = rg at km hi ⊢
  generalize (mRng1 (nCons (mCold (mBN gLen (mCons (mVar 3) mNil))) nNil)) = mi at hi ⊢
  have e1 : (mLc mi [11] (gN 11) mYes me) [a0, a2, a3, some (.lst false (ks.map .str)), a4, a5, some sl, a7, a8, a9, a10, a11, a12] = .ok (.lst true (ks.map .str)) [a0, a2, a3, some (.lst false (ks.map .str)), a4, a5, some sl, a7, a8, a9, a10, none, a12] := by
    rw [ev_lc, hi, lc_ok, km, lc2_ok]
  generalize (mLc mi [11] (gN 11) mYes me) = ml at e1 ⊢
  have e2 : (nCons ml (nCons (mFrz 3) nNil)) [a0, a2, a3, some (.lst false (ks.map .str)), a4, a5, some sl, a7, a8, a9, a10, a11, a12] = .ok [.lst true (ks.map .str), .lst false (ks.map .str)] [a0, a2, a3, some (.lst false (ks.map .str)), a4, a5, some sl, a7, a8, a9, a10, none, a12] := by
    rw [ev_acons, e1]
    simp [hf]
  rw [ev_sif, ev_not, ev_callF, e2, hs]
  rfl
theorem eqv_strs : ∀ (a b : List Str), PyData.eqvAll (pys (a.map D.str)) (pys (b.map D.str)) = decide (a = b)
  | [], [] => by simp [pys, PyData.eqvAll]
  | [], _ :: _ => by simp [pys, PyData.eqvAll]
  | _ :: _, [] => by simp [pys, PyData.eqvAll]
  | k :: a, k' :: b => by
    have ih := eqv_strs a b
    simp only [List.map_cons, pys, PyData.eqvAll, ih, py, PyData.eqv]
    by_cases h1 : k = k' <;> by_cases h3 : a = b <;> simp [h1, h3]
theorem okD_strs {o : Bool} (hk : ∀ k ∈ ks, k ∈ k4) : okD 64 (.lst o (ks.map .str)) = true := by
  have : ∀ l : List Str, (∀ k ∈ l, k ∈ k4) → okDs 63 (l.map D.str) = true := by
    intro l
    induction l with
    | nil => intro _; simp [okDs]
    | cons k l ih =>
      intro h
      have h1 := k4_lay (h k List.mem_cons_self)
      simp [okDs, okD, h1, ih fun q hq => h q (List.mem_cons_of_mem _ hq)]
  simpa [okD] using this ks hk
theorem gEq_strs {o o' : Bool} (hk : ∀ k ∈ ks, k ∈ k4) (ho : ∀ k ∈ ot, k ∈ k4) : gEq (.lst o (ks.map .str)) (.lst o' (ot.map .str)) = some (.bl (decide (ks = ot))) := by
  rw [gEq_of (okD_strs hk) (okD_strs ho)]
  simp only [py, PyData.eqv, eqv_strs]
theorem add_strs {o o' : Bool} (hl : ks.length ≤ 500) (hl2 : ot.length ≤ 500) : gAdd (.lst o (ks.map .str)) (.lst o' (ot.map .str)) = some (.lst true ((ks ++ ot).map .str)) := by
  have : ks.length + ot.length ≤ sizeLine := Nat.le_trans (by omega) size_big
  simp [gAdd, colds_strs, this]
theorem lS9_ok (hs : St s) (hk : ∀ k ∈ ks, k ∈ k4) (hl : ks.length ≤ 50) (ho : ∀ k ∈ ot, k ∈ k4) (hl2 : ot.length ≤ 50) : ∃ s', St s' ∧ lS9 C [a0, some s, a3, some (.lst false (ks.map .str)), some (.lst false (ot.map .str)), a5, a6, a7, some (slo C true (J (ks ++ ot))), a9, a10, a11, a12] = .nx [a0, some s', a3, some (.lst false (ks.map .str)), some (.lst false (ot.map .str)), a5, a6, a7, some (slo C false (J (ks ++ ot))), a9, a10, a11, a12] := by
  have hko := k4_app hk ho
  have hlo : (ks ++ ot).length ≤ 100 := by simp; omega
  obtain ⟨rs, zs, r, s1, h1, h2, h3, h4, hs1, h6⟩ := cut_call C hs hko hlo
  have ga := add_strs (o := false) (o' := false) (ks := ks) (ot := ot) (by omega) (by omega)
  have c1 := h6 (nCons (mOwn1 gAdd (mVar 3) (mVar 4)) nNil) [a0, some s, a3, some (.lst false (ks.map .str)), some (.lst false (ot.map .str)), a5, a6, a7, some (slo C false (J (ks ++ ot))), a9, a10, a11, a12] [a0, some s, a3, some (.lst false (ks.map .str)), some (.lst false (ot.map .str)), a5, a6, a7, some (slo C false (J (ks ++ ot))), a9, a10, a11, a12] true rfl (by simp [ga]) rfl
  simp only [List.set_cons_zero, List.set_cons_succ] at c1
  have m1 := fun e => mkF_ok C e h4 h3 h1 h2 (by omega)
  have ne := gNeOwn_slo C (o := false) (o' := true) (J_ok hko) (J_ok hko)
  have cl := call_lruns C (o := true) hko (by omega)
  have cs := call_same C (o := true) (o' := true) hko (by omega)
  refine ⟨s1, hs1, ?_⟩
  simp only [List.map_append] at ga cl cs
  simp [lS9, recv_ok (recv_slo C true (J (ks ++ ot)) (mn := "runs") (by decide)), call_runs, ga, cl, cs, slo_frz, c1, m1, ne]
end
end K62
set_option Elab.async false
set_option linter.all false
set_option maxRecDepth 100000
set_option maxHeartbeats 4000000
namespace K62
open PySem G
section
variable (C : Cad) {s : D} {ks ot : List Str} {a0 a2 a3 a4 a5 a6 a7 a8 a9 a10 a11 a12 : Option D}
theorem mkJ_ok (e : G.Env) (hk : ∀ k ∈ ks, k ∈ k4) (hl : ks.length ≤ 1000) : Rl.mk (.ok [.lst true ((J ks).map tupOf)]) C.Slots 2 (sp_Slots_init C) e = .ok (slo C true (J ks)) e :=
  mkP_ok C e (.inl rfl) (all2_tups (J ks)) (J_ok hk) (J_ex hk) hl
theorem lS10_any (hk : ∀ k ∈ ks, k ∈ k4) (hl : ks.length ≤ 1000) : (mLc (mIt (nLst (nCons (mCold (mC .non)) (nCons (mFrz 3) (nCons (mFz (mUp (mCallP 1 (sp__law_runs C) (mCons (mVar 3) mNil)))) (nCons (mCold (mC (.int 5))) nNil)))))) [12] (gN 12) mYes (mCold (mB2 (gEqOwn (cls C) C.Slots (sp_Slots_eq C)) (mVar 6) (mVar 12)))) [a0, a2, a3, some (.lst false (ks.map .str)), a4, a5, some (slo C false (J ks)), a7, a8, a9, a10, a11, a12]
    = .ok (.lst true [.bl false, .bl false, .bl false, .bl false]) [a0, a2, a3, some (.lst false (ks.map .str)), a4, a5, some (slo C false (J ks)), a7, a8, a9, a10, a11, none] := by
  have hf := frz_strs ks
  have ht := frzs_id (colds_tups (J ks))
  have cl := call_lruns C (o := false) hk hl
  have hi : (mIt (nLst (nCons (mCold (mC .non)) (nCons (mFrz 3) (nCons (mFz (mUp (mCallP 1 (sp__law_runs C) (mCons (mVar 3) mNil)))) (nCons (mCold (mC (.int 5))) nNil)))))) [a0, a2, a3, some (.lst false (ks.map .str)), a4, a5, some (slo C false (J ks)), a7, a8, a9, a10, a11, a12] = .ok [.non, .lst false (ks.map .str), .lst false ((J ks).map tupOf), .int 5] [a0, a2, a3, some (.lst false (ks.map .str)), a4, a5, some (slo C false (J ks)), a7, a8, a9, a10, a11, a12] := by
    generalize sp__law_runs C = f at cl ⊢
    simp [hf, ht, cl, nlst_ok]
  have g1 : gEqOwn (cls C) C.Slots (sp_Slots_eq C) (slo C false (J ks)) .non = some (.bl false) := gEqOwn_no C (by simp [gIsi, isiA, isi1, tyD, cls, names7]) rfl rfl
  have g2 : gEqOwn (cls C) C.Slots (sp_Slots_eq C) (slo C false (J ks)) (.lst false (ks.map .str)) = some (.bl false) := gEqOwn_no C (by simp [gIsi, isiA, isi1, tyD, cls, names7]) (by simp [colds_strs]) rfl
  have g3 : gEqOwn (cls C) C.Slots (sp_Slots_eq C) (slo C false (J ks)) (.lst false ((J ks).map tupOf)) = some (.bl false) := gEqOwn_no C (by simp [gIsi, isiA, isi1, tyD, cls, names7]) (by simp [colds_tups]) rfl
  have g4 : gEqOwn (cls C) C.Slots (sp_Slots_eq C) (slo C false (J ks)) (.int 5) = some (.bl false) := gEqOwn_no C (by simp [gIsi, isiA, isi1, tyD, cls, names7]) rfl rfl
  rw [ev_lc, hi, lc_ok]
  generalize gEqOwn (cls C) C.Slots (sp_Slots_eq C) = q at g1 g2 g3 g4 ⊢
  generalize slo C false (J ks) = sl at g1 g2 g3 g4 ⊢
  have hm := compN_map (own := [12]) (g := gN 12) (me := mCold (mB2 q (mVar 6) (mVar 12))) (e := [a0, a2, a3, some (.lst false (ks.map .str)), a4, a5, some sl, a7, a8, a9, a10, a11, none]) (fun _ => .bl false) (fun d => q sl d = some (.bl false)) (by simp [wipeE]) (fun d hd => ⟨[a0, a2, a3, some (.lst false (ks.map .str)), a4, a5, some sl, a7, a8, a9, a10, a11, some d], [a0, a2, a3, some (.lst false (ks.map .str)), a4, a5, some sl, a7, a8, a9, a10, a11, some d], by simp, by simp [hd], by simp [wipeE]⟩)
    [.non, .lst false (ks.map .str), .lst false ((J ks).map tupOf), .int 5] [] [a0, a2, a3, some (.lst false (ks.map .str)), a4, a5, some sl, a7, a8, a9, a10, a11, a12] (by simp [wipeE]) (fun d hd => by
      simp only [List.mem_cons, List.not_mem_nil, or_false] at hd
      rcases hd with rfl | rfl | rfl | rfl <;> assumption) (Nat.le_trans (by simp) size_big)
  rw [hm]
  rfl
theorem lS10_ok (hk : ∀ k ∈ ks, k ∈ k4) (hl : ks.length ≤ 1000) : lS10 C [a0, a2, a3, some (.lst false (ks.map .str)), a4, a5, some (slo C false (J ks)), a7, a8, a9, a10, a11, a12] = .nx [a0, a2, a3, some (.lst false (ks.map .str)), a4, a5, some (slo C false (J ks)), a7, a8, a9, a10, a11, none] := by
  have la := lS10_any C (a0 := a0) (a2 := a2) (a3 := a3) (a4 := a4) (a5 := a5) (a7 := a7) (a8 := a8) (a9 := a9) (a10 := a10) (a11 := a11) (a12 := a12) hk hl
  have ne := gNeOwn_slo C (o := false) (o' := true) (J_ok hk) (J_ok hk)
  have cl := call_lruns C (o := false) hk hl
  have mk := fun e => mkJ_ok C e hk hl
  have hf := slo_frz C false (J ks)
  have ga : gAny [.lst false [.bl false, .bl false, .bl false, .bl false]] = some (.bl false) := rfl
  have hfr : (D.lst true [.bl false, .bl false, .bl false, .bl false]).frz = .lst false [.bl false, .bl false, .bl false, .bl false] := rfl
  have e1 : (mE2 (gNeOwn (cls C) C.Slots (sp_Slots_eq C)) (mFrz 6) (mMakeP C.Slots 2 (sp_Slots_init C) (mCons (mCallP 1 (sp__law_runs C) (mCons (mVar 3) mNil)) mNil))) [a0, a2, a3, some (.lst false (ks.map .str)), a4, a5, some (slo C false (J ks)), a7, a8, a9, a10, a11, a12] = .ok (.bl false) [a0, a2, a3, some (.lst false (ks.map .str)), a4, a5, some (slo C false (J ks)), a7, a8, a9, a10, a11, a12] := by
    simp only [ev_e2, ev_frz, List.getElem?_cons_succ, List.getElem?_cons_zero, oFrz_some, hf, List.set_cons_succ, List.set_cons_zero, e2_ok, ev_makeP, ev_cons, ev_callP, ev_var, oV_some, ev_nil, cons_ok, cl, mk, e2'_ok, ne]
    simp
  unfold lS10
  rw [ev_sif, ev_or, e1, or_f, ev_en, ev_acons, ev_fz, la]
  simp only [fz_ok, hfr, acons_ok, ev_anil, ra_cons, en_ok, ga, oE_some, br_f, ev_next]
theorem lS11_ok (hk : ∀ k ∈ ks, k ∈ k4) (hl : ks.length ≤ 500) (ho : ∀ k ∈ ot, k ∈ k4) (hl2 : ot.length ≤ 500) (hne : ot ≠ []) : lS11 C [a0, a2, a3, some (.lst false (ks.map .str)), some (.lst false (ot.map .str)), a5, some (slo C false (J ks)), some (slo C false (J ot)), some (slo C false (J (ks ++ ot))), a9, a10, a11, a12] = .nx [a0, a2, a3, some (.lst false (ks.map .str)), some (.lst false (ot.map .str)), a5, some (slo C false (J ks)), some (slo C false (J ot)), some (slo C false (J (ks ++ ot))), a9, a10, a11, a12] := by
  have hko := k4_app hk ho
  have g1 := gEqOwn_slo C (o := false) (o' := false) (J_ok hk) (J_ok ho)
  have g2 := gEqOwn_slo C (o := false) (o' := false) (J_ok hk) (J_ok hko)
  have d1 : decide (J ks = J ot) = decide (ks = ot) := by rw [decide_eq_decide]; exact J_inj hk ho
  have d2 : decide (J ks = J (ks ++ ot)) = false := by
    rw [decide_eq_false_iff_not, J_inj hk hko]
    intro h
    have := congrArg List.length h
    simp only [List.length_append] at this
    have : 0 < ot.length := List.length_pos_iff.mpr hne
    omega
  rw [d1] at g1
  rw [d2] at g2
  have g3 := gEq_strs (o := false) (o' := false) hk ho
  have nb : ∀ b : Bool, gNe (.bl b) (.bl b) = some (.bl false) := fun b => by cases b <;> rfl
  have cl := call_lruns C (o := false) hk (by omega)
  have cs := call_same C (o := true) (o' := true) hk (by omega)
  have cr := call_runs C false (J ks)
  have rc := recv_ok (recv_slo C false (J ks) (mn := "runs") (by decide))
  unfold lS11
  simp only [ev_sif, ev_or, ev_cold, ev_b2, ev_var, List.getElem?_cons_succ, List.getElem?_cons_zero, oV_some, b2_ok, g1, g2, g3, ofO_some, nb, cold_bl, or_f, ev_not, ev_up, ev_callP, ev_cons, ev_recv, rc, ev_nil, cons_ok, cr, cl, cs, up_ok, not_ok, Bool.not_true, br_f, ev_next]
end
end K62
set_option Elab.async false
set_option linter.all false
set_option maxRecDepth 100000
set_option maxHeartbeats 4000000
namespace K62
open PySem G
section
variable (C : Cad) {s : D} {ks ot : List Str} {a0 a2 a3 a4 a5 a6 a7 a8 a9 a10 a11 a12 : Option D}
theorem lS12_ok (hs : St s) : ∃ s' m, St s' ∧ 1 ≤ m ∧ m < 2 ^ 50 ∧ lS12 C [a0, some s, a2, a3, a4, a5, a6, a7, a8, a9, a10, a11, a12] = .nx [a0, some s', a2, a3, a4, a5, a6, a7, a8, some (.int m), a10, a11, a12] := by
  obtain ⟨digit, s1, d0, d1, hs1, ht⟩ := take_ok C hs (many := 1000000) (by omega) (by omega)
  have c1 := callM_eq (n := 2) (i := 1) (f := sp__law_take C) (m := nCons (mCold (mB2 gPow (mC (.int 10)) (mC (.int 6)))) nNil) (e := [a0, some s, a2, a3, a4, a5, a6, a7, a8, a9, a10, a11, a12]) (ds := [.int 1000000]) rfl (by
    have : powOk 10 6 = true := rfl
    simp [this]) rfl ht
  have p14 : powOk 10 14 = true := rfl
  simp only [List.set_cons_zero, List.set_cons_succ] at c1
  exact ⟨s1, 100000000000000 + digit, hs1, by omega, by omega, by simp [lS12, p14, c1]⟩
def gr (m : Int) : List (Str × Int) := [("foe", m), ("none", m)]
theorem gr_ok {m : Int} (h : 1 ≤ m) : ∀ p ∈ gr m, okRun p := by
  intro p hp
  simp only [gr, List.mem_cons, List.not_mem_nil, or_false] at hp
  rcases hp with rfl | rfl
  · exact ⟨by show 0 < m; omega, by simp [k4]⟩
  · exact ⟨by show 0 < m; omega, by simp [k4]⟩
def big (ks : List Str) (m : Int) : List (Str × Int) := joined (J ks ++ joined (gr m))
theorem big_ok (hk : ∀ k ∈ ks, k ∈ k4) {m : Int} (h : 1 ≤ m) : (∀ p ∈ big ks m, okRun p) ∧ expand (big ks m) = ks ++ (List.replicate m.toNat ("foe" : Str) ++ List.replicate m.toNat ("none" : Str)) := by
  have h1 := joined_ok (gr_ok h)
  have h2 := joined_ok (mem_app (J_ok hk) h1.1)
  refine ⟨h2.1, ?_⟩
  unfold big
  rw [h2.2, expand_app, J_ex hk, h1.2]
  simp [expand, gr]
theorem big_len (ks : List Str) (m : Int) : (big ks m).length ≤ ks.length + 2 := by
  have h1 := joined_len (J ks ++ joined (gr m))
  have h2 := joined_len (gr m)
  have h3 := J_len ks
  simp only [List.length_append] at h1
  have : (gr m).length = 2 := rfl
  unfold big
  omega
theorem mkG_ok (e : G.Env) {m : Int} (h : 1 ≤ m) : Rl.mk (.ok [.lst true ((gr m).map tupOf)]) C.Slots 2 (sp_Slots_init C) e = .ok (slo C true (joined (gr m))) e :=
  makeP_ok (dr := [.lst false ((gr m).map tupOf)]) rfl (by
    rw [frzs_cons, frzs_nil, frz_lst, frzs_id (colds_tups (gr m))]
    exact init_ok C (.inl rfl) (all2_tups (gr m)) (gr_ok h) (by simp [gr])) (by
    show ((slo C true (joined (gr m))).free || _) = true
    rw [slo_free]
    rfl)
theorem lS13_ok (hk : ∀ k ∈ ks, k ∈ k4) (hl : ks.length ≤ 500) {m : Int} (h : 1 ≤ m) : lS13 C [a0, a2, a3, a4, a5, a7, some (slo C false (J ks)), a8, a9, some (.int m), a10, a11, a12] = .nx [a0, a2, a3, a4, a5, a7, some (slo C false (J ks)), a8, a9, some (.int m), some (slo C true (big ks m)), a11, a12] := by
  have t1 : Rl.tup (.ok [.str "foe", .int m]) = .ok (tupOf ("foe", m)) := tup_ok2 rfl
  have t2 : Rl.tup (.ok [.str "none", .int m]) = .ok (tupOf ("none", m)) := tup_ok2 rfl
  have l1 : Rl.lst (.ok [tupOf ("foe", m), tupOf ("none", m)]) = .ok (.lst true ((gr m).map tupOf)) := lst_ok rfl (le_size (by simp))
  have mk := fun e => mkG_ok C e h
  have jl := J_len ks
  have gl : (joined (gr m)).length ≤ 2 := joined_len (gr m)
  have g := gOwn2_slo C (o := false) (o' := true) (J_ok hk) (joined_ok (gr_ok h)).1 (by omega) (by omega)
  have hf := slo_frz C false (J ks)
  unfold lS13
  simp only [ev_asg, ev_e2, ev_frz, List.getElem?_cons_succ, List.getElem?_cons_zero, oFrz_some, hf, List.set_cons_succ, List.set_cons_zero, e2_ok, ev_makeP, ev_cons, ev_lst, ev_tup, ev_c, ev_var, oV_some, ev_nil, cons_ok, t1, t2, l1, mk, e2'_ok, g, oE_some, asg_ok, ev_gN]
  simp [big]
theorem gNe_str {a b : Str} (h1 : PyData.canLay0 (.str a) = true) (h2 : PyData.canLay0 (.str b) = true) : gNe (.str a) (.str b) = some (.bl (!decide (a = b))) := by
  rw [gNe_of (by simpa [okD] using h1) (by simpa [okD] using h2)]
  simp only [py, PyData.eqv]
  congr 2
theorem lS1415_ok (hk : ∀ k ∈ ks, k ∈ k4) (hne : ks ≠ []) (hl : ks.length ≤ 500) {m : Int} (h : 1 ≤ m) (hm : m < 2 ^ 50) : sSeq (lS14 C) (lS15 C) [a0, a2, a3, some (.lst false (ks.map .str)), a4, a5, a6, a7, a8, some (.int m), some (slo C true (big ks m)), a11, a12] = .nx [a0, a2, a3, some (.lst false (ks.map .str)), a4, a5, a6, a7, a8, some (.int m), some (slo C true (big ks m)), a11, a12] := by
  obtain ⟨bo, be⟩ := big_ok hk h
  have bl := big_len ks m
  have hpos : 0 < ks.length := List.length_pos_iff.mpr hne
  have elen : (expand (big ks m)).length = ks.length + (m.toNat + m.toNat) := by rw [be]; simp
  have tot : total (big ks m) = ks.length + 2 * m := by rw [total_expand bo, elen]; omega
  have cm := call_many C (o := true) (rows := big ks m) (by omega)
  rw [tot] at cm
  have c1 := call_kind C (o := true) bo (by omega) (slot := ks.length + m + 1) (by omega) (by omega)
  have c2 := call_kind C (o := true) bo (by omega) (slot := ks.length + m) (by omega) (by omega)
  have c3 := call_kind C (o := true) bo (by omega) (slot := 1) (by omega) (by omega)
  have e1 : (expand (big ks m))[((ks.length : Int) + m + 1 - 1).toNat]'(by omega) = "none" := by
    rw [getD_eq be, List.getElem_append_right (by omega), List.getElem_append_right (by simp; omega)]
    simp
  have e2 : (expand (big ks m))[((ks.length : Int) + m - 1).toNat]'(by omega) = "foe" := by
    rw [getD_eq be, List.getElem_append_right (by omega), List.getElem_append_left (by simp; omega)]
    simp
  have e3 : (expand (big ks m))[((1 : Int) - 1).toNat]'(by omega) = ks[0]'hpos := by
    rw [getD_eq be, List.getElem_append_left (by simpa using hpos)]
    rfl
  rw [e1] at c1
  rw [e2] at c2
  rw [e3] at c3
  have n1 : gNe (.str "none") (.str "none") = some (.bl false) := by rw [gNe_str (k4_lay (by simp [k4])) (k4_lay (by simp [k4]))]; simp
  have n2 : gNe (.str "foe") (.str "foe") = some (.bl false) := by rw [gNe_str (k4_lay (by simp [k4])) (k4_lay (by simp [k4]))]; simp
  have hk0 := k4_lay (hk _ (List.getElem_mem hpos))
  have n3 : gNe (.str (ks[0]'hpos)) (.str (ks[0]'hpos)) = some (.bl false) := by rw [gNe_str hk0 hk0]; simp
  have n4 : gNe (.int ((ks.length : Int) + 2 * m)) (.int ((ks.length : Int) + 2 * m)) = some (.bl false) := by rw [gNe_int]; simp
  have i0 : ixD (.lst false (ks.map .str)) (.int 0) = some (.str (ks[0]'hpos)) := by
    have := ix_strs (ks := ks) (i := 0) (by omega) (by omega)
    exact this
  have r1 := recv_ok (recv_slo C true (big ks m) (mn := "many_slots") (by decide))
  have r2 := recv_ok (recv_slo C true (big ks m) (mn := "kind_of") (by decide))
  have m1 : mulOk 2 m = true := mul_l (by omega)
  have gl : gLen [.lst false (ks.map .str)] = some (.int (ks.length : Int)) := by rw [gLen_lst, List.length_map]
  unfold lS14 lS15
  generalize slo C true (big ks m) = sl at *
  simp only [ev_seq, ev_sif, ev_or, ev_cold, ev_b2, ev_callP, ev_cons, ev_recv, ev_var, List.getElem?_cons_succ, List.getElem?_cons_zero, oV_some, r1, r2, ev_nil, cons_ok, cm, ev_bn, bn_ok, gl, ofO_some, ev_c, b2_ok, gMul_int m1, gAdd_int, n4, cold_bl, or_f, c1, c2, c3, n1, n2, n3, br_f, ev_next, seq_nx, i0]
theorem turn_ok (hs : St s) : ∃ s' e', St s' ∧ lBody C [a0, some s, a2, a3, a4, a5, a6, a7, a8, a9, a10, a11, a12] = .nx (a0 :: some s' :: e') ∧ e'.length = 11 := by
  obtain ⟨s1, ks, ot, hs1, k1, k2, k3, o1, o2, o3, e1⟩ := lS1_ok C (a0 := a0) (a2 := a2) (a3 := a3) (a4 := a4) (a5 := a5) (a6 := a6) (a7 := a7) (a8 := a8) (a9 := a9) (a10 := a10) (a11 := a11) (a12 := a12) hs
  obtain ⟨s2, r, zs, hs2, zl, hr, e2⟩ := lS23_ok C (a0 := a0) (a2 := a2) (a5 := a5) (a6 := a6) (a7 := a7) (a8 := a8) (a9 := a9) (a10 := a10) (a11 := a11) (a12 := a12) hs1 k3 (by omega) o3 (by omega)
  obtain ⟨r', e4⟩ := lS4_ok C (a0 := a0) (a2 := some s2) (a3 := a2) (a4 := some (.lst false (ks.map .str))) (a5 := some (.lst false (ot.map .str))) (a6 := some (slo C false (J ks))) (a7 := some (slo C false (J ot))) (a8 := a8) (a9 := a9) (a10 := a10) (a11 := a11) (a12 := a12) hr zl
  have jl := J_len ks
  have e5 := lS5_ok C (a0 := a0) (a2 := some s2) (a3 := a2) (a4 := some (.lst false (ks.map .str))) (a5 := some (.lst false (ot.map .str))) (a6 := some r') (a7 := some (slo C false (J ot))) (a8 := a8) (a9 := a9) (a10 := a10) (a11 := a11) (a12 := a12) (J ks) (by omega)
  have e6 := lS6_ok C (a0 := a0) (a2 := some s2) (a3 := a2) (a4 := some (.lst false (ot.map .str))) (a5 := some r') (a7 := some (slo C false (J ot))) (a8 := a8) (a9 := a9) (a10 := a10) (a11 := a11) (a12 := a12) k3 (by omega)
  have e7 := lS7_ok C (a0 := a0) (a2 := some s2) (a3 := a2) (a4 := some (.lst false (ot.map .str))) (a5 := some r') (a7 := some (slo C false (J ot))) (a8 := a8) (a9 := a9) (a10 := a10) (a11 := a11) (a12 := a12) k3 (by omega)
  have e8 := lS8_ok C (a0 := a0) (a2 := some s2) (a3 := a2) (a4 := some (.lst false (ks.map .str))) (a5 := some (.lst false (ot.map .str))) (a6 := some r') (a8 := a8) (a9 := a9) (a10 := a10) (a11 := none) (a12 := a12) k3 (by omega) o3 (by omega)
  obtain ⟨s3, hs3, e9⟩ := lS9_ok C (a0 := a0) (a3 := a2) (a5 := some r') (a6 := some (slo C false (J ks))) (a7 := some (slo C false (J ot))) (a9 := a9) (a10 := a10) (a11 := none) (a12 := a12) hs2 k3 (by omega) o3 (by omega)
  have e10 := lS10_ok C (a0 := a0) (a2 := some s3) (a3 := a2) (a4 := some (.lst false (ot.map .str))) (a5 := some r') (a7 := some (slo C false (J ot))) (a8 := some (slo C false (J (ks ++ ot)))) (a9 := a9) (a10 := a10) (a11 := none) (a12 := a12) k3 (by omega)
  have e11 := lS11_ok C (a0 := a0) (a2 := some s3) (a3 := a2) (a5 := some r') (a9 := a9) (a10 := a10) (a11 := none) (a12 := none) k3 (by omega) o3 (by omega) o1
  obtain ⟨s4, m, hs4, m1, m2, e12⟩ := lS12_ok C (a0 := a0) (a2 := a2) (a3 := some (.lst false (ks.map .str))) (a4 := some (.lst false (ot.map .str))) (a5 := some r') (a6 := some (slo C false (J ks))) (a7 := some (slo C false (J ot))) (a8 := some (slo C false (J (ks ++ ot)))) (a9 := a9) (a10 := a10) (a11 := none) (a12 := none) hs3
  have e13 := lS13_ok C (a0 := a0) (a2 := some s4) (a3 := a2) (a4 := some (.lst false (ks.map .str))) (a5 := some (.lst false (ot.map .str))) (a7 := some r') (a8 := some (slo C false (J ot))) (a9 := some (slo C false (J (ks ++ ot)))) (a10 := a10) (a11 := none) (a12 := none) k3 (by omega) m1
  have e14 := lS1415_ok C (a0 := a0) (a2 := some s4) (a3 := a2) (a4 := some (.lst false (ot.map .str))) (a5 := some r') (a6 := some (slo C false (J ks))) (a7 := some (slo C false (J ot))) (a8 := some (slo C false (J (ks ++ ot)))) (a11 := none) (a12 := none) k3 k1 (by omega) m1 m2
  have seqA : ∀ (p q r : MS) (e e' : G.Env), sSeq p q e = .nx e' → sSeq p (sSeq q r) e = r e' := fun p q r e e' h => by
    rw [ev_seq] at h ⊢
    cases hp : p e with
    | nx e1 => rw [hp] at h; rw [seq_nx] at h ⊢; rw [ev_seq, h, seq_nx]
    | _ => rw [hp] at h; simp [Rs.seq] at h
  refine ⟨s4, [a2, some (.lst false (ks.map .str)), some (.lst false (ot.map .str)), some r', some (slo C false (J ks)), some (slo C false (J ot)), some (slo C false (J (ks ++ ot))), some (.int m), some (slo C true (big ks m)), none, none], hs4, ?_, rfl⟩
  unfold lBody
  rw [ev_seq, e1, seq_nx, seqA _ _ _ _ _ e2, ev_seq, e4, seq_nx, ev_seq, e5, seq_nx, ev_seq, e6, seq_nx, ev_seq, e7, seq_nx, ev_seq, e8, seq_nx, ev_seq, e9, seq_nx, ev_seq, e10, seq_nx, ev_seq, e11, seq_nx, ev_seq, e12, seq_nx, ev_seq, e13, seq_nx, e14]
end
end K62
set_option Elab.async false
set_option linter.all false
set_option maxRecDepth 100000
set_option maxHeartbeats 4000000
namespace K62
open PySem G
theorem cut_ints (ns : List Int) (lo hi : Option Int) : ∃ ms : List Int, cutD (ns.map .int) lo hi = ms.map .int ∧ ms.length ≤ ns.length := by
  unfold cutD
  rw [List.length_map, ← List.map_drop, ← List.map_take]
  exact ⟨_, rfl, by simp; omega⟩
theorem fresh_ok (C : Cad) (ns : List Int) (hl : ns.length ≤ 100) : ∃ s, St s ∧ sp__law_fresh C [.lst false (ns.map .int)] = .ok s [.lst false (ns.map .int)] := by
  obtain ⟨ms, h1, h2⟩ := cut_ints ns none (some 63)
  have hc := cold_ints ns
  refine ⟨stD ms 0 0 false, ⟨ms, 0, 0, false, rfl, by omega, by omega, by omega⟩, ?_⟩
  have e1 : (mSl (mVar 0) oNone (oSome (mC (.int 63)))) [some (.lst false (ns.map .int))] = .ok (.lst true (ms.map .int)) [some (.lst false (ns.map .int))] := by
    have sl : slD (.lst false (ns.map .int)) none (some 63) = some (.lst true (ms.map .int)) := by
      unfold slD
      simp only [colds_ints, if_true, h1]
    unfold mSl
    simp only [ev_var, List.getElem?_cons_zero, oV_some, oNone, oSome, ev_c, sl]
  have : mb__law_fresh C (startE 1 [.lst false (ns.map .int)]) = .rt (stD ms 0 0 false) [some (.lst false (ns.map .int))] := by
    show mb__law_fresh C [some (.lst false (ns.map .int))] = _
    unfold mb__law_fresh
    rw [ev_ret, ev_nlst, ev_acons, ev_fz, e1]
    simp [frzs_ints, nlst_ok, stD]
  unfold sp__law_fresh
  rw [spec_rt this]
  show oK (if (D.lst false (ns.map .int)).cold = true then _ else _) _ = _
  rw [if_pos hc]
  rfl
theorem empty_ok (C : Cad) (d : D) (hd : d = .lst true [] ∨ d = .tup []) (e : G.Env) : Rl.mk (.ok [d]) C.Slots 2 (sp_Slots_init C) e = .ok (slo C true []) e := mkP_ok C (ks := []) (rs := []) (zs := []) e hd .nil (by simp) rfl (by simp)
theorem end_ok (C : Cad) (e : G.Env) : (sRet (mAnd (mE2 gEq (mCallF 1 (sp_Slots_runs C) (nCons (nRecv C.Slots "runs" (mMakeP C.Slots 2 (sp_Slots_init C) (mCons (mLst mNil) mNil))) nNil)) (nLst nNil)) (mAnd (mE2 gEq (mCallF 1 (sp_Slots_many_slots C) (nCons (nRecv C.Slots "many_slots" (mMakeP C.Slots 2 (sp_Slots_init C) (mCons (mTup mNil) mNil))) nNil)) (mCold (mC (.int 0)))) (mE2 (gEqOwn (cls C) C.Slots (sp_Slots_eq C)) (mE2 (gOwn2 C.Slots (sp_Slots_add C)) (mMakeP C.Slots 2 (sp_Slots_init C) (mCons (mLst mNil) mNil)) (mMakeP C.Slots 2 (sp_Slots_init C) (mCons (mLst mNil) mNil))) (mMakeP C.Slots 2 (sp_Slots_init C) (mCons (mLst mNil) mNil)))))) e = .rt (.bl true) e := by
  have m1 := fun e => empty_ok C (.lst true []) (.inl rfl) e
  have m2 := fun e => empty_ok C (.tup []) (.inr rfl) e
  have t0 : Rl.tup (.ok []) = .ok (.tup []) := tup_ok rfl (le_size (by simp))
  have r1 := fun e => nrecv_ok (e := e) (recv_slo C true [] (mn := "runs") (by decide))
  have r2 := fun e => nrecv_ok (e := e) (recv_slo C true [] (mn := "many_slots") (by decide))
  have f1 : ∀ e, Ra.callF (.ok [slo C true []] e) 1 (sp_Slots_runs C) = .ok (.lst true []) e := fun e => callF_ok (ds' := [slo C false []]) rfl (by
    rw [frzs_cons, frzs_nil, slo_frz]
    exact runs_ok C [])
  have f2 : ∀ e, Ra.callF (.ok [slo C true []] e) 1 (sp_Slots_many_slots C) = .ok (.int 0) e := fun e => callF_ok (ds' := [slo C false []]) rfl (by
    rw [frzs_cons, frzs_nil, slo_frz]
    exact many_ok C (rows := []) (by simp))
  have g1 : gEq (.lst true []) (.lst true []) = some (.bl true) := gEq_tups (a := []) (b := []) (by simp) (by simp)
  have g2 : gEq (.int 0) (.int 0) = some (.bl true) := by rw [gEq_int]; simp
  have g3 : gOwn2 C.Slots (sp_Slots_add C) (slo C true []) (slo C true []) = some (slo C true []) := gOwn2_slo C (o := true) (o' := true) (r1 := []) (r2 := []) (by simp) (by simp) (by simp) (by simp)
  have g4 : gEqOwn (cls C) C.Slots (sp_Slots_eq C) (slo C true []) (slo C true []) = some (.bl true) := by
    have := gEqOwn_slo C (o := true) (o' := true) (r1 := []) (r2 := []) (by simp) (by simp)
    simpa using this
  have n0 : Ra.lst (.ok [] e) = .ok (.lst true []) e := nlst_ok e (by simp)
  generalize sp_Slots_runs C = fr at *
  generalize sp_Slots_many_slots C = fm at *
  generalize sp_Slots_init C = fi at *
  generalize sp_Slots_add C = fa at *
  generalize sp_Slots_eq C = fe at *
  generalize slo C true [] = sl at *
  simp only [ev_ret, ev_and, ev_e2, ev_callF, ev_acons, ev_nrecv, ev_makeP, ev_cons, ev_lst, ev_tup, ev_nil, lst_ok0, t0, cons_ok, m1, m2, r1, r2, acons_ok, ev_anil, ra_cons, f1, f2, e2_ok, ev_nlst, n0, e2'_ok, g1, oE_some, and_t, ev_cold, ev_c, cold_int, g2, g3, g4, ret_ok]
theorem law_ok (C : Cad) (ns : List Int) (hl : ns.length ≤ 100) : sp_law C [.lst false (ns.map .int)] = .ok (.bl true) [.lst false (ns.map .int)] := by
  obtain ⟨s, hs, hfr⟩ := fresh_ok C ns hl
  have hc := cold_ints ns
  have c1 : Rl.callP (.ok [.lst false (ns.map .int)]) 1 (sp__law_fresh C) = .ok s := callP_ok (ds' := [.lst false (ns.map .int)]) rfl (by
    rw [frzs_cons, frzs_nil, frz_id hc]
    exact hfr) (by
    show (s.free || ((D.lst false (ns.map .int)).cold && true)) = true
    rw [hc]
    simp)
  obtain ⟨e', h1, s', r, he, hs', hr⟩ := forN_inv (g := gN 2) (b := lBody C) (fun _ e => ∃ s r, e = some (.lst false (ns.map .int)) :: some s :: r ∧ St s ∧ r.length = 11) (fun d ds e ⟨s, r, he, hs, hr⟩ => by
    subst he
    match r, hr with
    | [a2, a3, a4, a5, a6, a7, a8, a9, a10, a11, a12], _ =>
      obtain ⟨s', r', hs', ht, hl'⟩ := turn_ok C (a0 := some (.lst false (ns.map .int))) (a2 := some d) (a3 := a3) (a4 := a4) (a5 := a5) (a6 := a6) (a7 := a7) (a8 := a8) (a9 := a9) (a10 := a10) (a11 := a11) (a12 := a12) hs
      exact ⟨_, _, by simp, .inl ht, s', r', rfl, hs', hl'⟩) (rangeD 0 8) [some (.lst false (ns.map .int)), some s, none, none, none, none, none, none, none, none, none, none, none] ⟨s, _, rfl, hs, rfl⟩
  subst he
  have : mb_law C (startE 13 [.lst false (ns.map .int)]) = .rt (.bl true) (some (.lst false (ns.map .int)) :: some s' :: r) := by
    show mb_law C [some (.lst false (ns.map .int)), none, none, none, none, none, none, none, none, none, none, none, none] = _
    have r8 : ∀ e, Ra.rng1 (.ok [.int 8] e) = .ok (rangeD 0 8) e := fun e => rng1_ok (by omega) (by omega)
    have a1 : (sAsg (mUp (mCallP 1 (sp__law_fresh C) (mCons (mVar 0) mNil))) (gN 1)) [some (.lst false (ns.map .int)), none, none, none, none, none, none, none, none, none, none, none, none] = .nx [some (.lst false (ns.map .int)), some s, none, none, none, none, none, none, none, none, none, none, none] := by
      simp [c1]
    have a2 : ∀ e, (mRng1 (nCons (mCold (mC (.int 8))) nNil)) e = .ok (rangeD 0 8) e := fun e => by
      rw [ev_rng1, ev_acons, ev_cold, ev_c, cold_int, acons_ok, ev_anil, ra_cons, r8]
    rw [mb_law_eq, ev_seq, a1, seq_nx, ev_seq, ev_for, a2, for_ok, h1, seq_nx, end_ok]
  unfold sp_law
  rw [spec_rt this]
  show oK (if (D.lst false (ns.map .int)).cold = true then _ else _) _ = _
  rw [if_pos hc]
  rfl
end K62
set_option Elab.async false
set_option linter.all false
set_option maxRecDepth 100000
set_option maxHeartbeats 0
namespace K62
open PySem PySem.Spec PyProof.Rows L2 G
def fn : List He.DefD := [
  ⟨("_law_fresh", none), "_law_fresh", "_law_fresh", defArgs (top 14), defBody (top 14), defScope (top 14), [], []⟩,
  ⟨("_law_fill", none), "_law_fill", "_law_fill", defArgs (top 15), defBody (top 15), defScope (top 15), [], []⟩,
  ⟨("_law_take", none), "_law_take", "_law_take", defArgs (top 16), defBody (top 16), defScope (top 16), [], []⟩,
  ⟨("_law_handed", none), "_law_handed", "_law_handed", defArgs (top 18), defBody (top 18), defScope (top 18), [], []⟩,
  ⟨("_law_in_lists", none), "_law_in_lists", "_law_in_lists", defArgs (top 20), defBody (top 20), defScope (top 20), [], []⟩,
  ⟨("_law_cut", none), "_law_cut", "_law_cut", defArgs (top 23), defBody (top 23), defScope (top 23), [], []⟩,
  ⟨("joined_runs", none), "joined_runs", "joined_runs", defArgs (top 10), defBody (top 10), defScope (top 10), [], []⟩,
  ⟨("is_list", none), "is_list", "is_list", defArgs (top 6), defBody (top 6), defScope (top 6), [], []⟩,
  ⟨("is_integer", none), "is_integer", "is_integer", defArgs (top 5), defBody (top 5), defScope (top 5), [], []⟩,
  ⟨("is_run", none), "is_run", "is_run", defArgs (top 9), defBody (top 9), defScope (top 9), [], []⟩,
  ⟨("Slots", some "__init__"), "__init__", "Slots.__init__", defArgs (inClass (top 11) 0), defBody (inClass (top 11) 0), defScope (inClass (top 11) 0), [], []⟩,
  ⟨("Slots", some "__add__"), "__add__", "Slots.__add__", defArgs (inClass (top 11) 4), defBody (inClass (top 11) 4), defScope (inClass (top 11) 4), [], []⟩,
  ⟨("Slots", some "__eq__"), "__eq__", "Slots.__eq__", defArgs (inClass (top 11) 5), defBody (inClass (top 11) 5), defScope (inClass (top 11) 5), [], []⟩,
  ⟨("_law_one", none), "_law_one", "_law_one", defArgs (top 17), defBody (top 17), defScope (top 17), [], []⟩,
  ⟨("_law_kinds", none), "_law_kinds", "_law_kinds", defArgs (top 21), defBody (top 21), defScope (top 21), [], []⟩,
  ⟨("_law_same", none), "_law_same", "_law_same", defArgs (top 19), defBody (top 19), defScope (top 19), [], []⟩,
  ⟨("Slots", some "runs"), "runs", "Slots.runs", defArgs (inClass (top 11) 1), defBody (inClass (top 11) 1), defScope (inClass (top 11) 1), [], []⟩,
  ⟨("Slots", some "many_slots"), "many_slots", "Slots.many_slots", defArgs (inClass (top 11) 2), defBody (inClass (top 11) 2), defScope (inClass (top 11) 2), [], []⟩,
  ⟨("check_slot", none), "check_slot", "check_slot", defArgs (top 12), defBody (top 12), defScope (top 12), [], []⟩,
  ⟨("Slots", some "kind_of"), "kind_of", "Slots.kind_of", defArgs (inClass (top 11) 3), defBody (inClass (top 11) 3), defScope (inClass (top 11) 3), [], []⟩,
  ⟨("_law_runs", none), "_law_runs", "_law_runs", defArgs (top 22), defBody (top 22), defScope (top 22), [], []⟩,
  ⟨("law", none), "law", "law", defArgs (top 24), defBody (top 24), defScope (top 24), [], []⟩]
def fa : List He.Fa := [.glo "_law_fresh", .glo "_law_fill", .glo "_law_take", .glo "_law_handed", .glo "_law_in_lists", .glo "_law_cut", .glo "joined_runs", .glo "is_list", .glo "is_integer", .glo "is_run", .meth "Slots" "__init__", .meth "Slots" "__add__", .meth "Slots" "__eq__", .glo "_law_one", .glo "_law_kinds", .glo "_law_same", .meth "Slots" "runs", .meth "Slots" "many_slots", .glo "check_slot", .meth "Slots" "kind_of", .glo "_law_runs", .glo "law", .glo "Slots", .cls "Slots", .mkr "Slots", .noat "Slots" "run_rows", .glo "KINDS", .free "all", .free "any", .free "bool", .free "enumerate", .free "int", .free "isinstance", .free "len", .free "list", .free "range", .free "str", .free "sum", .free "tuple", .free "zip"]
def cad (K : PySem.W.Frag) : Cad := ⟨He.ga K "Slots"⟩
def xb (K : PySem.W.Frag) : Bool := (ownB K (cls (cad K)) && (PySem.W.selfFirst K (He.ga K "Slots") && (eqB K (cls (cad K)) (He.ga K "Slots") && He.tupB K "KINDS" [.str "one", .str "several", .str "none", .str "foe"])))
abbrev R : PySem.W.OpenRow := PySem.W.OpenLaw.row PySem.Challenge.rw_gameworths_k62_slots_told
abbrev hk : PySem.W.Hook := hookX 6 fa fn xb
def ob (s : PySem.W.SharedT) : He.AlD × Bool := obsX 6 fa fn xb (HandSHeadRun.getT s)
theorem ob_eq (s : PySem.W.SharedT) : ob s = hk.obs s.abs := obsX_eq (HandSHeadRun.getT_eq s)
def loose : List Str := ["__name__", "GameError", "BadRun", "BadSlot", "is_integer", "is_list", "KINDS", "is_run", "joined_runs", "Slots", "check_slot", "_law_fresh", "_law_fill", "_law_take", "_law_one", "_law_handed", "_law_same", "_law_in_lists", "_law_kinds", "_law_runs", "_law_cut"]
theorem run (w : World) : HandSHeadRun.RunEq R (PySem.W.view R.prog [24]) hk ob 4000 loose w := by
  intro os
  kernel_rfl
theorem facts {K : PySem.W.Frag} {h : Heap} {mg : Str → Option Value} (X : K.In h) (G : h.Ns mainGlobals mg) (c : He.SaysD fa fn K) (x : xb K = true) : ∃ p : Pf K mg, p.f_law = He.ga K "law" ∧ p.C = cad K := by
  unfold xb at x
  simp only [Bool.and_eq_true] at x
  obtain ⟨x0, x1, x2, x3⟩ := x
  have own := ownB_ok x0
  obtain ⟨d0, F0⟩ := c.def_ 0 rfl
  obtain ⟨d1, F1⟩ := c.def_ 1 rfl
  obtain ⟨d2, F2⟩ := c.def_ 2 rfl
  obtain ⟨d3, F3⟩ := c.def_ 3 rfl
  obtain ⟨d4, F4⟩ := c.def_ 4 rfl
  obtain ⟨d5, F5⟩ := c.def_ 5 rfl
  obtain ⟨d6, F6⟩ := c.def_ 6 rfl
  obtain ⟨d7, F7⟩ := c.def_ 7 rfl
  obtain ⟨d8, F8⟩ := c.def_ 8 rfl
  obtain ⟨d9, F9⟩ := c.def_ 9 rfl
  obtain ⟨d10, F10⟩ := c.def_ 10 rfl
  obtain ⟨d11, F11⟩ := c.def_ 11 rfl
  obtain ⟨d12, F12⟩ := c.def_ 12 rfl
  obtain ⟨d13, F13⟩ := c.def_ 13 rfl
  obtain ⟨d14, F14⟩ := c.def_ 14 rfl
  obtain ⟨d15, F15⟩ := c.def_ 15 rfl
  obtain ⟨d16, F16⟩ := c.def_ 16 rfl
  obtain ⟨d17, F17⟩ := c.def_ 17 rfl
  obtain ⟨d18, F18⟩ := c.def_ 18 rfl
  obtain ⟨d19, F19⟩ := c.def_ 19 rfl
  obtain ⟨d20, F20⟩ := c.def_ 20 rfl
  obtain ⟨d21, F21⟩ := c.def_ 21 rfl
  exact ⟨{
    C := cad K
    f__law_fresh := He.fAd K ("_law_fresh", none)
    d__law_fresh := d0
    F__law_fresh := F0
    g__law_fresh := He.glo_ok X G (c.fact 0 (f := .glo "_law_fresh") rfl)
    f__law_fill := He.fAd K ("_law_fill", none)
    d__law_fill := d1
    F__law_fill := F1
    g__law_fill := He.glo_ok X G (c.fact 1 (f := .glo "_law_fill") rfl)
    f__law_take := He.fAd K ("_law_take", none)
    d__law_take := d2
    F__law_take := F2
    g__law_take := He.glo_ok X G (c.fact 2 (f := .glo "_law_take") rfl)
    f__law_handed := He.fAd K ("_law_handed", none)
    d__law_handed := d3
    F__law_handed := F3
    g__law_handed := He.glo_ok X G (c.fact 3 (f := .glo "_law_handed") rfl)
    f__law_in_lists := He.fAd K ("_law_in_lists", none)
    d__law_in_lists := d4
    F__law_in_lists := F4
    g__law_in_lists := He.glo_ok X G (c.fact 4 (f := .glo "_law_in_lists") rfl)
    f__law_cut := He.fAd K ("_law_cut", none)
    d__law_cut := d5
    F__law_cut := F5
    g__law_cut := He.glo_ok X G (c.fact 5 (f := .glo "_law_cut") rfl)
    f_joined_runs := He.fAd K ("joined_runs", none)
    d_joined_runs := d6
    F_joined_runs := F6
    g_joined_runs := He.glo_ok X G (c.fact 6 (f := .glo "joined_runs") rfl)
    f_is_list := He.fAd K ("is_list", none)
    d_is_list := d7
    F_is_list := F7
    g_is_list := He.glo_ok X G (c.fact 7 (f := .glo "is_list") rfl)
    f_is_integer := He.fAd K ("is_integer", none)
    d_is_integer := d8
    F_is_integer := F8
    g_is_integer := He.glo_ok X G (c.fact 8 (f := .glo "is_integer") rfl)
    f_is_run := He.fAd K ("is_run", none)
    d_is_run := d9
    F_is_run := F9
    g_is_run := He.glo_ok X G (c.fact 9 (f := .glo "is_run") rfl)
    f_Slots_init := He.fAd K ("Slots", some "__init__")
    d_Slots_init := d10
    F_Slots_init := F10
    m_Slots_init := He.meth_ok (c.fact 10 (f := .meth "Slots" "__init__") rfl)
    f_Slots_add := He.fAd K ("Slots", some "__add__")
    d_Slots_add := d11
    F_Slots_add := F11
    m_Slots_add := He.meth_ok (c.fact 11 (f := .meth "Slots" "__add__") rfl)
    f_Slots_eq := He.fAd K ("Slots", some "__eq__")
    d_Slots_eq := d12
    F_Slots_eq := F12
    m_Slots_eq := He.meth_ok (c.fact 12 (f := .meth "Slots" "__eq__") rfl)
    f__law_one := He.fAd K ("_law_one", none)
    d__law_one := d13
    F__law_one := F13
    g__law_one := He.glo_ok X G (c.fact 13 (f := .glo "_law_one") rfl)
    f__law_kinds := He.fAd K ("_law_kinds", none)
    d__law_kinds := d14
    F__law_kinds := F14
    g__law_kinds := He.glo_ok X G (c.fact 14 (f := .glo "_law_kinds") rfl)
    f__law_same := He.fAd K ("_law_same", none)
    d__law_same := d15
    F__law_same := F15
    g__law_same := He.glo_ok X G (c.fact 15 (f := .glo "_law_same") rfl)
    f_Slots_runs := He.fAd K ("Slots", some "runs")
    d_Slots_runs := d16
    F_Slots_runs := F16
    m_Slots_runs := He.meth_ok (c.fact 16 (f := .meth "Slots" "runs") rfl)
    f_Slots_many_slots := He.fAd K ("Slots", some "many_slots")
    d_Slots_many_slots := d17
    F_Slots_many_slots := F17
    m_Slots_many_slots := He.meth_ok (c.fact 17 (f := .meth "Slots" "many_slots") rfl)
    f_check_slot := He.fAd K ("check_slot", none)
    d_check_slot := d18
    F_check_slot := F18
    g_check_slot := He.glo_ok X G (c.fact 18 (f := .glo "check_slot") rfl)
    f_Slots_kind_of := He.fAd K ("Slots", some "kind_of")
    d_Slots_kind_of := d19
    F_Slots_kind_of := F19
    m_Slots_kind_of := He.meth_ok (c.fact 19 (f := .meth "Slots" "kind_of") rfl)
    f__law_runs := He.fAd K ("_law_runs", none)
    d__law_runs := d20
    F__law_runs := F20
    g__law_runs := He.glo_ok X G (c.fact 20 (f := .glo "_law_runs") rfl)
    f_law := He.fAd K ("law", none)
    d_law := d21
    F_law := F21
    g_law := He.glo_ok X G (c.fact 21 (f := .glo "law") rfl)
    g_Slots := He.glo_ok X G (c.fact 22 (f := .glo "Slots") rfl)
    cl_Slots := He.cls_ok (c.fact 23 (f := .cls "Slots") rfl)
    mk_Slots := He.mkr_ok (c.fact 24 (f := .mkr "Slots") rfl)
    sf_Slots := x1
    e_Slots := eqB_ok own x2 (He.meth_ok (c.fact 12 (f := .meth "Slots" "__eq__") rfl))
    s_Slots_add := (He.meth_ok (c.fact 11 (f := .meth "Slots" "__add__") rfl)).at_
    i_Slots_add := (He.meth_ok (c.fact 11 (f := .meth "Slots" "__add__") rfl)).fn
    fl_run_rows := fun A hA => by
      simp only [cs_run_rows, cad, List.mem_cons, List.not_mem_nil, or_false] at hA
      subst hA; exact ⟨He.cls_ok (c.fact 23 (f := .cls "Slots") rfl), He.noat_ok (c.fact 25 (f := .noat "Slots" "run_rows") rfl)⟩
    own := own
    b_KINDS := fun hK hm hg => sb_glob hg (by rw [hm]; exact He.glo_ok X G (c.fact 26 (f := .glo "KINDS") rfl)) (v := .ref (He.ga K "KINDS")) rfl (fun F H => by rw [hK]; exact .tup (He.tupB_ok x3 H) (.cons (.str _) (.cons (.str _) (.cons (.str _) (.cons (.str _) .nil rfl) rfl) rfl) rfl))
    n_all := He.free_ok X G (c.fact 27 (f := .free "all") rfl)
    n_any := He.free_ok X G (c.fact 28 (f := .free "any") rfl)
    n_bool := He.free_ok X G (c.fact 29 (f := .free "bool") rfl)
    n_enumerate := He.free_ok X G (c.fact 30 (f := .free "enumerate") rfl)
    n_int := He.free_ok X G (c.fact 31 (f := .free "int") rfl)
    n_isinstance := He.free_ok X G (c.fact 32 (f := .free "isinstance") rfl)
    n_len := He.free_ok X G (c.fact 33 (f := .free "len") rfl)
    n_list := He.free_ok X G (c.fact 34 (f := .free "list") rfl)
    n_range := He.free_ok X G (c.fact 35 (f := .free "range") rfl)
    n_str := He.free_ok X G (c.fact 36 (f := .free "str") rfl)
    n_sum := He.free_ok X G (c.fact 37 (f := .free "sum") rfl)
    n_tuple := He.free_ok X G (c.fact 38 (f := .free "tuple") rfl)
    n_zip := He.free_ok X G (c.fact 39 (f := .free "zip") rfl) }, rfl, rfl⟩
end K62
set_option Elab.async false
set_option linter.all false
set_option maxRecDepth 100000
set_option maxHeartbeats 0
namespace G
open PySem L2
/-- nothing is let out -/
theorem fn_calm {P : Program} {w : World} {K : Frag} {mg : Str → Option Value} {base : Heap} {k : Nat} {f : Addr} {fd : FuncData} {ps : List Str} {spec : Fn} (F : FnS P w K mg base k f fd ps spec) : FnOk P w K mg base CX0 k f fd ps (fun vs H Q _ => spOf K ps.length spec vs H Q E0) :=
  ⟨fun vs H Q E h => h.1, fun A outer s H args us vs Q E hr he hb hv hs => codeAny_mono (F.run A outer s H args us vs Q E0 hr he hb hv hs) fun r s' hq => by
    cases r with
    | error e =>
      have hq' : L2.CX P w outer H s E0 e s' := hq
      obtain ⟨_, _, _, _, _, _, _, _, _, _, _, _, z⟩ := hq'
      exact z.elim
    | ok fl => cases fl <;> exact hq⟩
theorem rp_script {K : Frag} {H : Hp} {a : Addr} {ns : List Int} (h : SqL K H a (ns.map V.int)) : ∃ F : Addr → Prop, Rps K F H [.ref a] [.lst false (ns.map .int)] [] ∧ Wf F H [] := by
  have rs : ∀ (F : Addr → Prop) (l : List Int), Rps K F H (l.map V.int) (l.map D.int) [] := fun F l => by
    induction l with
    | nil => exact .nil
    | cons n l ih => exact .cons (.int n) ih rfl
  rcases h with h | h
  · refine ⟨fun x => x = a, .cons (.lstF rfl h (rs _ ns)) .nil rfl, List.nodup_nil, fun _ z => (nomatch z), fun _ z => (nomatch z), fun x hx => ?_⟩
    subst hx
    rcases h with h | ⟨o, h⟩
    · exact ⟨_, h⟩
    · exact ⟨_, h⟩
  · exact ⟨fun _ => False, .cons (.lstK h (rs _ ns)) .nil rfl, List.nodup_nil, fun _ z => (nomatch z), fun _ z => (nomatch z), fun x hx => hx.elim⟩
end G
open PySem PySem.W PySem.Calls PyProof.Rows
theorem PySem.Challenge.cw_gameworths_k62_slots_told_holds : PySem.Challenge.rw_gameworths_k62_slots_told.Holds := by
  w_on; o_law
  refine HandSHeadRun.head_any (r := OpenLaw.row PySem.Challenge.rw_gameworths_k62_slots_told) (q := view (OpenLaw.row PySem.Challenge.rw_gameworths_k62_slots_told).prog [24]) (H := K62.hk) (ob := K62.ob) (M := 4000) (loose := K62.loose) (d := HandSHeadRun.topDef (OpenLaw.row PySem.Challenge.rw_gameworths_k62_slots_told).prog 24) (kwd := []) K62.ob_eq
    (by kernel_rfl) (fun s => by kernel_rfl) K62.run (by kernel_rfl) (by kernel_rfl) (by kernel_rfl) (by rfl) (by first | assumption | decide +kernel) (by decide +kernel) ⟨rfl, rfl, rfl, rfl, rfl, by decide +kernel⟩ ?hw ?hc
  case hw => w_witness2
  case hc =>
    refine L2.walk_ofE (l := PySem.Challenge.rw_gameworths_k62_slots_told) (n := 63) (k := 12) (x := "_law_script") (CX := L2.CX0) rfl (by decide) (by kernel_rfl) ⟨rfl, by decide, by decide⟩ ?F (fun _ _ _ _ z => z)
    intro w mg fa h Y Gn hmg0
    obtain ⟨K, KX, c, x⟩ := Y
    have hmg : mg ("law" : PySem.Str) = some (.ref fa) := by
      have e : (HandSHeadRun.topDef (OpenLaw.row PySem.Challenge.rw_gameworths_k62_slots_told).prog 24).name = ("law" : PySem.Str) := by kernel_rfl
      rw [← e]
      exact hmg0
    obtain ⟨p, hf, hC⟩ := K62.facts KX Gn c x
    have e := hmg.symm.trans p.g_law
    cases e
    have b := L2.FunD.bindsA (ps := ["_law_script"]) p.F_law fun _ _ _ _ _ _ us hl => match us, hl with | [_], _ => rfl
    refine ⟨K, p.d_law, fun vs H Q _ => G.spOf K 1 (K62.sp_law p.C) vs H Q L2.E0, KX, fun s v => b s [v] rfl, fun H a ns hl _ hS => ?_, fun base _ _ => G.fn_calm (K62.ok_law p)⟩
    obtain ⟨F, r, wf⟩ := G.rp_script hS
    refine ⟨rfl, F, [], _, r, wf, ?_⟩
    rw [K62.law_ok p.C ns (by omega)]
    intro v H' F' A' B _ rv _ _
    cases rv
    rfl
